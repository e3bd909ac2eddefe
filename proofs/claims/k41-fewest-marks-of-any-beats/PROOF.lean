import PyProof.Rows.All
import Wide.All
import OpenK.AllK
import Wide.FinOn
import HandS.ForMost
import HandS.ForExc
import HandS.CallSlots
import HandS.TupAny
import HandS.Zip
import HandS.Flow
import HandS.TupMul
import HandS.Lambda
import KE.KeyNested
import HandS.Wide
import HandS.Deep
import HandS.NoneIn
import KE.GoesEnum
import KE.GoesZip
import HandS.Defaults
import HandS.ExcInit
import KE.KStateDown
import HandS.Head0
import HandS.Head1
import HandS.Head2
import HandS.HeadEnd
import HandS.HeadHook1
import HandS.HeadHook2
import HandS.EndBits
import KE.KExcIs
import HandS.ExcIs
import HandS.ExcField
import KE.DataFind
import HandS.IsInst
import HandS.More
import HandS.EndTab
import HandS.HeadHook4
import HandS.HeadHook3
import HandS.Small
import KE.KDictKeyed
import KE.KDictDisplayH
import HandS.Conv
import HandS.SetKeys
import HandS.WordsDict
import HandS.TupLen
import KE.GoesMore
import KE.KDictZip
import HandS.Iter
import KE.LtData
import KE.SortData
import PyProof.WalkInts
import PyProof.MinMaxWalk
import KE.KDictCopyH
import KE.KDictSum
import HandS.SetFor
import PyProof.IsRules
import KE.KDflt
import HandS.RaiseMore
import HandS.Strs
import PySem.Challenge.RW_tablebeat_k41_whole_fewest_marks_of_any
set_option Elab.async false
set_option linter.all false
set_option maxRecDepth 100000
set_option maxHeartbeats 0
namespace DL
open PySem PySem.Spec PyProof.Rows L2

inductive D where
  | non | bl (b : Bool) | int (i : Int) | str (x : Str)
  | tup (xs : List D) | frl (xs : List D) | ref (l : Nat)
  | exn (a dd : Nat) (ns : List Str) (xs : List D)
  deriving Inhabited

mutual
def D.eqd : (a b : D) → Decidable (a = b)
  | .non, .non => Decidable.isTrue rfl
  | .bl a, .bl b => if h : a = b then Decidable.isTrue (by rw [h]) else Decidable.isFalse (fun e => h (by injection e))
  | .int a, .int b => if h : a = b then Decidable.isTrue (by rw [h]) else Decidable.isFalse (fun e => h (by injection e))
  | .str a, .str b => if h : a = b then Decidable.isTrue (by rw [h]) else Decidable.isFalse (fun e => h (by injection e))
  | .tup a, .tup b => match D.eqds a b with
    | Decidable.isTrue h => Decidable.isTrue (by rw [h])
    | Decidable.isFalse h => Decidable.isFalse (fun e => h (by injection e))
  | .frl a, .frl b => match D.eqds a b with
    | Decidable.isTrue h => Decidable.isTrue (by rw [h])
    | Decidable.isFalse h => Decidable.isFalse (fun e => h (by injection e))
  | .ref a, .ref b => if h : a = b then Decidable.isTrue (by rw [h]) else Decidable.isFalse (fun e => h (by injection e))
  | .non, .bl _ => Decidable.isFalse nofun | .non, .int _ => Decidable.isFalse nofun | .non, .str _ => Decidable.isFalse nofun | .non, .tup _ => Decidable.isFalse nofun | .non, .frl _ => Decidable.isFalse nofun | .non, .ref _ => Decidable.isFalse nofun
  | .bl _, .non => Decidable.isFalse nofun | .bl _, .int _ => Decidable.isFalse nofun | .bl _, .str _ => Decidable.isFalse nofun | .bl _, .tup _ => Decidable.isFalse nofun | .bl _, .frl _ => Decidable.isFalse nofun | .bl _, .ref _ => Decidable.isFalse nofun
  | .int _, .non => Decidable.isFalse nofun | .int _, .bl _ => Decidable.isFalse nofun | .int _, .str _ => Decidable.isFalse nofun | .int _, .tup _ => Decidable.isFalse nofun | .int _, .frl _ => Decidable.isFalse nofun | .int _, .ref _ => Decidable.isFalse nofun
  | .str _, .non => Decidable.isFalse nofun | .str _, .bl _ => Decidable.isFalse nofun | .str _, .int _ => Decidable.isFalse nofun | .str _, .tup _ => Decidable.isFalse nofun | .str _, .frl _ => Decidable.isFalse nofun | .str _, .ref _ => Decidable.isFalse nofun
  | .tup _, .non => Decidable.isFalse nofun | .tup _, .bl _ => Decidable.isFalse nofun | .tup _, .int _ => Decidable.isFalse nofun | .tup _, .str _ => Decidable.isFalse nofun | .tup _, .frl _ => Decidable.isFalse nofun | .tup _, .ref _ => Decidable.isFalse nofun
  | .frl _, .non => Decidable.isFalse nofun | .frl _, .bl _ => Decidable.isFalse nofun | .frl _, .int _ => Decidable.isFalse nofun | .frl _, .str _ => Decidable.isFalse nofun | .frl _, .tup _ => Decidable.isFalse nofun | .frl _, .ref _ => Decidable.isFalse nofun
  | .ref _, .non => Decidable.isFalse nofun | .ref _, .bl _ => Decidable.isFalse nofun | .ref _, .int _ => Decidable.isFalse nofun | .ref _, .str _ => Decidable.isFalse nofun | .ref _, .tup _ => Decidable.isFalse nofun | .ref _, .frl _ => Decidable.isFalse nofun
  | .exn a b c d, .exn a' b' c' d' => match D.eqds d d' with
    | Decidable.isTrue h => if g : a = a' ∧ b = b' ∧ c = c' then Decidable.isTrue (by obtain ⟨rfl, rfl, rfl⟩ := g; rw [h]) else Decidable.isFalse (fun e => g (by injection e with e1 e2 e3 e4; exact ⟨e1, e2, e3⟩))
    | Decidable.isFalse h => Decidable.isFalse (fun e => h (by injection e))
  | .non, .exn _ _ _ _ => Decidable.isFalse nofun | .bl _, .exn _ _ _ _ => Decidable.isFalse nofun | .int _, .exn _ _ _ _ => Decidable.isFalse nofun | .str _, .exn _ _ _ _ => Decidable.isFalse nofun | .tup _, .exn _ _ _ _ => Decidable.isFalse nofun | .frl _, .exn _ _ _ _ => Decidable.isFalse nofun | .ref _, .exn _ _ _ _ => Decidable.isFalse nofun
  | .exn _ _ _ _, .non => Decidable.isFalse nofun | .exn _ _ _ _, .bl _ => Decidable.isFalse nofun | .exn _ _ _ _, .int _ => Decidable.isFalse nofun | .exn _ _ _ _, .str _ => Decidable.isFalse nofun | .exn _ _ _ _, .tup _ => Decidable.isFalse nofun | .exn _ _ _ _, .frl _ => Decidable.isFalse nofun | .exn _ _ _ _, .ref _ => Decidable.isFalse nofun
def D.eqds : (a b : List D) → Decidable (a = b)
  | [], [] => Decidable.isTrue rfl
  | [], _ :: _ => Decidable.isFalse nofun
  | _ :: _, [] => Decidable.isFalse nofun
  | x :: xs, y :: ys => match D.eqd x y, D.eqds xs ys with
    | Decidable.isTrue h, Decidable.isTrue g => Decidable.isTrue (by rw [h, g])
    | Decidable.isFalse h, _ => Decidable.isFalse (fun e => h (by injection e))
    | _, Decidable.isFalse g => Decidable.isFalse (fun e => g (by injection e))
end
instance : DecidableEq D := D.eqd

inductive DO where
  | lst (xs : List D)
  | dic (k : Nat) (kvs : List (D × D))
  | ins (c : Nat) (fs : List (Str × D))
  | dead
  deriving Inhabited, DecidableEq
def DO.live : DO → Bool
  | .dead => false
  | .dic 3 _ => false
  | .dic 4 _ => false
  | .dic 5 _ => false
  | _ => true

structure Exc where
  c : Nat
  fs : Option (List (Str × D))
  deriving Inhabited, DecidableEq

abbrev Sto := List DO
abbrev Sl := List (Option D)
inductive Res (α : Type) where
  | ok (a : α) (S : Sto) | exc (x : Exc) (S : Sto) | stuck
  deriving Inhabited
def Res.bind {α β : Type} (r : Res α) (k : α → Sto → Res β) : Res β := match r with
  | .ok a S => k a S
  | .exc x S => .exc x S
  | .stuck => .stuck
inductive Fl where
  | nx (sd : Sl) | ret (d : D) | brk (sd : Sl) | cnt (sd : Sl)
  deriving Inhabited

structure Cl where
  f : Nat → Addr
  T : List (Addr × Str)
  hh : NestedKey → Int
  lam : Nat → Hp → Obj → Prop
instance : CoeFun Cl (fun _ => Nat → Addr) := ⟨Cl.f⟩
def Imm : HO → Prop
  | .tup _ => True
  | .frz _ _ => True
  | .xd _ => True
  | u => ∃ c q, u = LamX.CodeO c q
theorem imm_code {c : Addr} {q : Str} : Imm (LamX.CodeO c q) := by
  unfold LamX.CodeO
  exact ⟨c, q, rfl⟩
def Keep (H H' : Hp) : Prop := ∀ a o, H a = some o → Imm o → H' a = some o
theorem Keep.refl (H : Hp) : Keep H H := fun _ _ e _ => e
theorem Keep.trans {H H1 H2 : Hp} (a : Keep H H1) (b : Keep H1 H2) : Keep H H2 := fun x o e i => b x o (a x o e i) i
theorem Keep.new {H : Hp} {p : Addr} {o : HO} (h : H p = none) : Keep H (upd H p o) := fun a u e _ => by
  rw [upd_ne (ne_of_none e h)]; exact e
theorem Keep.put {H : Hp} {p : Addr} {o u : HO} (h : H p = some u) (n : ¬ Imm u) : Keep H (upd H p o) := fun a v e i => by
  have : a ≠ p := fun z => by subst z; rw [h] at e; cases e; exact n i
  rw [upd_ne this]; exact e

def Ext (m m' : List Addr) : Prop := ∀ (l : Nat) (a : Addr), m[l]? = some a → m'[l]? = some a
theorem Ext.refl (m : List Addr) : Ext m m := fun _ _ e => e
theorem Ext.trans {a b c : List Addr} (x : Ext a b) (y : Ext b c) : Ext a c := fun l p e => y l p (x l p e)
theorem Ext.snoc (m : List Addr) (p : Addr) : Ext m (m ++ [p]) := fun l a e => by
  rw [List.getElem?_append_left (List.getElem?_eq_some_iff.mp e).1]; exact e

def Fz (K : PySem.W.Frag) (H : Hp) (a : Addr) (xs : List V) : Prop :=
  (∃ o, H a = some (.frz o (.lst xs))) ∨
    ∃ (o : Obj) (its : Array Value) (n : Nat), K.lookup a = some o ∧ o.cls = .type "list" ∧ o.dict = none ∧ o.data = .seq its n ∧ its.size ≤ sizeLine ∧ Vals xs its.toList
theorem Fz.sq {K : PySem.W.Frag} {H : Hp} {a : Addr} {xs : List V} (h : Fz K H a xs) : SqL K H a xs := by
  rcases h with h | h
  · exact .inl (.inr h)
  · exact .inr h
theorem Fz.keep {K : PySem.W.Frag} {H H' : Hp} {a : Addr} {xs : List V} (k : Keep H H') (h : Fz K H a xs) : Fz K H' a xs := by
  rcases h with ⟨o, h⟩ | h
  · exact .inl ⟨o, k _ _ h trivial⟩
  · exact .inr h
theorem sqT_keep {K : PySem.W.Frag} {H H' : Hp} {a : Addr} {xs : List V} (k : Keep H H') (h : SqT K H a xs) : SqT K H' a xs := by
  rcases h with (h | ⟨o, h⟩) | h
  · exact .inl (.inl (k _ _ h trivial))
  · exact .inl (.inr ⟨o, k _ _ h trivial⟩)
  · exact .inr h

mutual
def RV (K : PySem.W.Frag) (m : List Addr) (H : Hp) : D → V → Prop
  | .non, v => v = .non
  | .bl b, v => v = .bl b
  | .int i, v => v = .int i
  | .str x, v => v = .str x
  | .tup ds, v => ∃ a vs, v = .ref a ∧ SqT K H a vs ∧ RVs K m H ds vs
  | .frl ds, v => ∃ a vs, v = .ref a ∧ Fz K H a vs ∧ RVs K m H ds vs
  | .ref l, v => ∃ a, m[l]? = some a ∧ v = .ref a
  | .exn a dd ns ds, v => v = .ref a ∧ ∃ vs, RVs K m H ds vs ∧ (ns ≠ [] → H dd = some (.xd (ns.zip vs)))
def RVs (K : PySem.W.Frag) (m : List Addr) (H : Hp) : List D → List V → Prop
  | [], vs => vs = []
  | d :: ds, vs => ∃ v vs', vs = v :: vs' ∧ RV K m H d v ∧ RVs K m H ds vs'
end

section
variable {K : PySem.W.Frag} {m m' : List Addr} {H H' : Hp}
mutual
theorem RV.mono (x : Ext m m') (k : Keep H H') : ∀ (d : D) {v : V}, RV K m H d v → RV K m' H' d v
  | .non, _, h => h
  | .bl _, _, h => h
  | .int _, _, h => h
  | .str _, _, h => h
  | .tup ds, _, ⟨a, vs, e, s, r⟩ => ⟨a, vs, e, sqT_keep k s, RVs.mono x k ds r⟩
  | .frl ds, _, ⟨a, vs, e, s, r⟩ => ⟨a, vs, e, s.keep k, RVs.mono x k ds r⟩
  | .ref l, _, ⟨a, e, r⟩ => ⟨a, x l a e, r⟩
  | .exn a dd ns ds, _, ⟨e, vs, r, h⟩ => ⟨e, vs, RVs.mono x k ds r, fun n => k _ _ (h n) trivial⟩
theorem RVs.mono (x : Ext m m') (k : Keep H H') : ∀ (ds : List D) {vs : List V}, RVs K m H ds vs → RVs K m' H' ds vs
  | [], _, h => h
  | d :: ds, _, ⟨v, vs', e, r, t⟩ => ⟨v, vs', e, RV.mono x k d r, RVs.mono x k ds t⟩
end
theorem RVs.length : ∀ {ds : List D} {vs : List V}, RVs K m H ds vs → ds.length = vs.length
  | [], _, h => by cases h; rfl
  | d :: ds, _, ⟨v, vs', e, r, t⟩ => by subst e; simp [RVs.length t]
theorem RVs.get : ∀ {ds : List D} {vs : List V} {i : Nat} {d : D}, RVs K m H ds vs → ds[i]? = some d → ∃ v, vs[i]? = some v ∧ RV K m H d v
  | [], _, _, _, _, e => by simp at e
  | d :: ds, _, 0, _, ⟨v, vs', e, r, t⟩, h => by
    subst e; simp at h; subst h; exact ⟨v, rfl, r⟩
  | d :: ds, _, i + 1, _, ⟨v, vs', e, r, t⟩, h => by
    subst e
    obtain ⟨w, e1, e2⟩ := RVs.get (i := i) t (by simpa using h)
    exact ⟨w, by simpa using e1, e2⟩
theorem RVs.set {d : D} {v : V} (r : RV K m H d v) : ∀ {ds : List D} {vs : List V} (i : Nat), RVs K m H ds vs → RVs K m H (ds.set i d) (vs.set i v)
  | [], _, _, h => by cases h; exact rfl
  | _ :: _, _, 0, ⟨w, vs', e, q, t⟩ => by subst e; exact ⟨v, vs', rfl, r, t⟩
  | _ :: _, _, i + 1, ⟨w, vs', e, q, t⟩ => by subst e; exact ⟨w, vs'.set i v, rfl, q, RVs.set r i t⟩
theorem RVs.append : ∀ {ds es : List D} {vs ws : List V}, RVs K m H ds vs → RVs K m H es ws → RVs K m H (ds ++ es) (vs ++ ws)
  | [], _, _, _, h, s => by cases h; exact s
  | _ :: _, _, _, _, ⟨w, vs', e, q, t⟩, s => by subst e; exact ⟨w, _, rfl, q, RVs.append t s⟩
theorem RVs.one {d : D} {v : V} (r : RV K m H d v) : RVs K m H [d] [v] := ⟨v, [], rfl, r, rfl⟩
theorem RVs.take : ∀ {ds : List D} {vs : List V} (n : Nat), RVs K m H ds vs → RVs K m H (ds.take n) (vs.take n)
  | _, _, 0, _ => rfl
  | [], _, _ + 1, h => by cases h; exact rfl
  | _ :: _, _, n + 1, ⟨w, vs', e, q, t⟩ => by subst e; exact ⟨w, _, rfl, q, RVs.take n t⟩
theorem RVs.drop : ∀ {ds : List D} {vs : List V} (n : Nat), RVs K m H ds vs → RVs K m H (ds.drop n) (vs.drop n)
  | _, _, 0, h => h
  | [], _, _ + 1, h => by cases h; exact rfl
  | _ :: _, _, n + 1, ⟨w, vs', e, q, t⟩ => by subst e; exact RVs.drop n t
theorem RVs.rep {ds : List D} {vs : List V} (r : RVs K m H ds vs) : ∀ n : Nat, RVs K m H (List.replicate n ds).flatten (List.replicate n vs).flatten
  | 0 => rfl
  | n + 1 => by
    rw [List.replicate_succ, List.replicate_succ, List.flatten_cons, List.flatten_cons]
    exact RVs.append r (RVs.rep r n)
theorem RVs.erase : ∀ {ds : List D} {vs : List V} (n : Nat), RVs K m H ds vs → RVs K m H (ds.eraseIdx n) (vs.eraseIdx n)
  | [], _, _, h => by cases h; exact rfl
  | _ :: _, _, 0, ⟨w, vs', e, q, t⟩ => by subst e; exact t
  | _ :: _, _, n + 1, ⟨w, vs', e, q, t⟩ => by subst e; exact ⟨w, _, rfl, q, RVs.erase n t⟩
theorem RVs.snoc {ds : List D} {vs : List V} {d : D} {v : V} (t : RVs K m H ds vs) (r : RV K m H d v) : RVs K m H (ds ++ [d]) (vs ++ [v]) := t.append (.one r)
theorem RVs.dropLast : ∀ {ds : List D} {vs : List V}, RVs K m H ds vs → RVs K m H ds.dropLast vs.dropLast := fun {ds vs} t => by
  rw [List.dropLast_eq_take, List.dropLast_eq_take, t.length]; exact t.take _
end

def RF (K : PySem.W.Frag) (m : List Addr) (H : Hp) : List (Str × D) → List (Str × V) → Prop
  | [], gs => gs = []
  | p :: fs, gs => ∃ v gs', gs = (p.1, v) :: gs' ∧ RV K m H p.2 v ∧ RF K m H fs gs'
def key0 : D → Option Key
  | .int i => some (.inl i)
  | .str x => some (.inr x)
  | _ => none
def RD0 (K : PySem.W.Frag) (m : List Addr) (H : Hp) : List (D × D) → List (Key × V) → Prop
  | [], gs => gs = []
  | p :: fs, gs => ∃ k v gs', gs = (k, v) :: gs' ∧ key0 p.1 = some k ∧ RV K m H p.2 v ∧ RD0 K m H fs gs'
def keys0 : List D → Option (List Key)
  | [] => some []
  | d :: ds => match key0 d, keys0 ds with
    | some k, some ks => some (k :: ks)
    | _, _ => none
def key1 : D → Option (List Key)
  | .tup ds => keys0 ds
  | _ => none
def RD1 (K : PySem.W.Frag) (m : List Addr) (H : Hp) : List (D × D) → List (List Key × V) → Prop
  | [], gs => gs = []
  | p :: fs, gs => ∃ k v gs', gs = (k, v) :: gs' ∧ key1 p.1 = some k ∧ RV K m H p.2 v ∧ RD1 K m H fs gs'
mutual
def nkey : D → Option NestedKey
  | .non => some .none
  | .int i => some (.num i)
  | .str x => some (.text x)
  | .tup ds => match nkeys ds with
    | some ks => some (.tup ks)
    | none => none
  | .bl _ => none
  | .frl _ => none
  | .ref _ => none
  | .exn _ _ _ _ => none
def nkeys : List D → Option (List NestedKey)
  | [] => some []
  | d :: ds => match nkey d, nkeys ds with
    | some k, some ks => some (k :: ks)
    | _, _ => none
end
def RawO (a : Addr) (es : Array DictEntry) (ep : Nat) : HO := .ext fun h => ∃ o, h.get? a = some o ∧ o.ExactDict ∧ o.data = .dict es ep
theorem rawO_ne {a c : Addr} {es : Array DictEntry} {ep : Nat} {q : Str} : RawO a es ep ≠ LamX.CodeO c q := by
  intro z
  unfold RawO LamX.CodeO at z
  injection z with z
  have h1 : ∃ o, (⟨Array.replicate (a + 1) { cls := .type "dict", data := .dict es ep }, {}⟩ : Heap).get? a = some o ∧ o.ExactDict ∧ o.data = .dict es ep := by
    refine ⟨{ cls := .type "dict", data := .dict es ep }, ?_, ⟨rfl, rfl, rfl⟩, rfl⟩
    simp only [Heap.get?, Array.getElem?_replicate]
    rw [if_pos (by omega)]
  have h2 := congrFun z ⟨Array.replicate (a + 1) { cls := .type "dict", data := .dict es ep }, {}⟩
  rw [h2] at h1
  obtain ⟨oc, vs, t, e1, e2, _⟩ := h1
  simp only [Heap.get?, Array.getElem?_replicate] at e1
  by_cases hc : c < a + 1
  · rw [if_pos hc] at e1
    cases e1
    cases e2
  · rw [if_neg hc] at e1
    cases e1
def RD2 (K : PySem.W.Frag) (m : List Addr) (H : Hp) : List (D × D) → List (NestedKey × Addr × Value) → Prop
  | [], xs => xs = []
  | p :: fs, xs => ∃ k b v u xs', xs = (k, b, u) :: xs' ∧ nkey p.1 = some k ∧ k.depth ≤ 8 ∧ RV K m H p.1 (.ref b) ∧ RV K m H p.2 v ∧ RelV v u ∧ RD2 K m H fs xs'
def RO (cl : Cl) (K : PySem.W.Frag) (m : List Addr) (H : Hp) : DO → Addr → Prop
  | .lst ds, a => ∃ vs, H a = some (.lst vs) ∧ RVs K m H ds vs
  | .dic 0 kvs, a => ∃ gs, H a = some (.dK gs) ∧ RD0 K m H kvs gs
  | .dic 1 kvs, a => ∃ gs, H a = some (.dT gs) ∧ RD1 K m H kvs gs
  | .dic 2 kvs, a => ∃ xs es ep, H a = some (RawO a es ep) ∧ es.toList = xs.map (fun x => ⟨cl.hh x.1, .ref x.2.1, x.2.2⟩) ∧ (xs.map (·.1)).Nodup ∧ (a == sysModules) = false ∧ RD2 K m H kvs xs
  | .dic 3 kvs, a => ∃ gs o, H a = some (.frz o (.dK gs)) ∧ RD0 K m H kvs gs
  | .dic 4 kvs, a => ∃ ds o vs, kvs = [(.non, .tup ds)] ∧ H a = some (.frz o (.tup vs)) ∧ o.cls = .type "tuple" ∧ o.dict = none ∧ RVs K m H ds vs
  | .dic 5 kvs, a => ∃ i o u, kvs = [(.int i, .non)] ∧ H a = some (.frz o u) ∧ ∀ H', Keep H H' → cl.lam i.toNat H' o
  | .dic _ _, _ => False
  | .ins c fs, a => ∃ dx gs, H a = some (.ins (cl c) dx gs) ∧ RF K m H fs gs
  | .dead, a => ∃ o u, H a = some (.frz o u)
section
variable {cl : Cl} {K : PySem.W.Frag} {m m' : List Addr} {H H' : Hp}
theorem RF.mono (x : Ext m m') (k : Keep H H') : ∀ {fs : List (Str × D)} {gs : List (Str × V)}, RF K m H fs gs → RF K m' H' fs gs
  | [], _, h => h
  | _ :: _, _, ⟨v, gs', e, r, t⟩ => ⟨v, gs', e, RV.mono x k _ r, RF.mono x k t⟩
theorem RD0.mono (x : Ext m m') (k : Keep H H') : ∀ {fs : List (D × D)} {gs : List (Key × V)}, RD0 K m H fs gs → RD0 K m' H' fs gs
  | [], _, h => h
  | _ :: _, _, ⟨q, v, gs', e, hk, r, t⟩ => ⟨q, v, gs', e, hk, RV.mono x k _ r, RD0.mono x k t⟩
theorem RD1.mono (x : Ext m m') (k : Keep H H') : ∀ {fs : List (D × D)} {gs : List (List Key × V)}, RD1 K m H fs gs → RD1 K m' H' fs gs
  | [], _, h => h
  | _ :: _, _, ⟨q, v, gs', e, hk, r, t⟩ => ⟨q, v, gs', e, hk, RV.mono x k _ r, RD1.mono x k t⟩
theorem RD2.mono (x : Ext m m') (k : Keep H H') : ∀ {fs : List (D × D)} {xs : List (NestedKey × Addr × Value)}, RD2 K m H fs xs → RD2 K m' H' fs xs
  | [], _, h => h
  | _ :: _, _, ⟨q, b, v, u, xs', e, hk, hd, r1, r2, r3, t⟩ => ⟨q, b, v, u, xs', e, hk, hd, RV.mono x k _ r1, RV.mono x k _ r2, r3, RD2.mono x k t⟩
theorem RO.mono (x : Ext m m') (k : Keep H H') {a : Addr} (ha : H' a = H a) : ∀ {o : DO}, RO cl K m H o a → RO cl K m' H' o a
  | .lst ds, ⟨vs, e, r⟩ => ⟨vs, by rw [ha]; exact e, r.mono x k⟩
  | .dic 0 kvs, ⟨gs, e, r⟩ => ⟨gs, by rw [ha]; exact e, r.mono x k⟩
  | .dic 1 kvs, ⟨gs, e, r⟩ => ⟨gs, by rw [ha]; exact e, r.mono x k⟩
  | .dic 2 kvs, ⟨xs, es, ep, e, e1, e2, e3, r⟩ => ⟨xs, es, ep, by rw [ha]; exact e, e1, e2, e3, r.mono x k⟩
  | .dic 3 kvs, ⟨gs, o, e, r⟩ => ⟨gs, o, by rw [ha]; exact e, r.mono x k⟩
  | .dic 4 kvs, ⟨ds, o, vs, e0, e, e1, e2, r⟩ => ⟨ds, o, vs, e0, by rw [ha]; exact e, e1, e2, r.mono x k⟩
  | .dic 5 kvs, ⟨i, o, u, e0, e, r⟩ => ⟨i, o, u, e0, by rw [ha]; exact e, fun H2 k2 => r H2 (k.trans k2)⟩
  | .dic (_ + 6) kvs, h => h.elim
  | .ins c fs, ⟨dx, gs, e, r⟩ => ⟨dx, gs, by rw [ha]; exact e, r.mono x k⟩
  | .dead, ⟨o, u, e⟩ => ⟨o, u, by rw [ha]; exact e⟩
def OwnH (u : HO) : Prop := (∀ ps, u ≠ .tbl ps) ∧ ∀ c q, u ≠ LamX.CodeO c q
theorem RO.some {a : Addr} : ∀ {o : DO}, RO cl K m H o a → o.live = true → ∃ u, H a = some u ∧ ¬ Imm u ∧ OwnH u
  | .lst ds, ⟨vs, e, r⟩, _ => ⟨_, e, (fun z => by obtain ⟨c, q, z⟩ := z; unfold LamX.CodeO at z; cases z), (fun _ z => by cases z), fun _ _ z => by unfold LamX.CodeO at z; cases z⟩
  | .dic 0 kvs, ⟨gs, e, r⟩, _ => ⟨_, e, (fun z => by obtain ⟨c, q, z⟩ := z; unfold LamX.CodeO at z; cases z), (fun _ z => by cases z), fun _ _ z => by unfold LamX.CodeO at z; cases z⟩
  | .dic 1 kvs, ⟨gs, e, r⟩, _ => ⟨_, e, (fun z => by obtain ⟨c, q, z⟩ := z; unfold LamX.CodeO at z; cases z), (fun _ z => by cases z), fun _ _ z => by unfold LamX.CodeO at z; cases z⟩
  | .dic 2 kvs, ⟨xs, es, ep, e, _⟩, _ => ⟨_, e, (fun z => by unfold RawO at z; obtain ⟨c, q, z⟩ := z; exact rawO_ne z), (fun _ z => by unfold RawO at z; cases z), fun _ _ z => rawO_ne z⟩
  | .dic 3 _, _, h => by cases h
  | .dic 4 _, _, h => by cases h
  | .dic 5 _, _, h => by cases h
  | .dic (_ + 6) kvs, h, _ => h.elim
  | .ins c fs, ⟨dx, gs, e, r⟩, _ => ⟨_, e, (fun z => by obtain ⟨c, q, z⟩ := z; unfold LamX.CodeO at z; cases z), (fun _ z => by cases z), fun _ _ z => by unfold LamX.CodeO at z; cases z⟩
  | .dead, _, h => by cases h
theorem RO.any {a : Addr} : ∀ {o : DO}, RO cl K m H o a → ∃ u, H a = Option.some u ∧ OwnH u
  | .dead, ⟨o, u, e⟩ => ⟨_, e, (fun _ z => by cases z), fun _ _ z => by unfold LamX.CodeO at z; cases z⟩
  | .lst _, h => let ⟨u, e, _, w⟩ := RO.some h rfl; ⟨u, e, w⟩
  | .dic 0 _, h => let ⟨u, e, _, w⟩ := RO.some h rfl; ⟨u, e, w⟩
  | .dic 1 _, h => let ⟨u, e, _, w⟩ := RO.some h rfl; ⟨u, e, w⟩
  | .dic 2 _, h => let ⟨u, e, _, w⟩ := RO.some h rfl; ⟨u, e, w⟩
  | .dic 3 _, ⟨gs, o, e, r⟩ => ⟨_, e, (fun _ z => by cases z), fun _ _ z => by unfold LamX.CodeO at z; cases z⟩
  | .dic 4 _, ⟨_, o, vs, _, e, _⟩ => ⟨_, e, (fun _ z => by cases z), fun _ _ z => by unfold LamX.CodeO at z; cases z⟩
  | .dic 5 _, ⟨_, o, u, _, e, _⟩ => ⟨_, e, (fun _ z => by cases z), fun _ _ z => by unfold LamX.CodeO at z; cases z⟩
  | .dic (_ + 6) _, h => h.elim
  | .ins _ _, h => let ⟨u, e, _, w⟩ := RO.some h rfl; ⟨u, e, w⟩
end
structure RS (cl : Cl) (K : PySem.W.Frag) (m : List Addr) (S : Sto) (H : Hp) : Prop where
  len : m.length = S.length
  nd : ∀ (i j : Nat) (a : Addr), m[i]? = some a → m[j]? = some a → i = j
  obj : ∀ (l : Nat) (o : DO) (a : Addr), S[l]? = some o → m[l]? = some a → RO cl K m H o a
  tb : LamX.Tabs cl.T H
structure RSl (K : PySem.W.Frag) (m : List Addr) (H : Hp) (sd : Sl) (σ : L2.St) : Prop where
  len : sd.length = σ.length
  at_ : ∀ (i : Nat) (d : D), sd[i]? = some (some d) → ∃ v, σ[i]? = some (some v) ∧ RV K m H d v
def RX (K : PySem.W.Frag) (m : List Addr) (H : Hp) (x : Exc) (dd : Option Addr) : Prop :=
  match x.fs with
  | none => dd = none
  | some fs => ∃ d gs, dd = some d ∧ H d = some (.xd gs) ∧ RF K m H fs gs
section
variable {cl : Cl} {K : PySem.W.Frag} {m m' : List Addr} {S : Sto} {H H' : Hp} {sd : Sl} {σ : L2.St}
theorem RS.adr (r : RS cl K m S H) {l : Nat} {o : DO} (h : S[l]? = some o) : ∃ a, m[l]? = some a ∧ RO cl K m H o a := by
  have hl : l < m.length := by rw [r.len]; exact (List.getElem?_eq_some_iff.mp h).1
  have e : m[l]? = some m[l] := by simp [hl]
  exact ⟨m[l], e, r.obj l o _ h e⟩
theorem RS.back (r : RS cl K m S H) {l : Nat} {a : Addr} (h : m[l]? = some a) : ∃ o, S[l]? = some o ∧ RO cl K m H o a := by
  have hl : l < S.length := by rw [← r.len]; exact (List.getElem?_eq_some_iff.mp h).1
  have e : S[l]? = some S[l] := by simp [hl]
  exact ⟨S[l], e, r.obj l _ _ e h⟩
theorem RS.new (r : RS cl K m S H) {p : Addr} {u : HO} {o : DO} (hp : H p = none) (ho : RO cl K (m ++ [p]) (upd H p u) o p) : RS cl K (m ++ [p]) (S ++ [o]) (upd H p u) := by
  have ne : ∀ (l : Nat) (a : Addr), m[l]? = some a → a ≠ p := fun l a e => by
    obtain ⟨o', _, ro⟩ := r.back e
    obtain ⟨u', h', _⟩ := ro.any
    exact ne_of_none h' hp
  refine ⟨by simp [r.len], fun i j a hi hj => ?_, fun l o' a hs hm => ?_, r.tb.ext fun b o e => by rw [upd_ne (ne_of_none e hp)]; exact e⟩
  · rw [List.getElem?_append] at hi hj
    split at hi <;> split at hj
    · exact r.nd i j a hi hj
    · rename_i h1 h2
      have : a = p := by
        cases hz : j - m.length with
        | zero => rw [hz] at hj; simp at hj; exact hj.symm
        | succ n => rw [hz] at hj; simp at hj
      exact absurd this (ne i a hi)
    · have : a = p := by
        cases hz : i - m.length with
        | zero => rw [hz] at hi; simp at hi; exact hi.symm
        | succ n => rw [hz] at hi; simp at hi
      exact absurd this (ne j a hj)
    · rename_i h1 h2
      have e1 : i - m.length = 0 := by
        cases hz : i - m.length with
        | zero => rfl
        | succ n => rw [hz] at hi; simp at hi
      have e2 : j - m.length = 0 := by
        cases hz : j - m.length with
        | zero => rfl
        | succ n => rw [hz] at hj; simp at hj
      omega
  · rw [List.getElem?_append] at hs hm
    rw [← r.len] at hs
    split at hm
    · rename_i h1
      rw [if_pos h1] at hs
      exact (r.obj l o' a hs hm).mono (Ext.snoc m p) (Keep.new hp) (upd_ne (ne l a hm))
    · rename_i h1
      rw [if_neg h1] at hs
      have e1 : l - m.length = 0 := by
        cases hz : l - m.length with
        | zero => rfl
        | succ n => rw [hz] at hm; simp at hm
      rw [e1] at hm hs
      simp at hm hs
      subst hm hs
      exact ho
theorem tabs_put {T : List (Addr × Str)} {H : Hp} {a : Addr} {u0 u : HO} (hu : H a = some u0) (ow : OwnH u0) (t : LamX.Tabs T H) : LamX.Tabs T (upd H a u) := fun p hp => by
  obtain ⟨ps, h1, h2, h3⟩ := t p hp
  have ne : ∀ b w, H b = some w → (w = u0 → False) → b ≠ a := fun b w e n z => by subst z; rw [hu] at e; cases e; exact n rfl
  refine ⟨ps, by rw [upd_ne (ne _ _ h1 fun z => ow.1 ps z.symm)]; exact h1, h2, fun pos cv hc => ?_⟩
  obtain ⟨c, e1, e2⟩ := h3 pos cv hc
  exact ⟨c, e1, by rw [upd_ne (ne _ _ e2 fun z => ow.2 _ _ z.symm)]; exact e2⟩
theorem RS.put (r : RS cl K m S H) {l : Nat} {a : Addr} {o o' : DO} {u : HO} (hs : S[l]? = some o) (hm : m[l]? = some a) (ho : RO cl K m (upd H a u) o' a) (lv : o.live = true := by rfl) : RS cl K m (S.set l o') (upd H a u) := by
  have hl : l < S.length := (List.getElem?_eq_some_iff.mp hs).1
  obtain ⟨u0, hu, ni, ow⟩ := (r.obj l o a hs hm).some lv
  refine ⟨by simp [r.len], r.nd, fun i o2 b h1 h2 => ?_, tabs_put hu ow r.tb⟩
  by_cases e : l = i
  · subst e
    rw [hm] at h2; cases h2
    rw [List.getElem?_set_self hl] at h1; cases h1
    exact ho
  · rw [List.getElem?_set_ne e] at h1
    have nb : b ≠ a := fun z => by subst z; exact e (r.nd l i b hm h2)
    exact (r.obj i o2 b h1 h2).mono (Ext.refl m) (Keep.put hu ni) (upd_ne nb)
theorem RS.keepPut (r : RS cl K m S H) {l : Nat} {a : Addr} {o : DO} {u : HO} (hs : S[l]? = some o) (hm : m[l]? = some a) (lv : o.live = true := by rfl) : Keep H (upd H a u) := by
  obtain ⟨u0, hu, ni, _⟩ := (r.obj l o a hs hm).some lv
  exact Keep.put hu ni
theorem RS.ext (r : RS cl K m S H) {p : Addr} {u : HO} (hp : H p = none) : RS cl K m S (upd H p u) :=
  ⟨r.len, r.nd, fun l o a h1 h2 => by
    obtain ⟨u0, hu, _⟩ := (r.obj l o a h1 h2).any
    exact (r.obj l o a h1 h2).mono (Ext.refl m) (Keep.new hp) (upd_ne (ne_of_none hu hp)), r.tb.ext fun b o e => by rw [upd_ne (ne_of_none e hp)]; exact e⟩
theorem RSl.mono (x : Ext m m') (k : Keep H H') (r : RSl K m H sd σ) : RSl K m' H' sd σ :=
  ⟨r.len, fun i d e => let ⟨v, e1, e2⟩ := r.at_ i d e; ⟨v, e1, RV.mono x k d e2⟩⟩
theorem RSl.set {d : D} {v : V} (r : RSl K m H sd σ) (i : Nat) (h : RV K m H d v) : RSl K m H (sd.set i (some d)) (σ.set i (some v)) := by
  refine ⟨by simp [r.len], fun j d' e => ?_⟩
  by_cases z : i = j
  · subst z
    have hl : i < sd.length := by have := (List.getElem?_eq_some_iff.mp e).1; simpa using this
    rw [List.getElem?_set_self hl] at e; cases e
    exact ⟨v, by rw [List.getElem?_set_self (by rw [← r.len]; exact hl)], h⟩
  · rw [List.getElem?_set_ne z] at e
    rw [List.getElem?_set_ne z]
    exact r.at_ j d' e
theorem RSl.unset (r : RSl K m H sd σ) (i : Nat) : RSl K m H (sd.set i none) (σ.set i none) := by
  refine ⟨by simp [r.len], fun j d' e => ?_⟩
  by_cases z : i = j
  · subst z
    have hl : i < sd.length := by have := (List.getElem?_eq_some_iff.mp e).1; simpa using this
    rw [List.getElem?_set_self hl] at e; cases e
  · rw [List.getElem?_set_ne z] at e
    rw [List.getElem?_set_ne z]
    exact r.at_ j d' e
end

section
variable (cl : Cl) (K : PySem.W.Frag)
def Post {α β : Type} (Rv : List Addr → Hp → α → β → Prop) (m : List Addr) (H : Hp) (E : XK) (Q : β → Hp → Prop) : Res α → Prop
  | .ok d S' => ∀ m' v H', Ext m m' → Keep H H' → RS cl K m' S' H' → Rv m' H' d v → Q v H'
  | .exc x S' => ∀ m' dd H', Ext m m' → Keep H H' → RS cl K m' S' H' → RX K m' H' x dd → E (.ref (cl x.c)) dd H'
  | .stuck => False
end
section
variable {cl : Cl} {K : PySem.W.Frag} {α β γ δ : Type} {Rv : List Addr → Hp → α → β → Prop} {Rw : List Addr → Hp → γ → δ → Prop} {m m' : List Addr} {H H' : Hp} {E : XK} {Q : β → Hp → Prop}
theorem Post.mono (x : Ext m m') (k : Keep H H') : ∀ {r : Res α}, Post cl K Rv m H E Q r → Post cl K Rv m' H' E Q r
  | .ok _ _, h => fun m2 v H2 x2 k2 => h m2 v H2 (x.trans x2) (k.trans k2)
  | .exc _ _, h => fun m2 v H2 x2 k2 => h m2 v H2 (x.trans x2) (k.trans k2)
  | .stuck, h => h
theorem Post.bind {r : Res α} {k : α → Sto → Res γ} {Q' : δ → Hp → Prop} (h : Post cl K Rw m H E Q' (r.bind k))
    (hk : ∀ d S1 m1 v H1, Ext m m1 → Keep H H1 → RS cl K m1 S1 H1 → Rv m1 H1 d v → Post cl K Rw m1 H1 E Q' (k d S1) → Q v H1) : Post cl K Rv m H E Q r := by
  cases r with
  | ok d S1 => exact fun m1 v H1 x1 k1 rs rv => hk d S1 m1 v H1 x1 k1 rs rv (Post.mono x1 k1 h)
  | exc x S1 => exact h
  | stuck => exact h
theorem Post.imp {Q' : β → Hp → Prop} (hq : ∀ v H, Q v H → Q' v H) : ∀ {r : Res α}, Post cl K Rv m H E Q r → Post cl K Rv m H E Q' r
  | .ok _ _, h => fun m2 v H2 x2 k2 a b => hq _ _ (h m2 v H2 x2 k2 a b)
  | .exc _ _, h => h
  | .stuck, h => h
theorem Post.here {d : α} {v : β} {S : Sto} (h : Post cl K Rv m H E Q (.ok d S)) (rs : RS cl K m S H) (rv : Rv m H d v) : Q v H := h m v H (Ext.refl m) (Keep.refl H) rs rv
end
def RBool : List Addr → Hp → Bool → Bool → Prop := fun _ _ a b => a = b
inductive FC where
  | nx (σ : L2.St) | ret (v : V) | brk (σ : L2.St) | cnt (σ : L2.St)
def endQ (D : Ends) : FC → Hp → Prop
  | .nx σ, H => D.nx σ H
  | .ret v, H => D.rt v H
  | .brk σ, H => D.bk σ H
  | .cnt σ, H => D.ct σ H
def RFl (K : PySem.W.Frag) (m : List Addr) (H : Hp) : Fl → FC → Prop
  | .nx sd, .nx σ => RSl K m H sd σ
  | .ret d, .ret v => RV K m H d v
  | .brk sd, .brk σ => RSl K m H sd σ
  | .cnt sd, .cnt σ => RSl K m H sd σ
  | _, _ => False

section
variable (cl : Cl) (X : Cx) (E : XK)
def DE (e : Expr) (f : Sl → Sto → Res D) : Prop :=
  ∃ t, PE X e t ∧ ∀ m S H sd σ Q, RS cl X.K m S H → RSl X.K m H sd σ → Post cl X.K (RV X.K) m H E Q (f sd S) → t σ H Q
def DT (e : Expr) (f : Sl → Sto → Res Bool) : Prop :=
  ∃ t, PT X e t ∧ ∀ m S H sd σ Q, RS cl X.K m S H → RSl X.K m H sd σ → Post cl X.K RBool m H E Q (f sd S) → t σ H Q
def DW (e : Expr) (f : Sl → Sto → Res Bool) : Prop :=
  ∃ t, PW X e t ∧ ∀ m S H sd σ Q, RS cl X.K m S H → RSl X.K m H sd σ → Post cl X.K RBool m H E Q (f sd S) → t σ H Q
def DA (es : List Expr) (f : Sl → Sto → Res (List D)) : Prop :=
  ∃ t, PA X es t ∧ ∀ m S H sd σ Q, RS cl X.K m S H → RSl X.K m H sd σ → Post cl X.K (RVs X.K) m H E Q (f sd S) → t σ H Q
def DS (st : Stmt) (f : Sl → Sto → Res Fl) : Prop :=
  ∃ t, PS X st t ∧ ∀ m S H sd σ D, RS cl X.K m S H → RSl X.K m H sd σ → Post cl X.K (RFl X.K) m H E (endQ D) (f sd S) → t D σ H
def DSs (st : List Stmt) (f : Sl → Sto → Res Fl) : Prop :=
  ∃ t, PSs X st t ∧ ∀ m S H sd σ D, RS cl X.K m S H → RSl X.K m H sd σ → Post cl X.K (RFl X.K) m H E (endQ D) (f sd S) → t D σ H
def DG (tg : Expr) (f : D → Sl → Sto → Res Sl) : Prop :=
  ∃ g, PG X tg g ∧ ∀ m S H sd σ d v Q, RS cl X.K m S H → RSl X.K m H sd σ → RV X.K m H d v → Post cl X.K (RSl X.K) m H E Q (f d sd S) → g v σ H Q
def DGs (tg : List Expr) (f : List D → Sl → Sto → Res Sl) : Prop :=
  ∃ g, PGs X tg g ∧ ∀ m S H sd σ ds vs Q, RS cl X.K m S H → RSl X.K m H sd σ → RVs X.K m H ds vs → Post cl X.K (RSl X.K) m H E Q (f ds sd S) → g vs σ H Q
end

section
variable {cl : Cl} {X : Cx} {E : XK}
def dVar (i : Nat) : Sl → Sto → Res D := fun sd S => match sd[i]? with
  | some (some d) => .ok d S
  | _ => .stuck
def dC (d : D) : Sl → Sto → Res D := fun _ S => .ok d S
theorem z13 (i : Nat) {x : Str} {pos : Pos} (hN : X.N[i]? = some x := by rfl) (hv : Vis X.env.scope x := by first | exact Or.inl rfl | exact Or.inr (Or.inl rfl) | exact Or.inr (Or.inr rfl)) (hd : (x == ("__debug__" : Str)) = false := by decide)
    (hcd : (x == ("__classdict__" : Str)) = false := by decide) : DE cl X E (.Name x pos) (dVar i) := by
  refine ⟨_, pe_var hN hv hd hcd, fun m S H sd σ Q rs rl h => ?_⟩
  unfold dVar at h
  split at h
  · rename_i d e
    obtain ⟨v, e1, r⟩ := rl.at_ i d e
    exact ⟨v, e1, h.here rs r⟩
  · exact h.elim
theorem z2S {i : Int} {j pos} : DE cl X E (.Constant (.int i) j pos) (dC (.int i)) := ⟨_, pe_int, fun m S H sd σ Q rs rl h => h.here rs rfl⟩
theorem de_bl {i : Bool} {j pos} : DE cl X E (.Constant (.bool i) j pos) (dC (.bl i)) := ⟨_, pe_bl, fun m S H sd σ Q rs rl h => h.here rs rfl⟩
theorem de_str {x : Str} {j pos} : DE cl X E (.Constant (.str x) j pos) (dC (.str x)) := ⟨_, pe_str, fun m S H sd σ Q rs rl h => h.here rs rfl⟩

def dNil : Sl → Sto → Res (List D) := fun _ S => .ok [] S
def dCons (f : Sl → Sto → Res D) (g : Sl → Sto → Res (List D)) : Sl → Sto → Res (List D) := fun sd S =>
  (f sd S).bind fun d S1 => (g sd S1).bind fun ds S2 => .ok (d :: ds) S2
theorem z2P : DA cl X E [] dNil := ⟨_, pa_nil, fun m S H sd σ Q rs rl h => h.here rs rfl⟩
theorem z2M {e : Expr} {es : List Expr} {f g} (he : DE cl X E e f) (hr : DA cl X E es g) (hs : starEach (e :: es) X.env = (false, eval e X.env) :: starEach es X.env := by rfl) : DA cl X E (e :: es) (dCons f g) := by
  obtain ⟨t, p, he⟩ := he
  obtain ⟨u, q, hr⟩ := hr
  refine ⟨_, pa_cons p q hs, fun m S H sd σ Q rs rl h => ?_⟩
  refine he m S H sd σ _ rs rl (Post.bind h fun d S1 m1 v H1 x1 k1 rs1 rv1 h1 => ?_)
  refine hr m1 S1 H1 sd σ _ rs1 (rl.mono x1 k1) (Post.bind h1 fun ds S2 m2 vs H2 x2 k2 rs2 rv2 h2 => ?_)
  exact h2.here rs2 ⟨v, vs, rfl, RV.mono x2 k2 d rv1, rv2⟩

def dTup (f : Sl → Sto → Res (List D)) : Sl → Sto → Res D := fun sd S => (f sd S).bind fun ds S1 => if ds.length ≤ sizeLine then .ok (.tup ds) S1 else .stuck
def dLst (f : Sl → Sto → Res (List D)) : Sl → Sto → Res D := fun sd S => (f sd S).bind fun ds S1 => if ds.length ≤ sizeLine then .ok (.ref S1.length) (S1 ++ [.lst ds]) else .stuck
theorem newTup {m : List Addr} {S : Sto} {H : Hp} {ds : List D} {vs : List V} {p : Addr} {K : PySem.W.Frag} (rs : RS cl K m S H) (r : RVs K m H ds vs) (hp : H p = none) :
    RS cl K m S (upd H p (.tup vs)) ∧ RV K m (upd H p (.tup vs)) (.tup ds) (.ref p) :=
  ⟨rs.ext hp, p, vs, rfl, .of upd_same, r.mono (Ext.refl m) (Keep.new hp)⟩
theorem newLst {m : List Addr} {S : Sto} {H : Hp} {ds : List D} {vs : List V} {p : Addr} {K : PySem.W.Frag} (rs : RS cl K m S H) (r : RVs K m H ds vs) (hp : H p = none) :
    RS cl K (m ++ [p]) (S ++ [.lst ds]) (upd H p (.lst vs)) ∧ RV K (m ++ [p]) (upd H p (.lst vs)) (.ref S.length) (.ref p) :=
  ⟨rs.new hp ⟨vs, upd_same, r.mono (Ext.snoc m p) (Keep.new hp)⟩, p, by rw [← rs.len]; simp, rfl⟩
theorem de_tup {es : List Expr} {f x1 pos} (h : DA cl X E es f) : DE cl X E (.Tuple es x1 pos) (dTup f) := by
  obtain ⟨t, p, h⟩ := h
  refine ⟨_, pe_tup p, fun m S H sd σ Q rs rl hh => ?_⟩
  refine h m S H sd σ _ rs rl (Post.bind hh fun ds S1 m1 vs H1 x1 k1 rs1 rv1 h1 => ?_)
  split at h1
  · rename_i hz
    refine ⟨by rw [← rv1.length]; exact hz, fun p hp => ?_⟩
    obtain ⟨a, b⟩ := newTup rs1 rv1 hp
    exact h1 m1 _ _ (Ext.refl m1) (Keep.new hp) a b
  · exact h1.elim
theorem de_lst {es : List Expr} {f pos} (h : DA cl X E es f) : DE cl X E (.List es pos) (dLst f) := by
  obtain ⟨t, p, h⟩ := h
  refine ⟨_, pe_lst p, fun m S H sd σ Q rs rl hh => ?_⟩
  refine h m S H sd σ _ rs rl (Post.bind hh fun ds S1 m1 vs H1 x1 k1 rs1 rv1 h1 => ?_)
  split at h1
  · rename_i hz
    refine ⟨by rw [← rv1.length]; exact hz, fun p hp => ?_⟩
    obtain ⟨a, b⟩ := newLst rs1 rv1 hp
    exact h1 _ _ _ (Ext.snoc m1 p) (Keep.new hp) a b
  · exact h1.elim
end
def lsD (d : D) (S : Sto) : Option (List D) := match d with
  | .frl ds => some ds
  | .ref l => match S[l]? with
    | some (.lst ds) => some ds
    | _ => none
  | _ => none
theorem ls_rv {cl : Cl} {K : PySem.W.Frag} {m : List Addr} {S : Sto} {H : Hp} {d : D} {v : V} {ds : List D} (rs : RS cl K m S H) (rv : RV K m H d v) (h : lsD d S = some ds) :
    ∃ a vs, v = .ref a ∧ SqL K H a vs ∧ RVs K m H ds vs := by
  unfold lsD at h
  split at h
  · cases h
    obtain ⟨a, vs, rfl, s1, r1⟩ := rv
    exact ⟨a, vs, rfl, s1.sq, r1⟩
  · split at h
    · rename_i es e1
      cases h
      obtain ⟨a, h1, ws, hv, r1⟩ := rs.adr e1
      obtain ⟨a', h2, rfl⟩ := rv
      rw [h1] at h2; cases h2
      exact ⟨a, ws, rfl, SqL.of hv, r1⟩
    · cases h
  · cases h
end DL

namespace DL
open PySem PySem.Spec PyProof.Rows L2

section
variable (cl : Cl) (X : Cx)
def OpD (f : Value → Value → Sem Value) (g : D → D → Sto → Res D) : Prop :=
  ∃ r, OpR X f r ∧ ∀ (E : XK) m S H x y vx vy Q, RS cl X.K m S H → RV X.K m H x vx → RV X.K m H y vy → Post cl X.K (RV X.K) m H E Q (g x y S) → r vx vy H Q
end
def d2 (g : D → D → Sto → Res D) (fa fb : Sl → Sto → Res D) : Sl → Sto → Res D := fun sd S => (fa sd S).bind fun x S1 => (fb sd S1).bind fun y S2 => g x y S2
def d2T (g : D → D → Sto → Res D) (fa fb : Sl → Sto → Res D) : Sl → Sto → Res Bool := fun sd S => (d2 g fa fb sd S).bind fun d S1 => match d with
  | .bl b => .ok b S1
  | _ => .stuck
section
variable {cl : Cl} {X : Cx} {E : XK} {a b c : Expr} {fa fb fc : Sl → Sto → Res D}
theorem z2U {op : Operator} {g} (ho : OpD cl X (binaryOp op) g) (ha : DE cl X E a fa) (hb : DE cl X E b fb) {pos} : DE cl X E (.BinOp a op b pos) (d2 g fa fb) := by
  obtain ⟨r, ho, hr⟩ := ho
  obtain ⟨ta, pa, ha⟩ := ha
  obtain ⟨tb, pb, hb⟩ := hb
  refine ⟨_, pe_op ho pa pb, fun m S H sd σ Q rs rl h => ?_⟩
  refine ha m S H sd σ _ rs rl (Post.bind h fun x S1 m1 vx H1 x1 k1 rs1 rx h1 => ?_)
  refine hb m1 S1 H1 sd σ _ rs1 (rl.mono x1 k1) (Post.bind h1 fun y S2 m2 vy H2 x2 k2 rs2 ry h2 => ?_)
  exact hr E m2 S2 H2 x y vx vy Q rs2 (RV.mono x2 k2 x rx) ry h2
theorem de_cmp {op : CmpOp} {g} (ho : OpD cl X (compareOp op) g) (ha : DE cl X E a fa) (hb : DE cl X E b fb) {pos} (hm : behindInMarks op b = false := by with_unfolding_all rfl) : DE cl X E (.Compare a [op] [b] pos) (d2 g fa fb) := by
  obtain ⟨r, ho, hr⟩ := ho
  obtain ⟨ta, pa, ha⟩ := ha
  obtain ⟨tb, pb, hb⟩ := hb
  refine ⟨_, pe_cmpR ho pa pb hm, fun m S H sd σ Q rs rl h => ?_⟩
  refine ha m S H sd σ _ rs rl (Post.bind h fun x S1 m1 vx H1 x1 k1 rs1 rx h1 => ?_)
  refine hb m1 S1 H1 sd σ _ rs1 (rl.mono x1 k1) (Post.bind h1 fun y S2 m2 vy H2 x2 k2 rs2 ry h2 => ?_)
  exact hr E m2 S2 H2 x y vx vy Q rs2 (RV.mono x2 k2 x rx) ry h2
theorem bind_assoc {α β γ : Type} (r : Res α) (f : α → Sto → Res β) (g : β → Sto → Res γ) : (r.bind f).bind g = r.bind fun a S => (f a S).bind g := by
  cases r <;> rfl
theorem dt_cmp {op : CmpOp} {g} (ho : OpD cl X (compareOp op) g) (ha : DE cl X E a fa) (hb : DE cl X E b fb) {pos} (hm : behindInMarks op b = false := by with_unfolding_all rfl) : DT cl X E (.Compare a [op] [b] pos) (d2T g fa fb) := by
  obtain ⟨r, ho, hr⟩ := ho
  obtain ⟨ta, pa, ha⟩ := ha
  obtain ⟨tb, pb, hb⟩ := hb
  refine ⟨_, pt_cmpR ho pa pb hm, fun m S H sd σ Q rs rl h => ?_⟩
  unfold d2T d2 at h
  rw [bind_assoc] at h
  refine ha m S H sd σ _ rs rl (Post.bind h fun x S1 m1 vx H1 x1 k1 rs1 rx h1 => ?_)
  rw [bind_assoc] at h1
  refine hb m1 S1 H1 sd σ _ rs1 (rl.mono x1 k1) (Post.bind h1 fun y S2 m2 vy H2 x2 k2 rs2 ry h2 => ?_)
  refine hr E m2 S2 H2 x y vx vy _ rs2 (RV.mono x2 k2 x rx) ry (Post.bind h2 fun z S3 m3 vz H3 x3 k3 rs3 rz h3 => ?_)
  cases z with
  | bl k => exact ⟨k, rz, h3.here rs3 rfl⟩
  | _ => exact h3.elim
def d3 (g g' : D → D → Sto → Res D) (fa fb fc : Sl → Sto → Res D) : Sl → Sto → Res D := fun sd S => (fa sd S).bind fun x S1 => (fb sd S1).bind fun y S2 => (g x y S2).bind fun z S3 => match z with
  | .bl true => (fc sd S3).bind fun w S4 => g' y w S4
  | .bl false => .ok (.bl false) S3
  | _ => .stuck
def d3T (g g' : D → D → Sto → Res D) (fa fb fc : Sl → Sto → Res D) : Sl → Sto → Res Bool := fun sd S => (d3 g g' fa fb fc sd S).bind fun d S1 => match d with
  | .bl b => .ok b S1
  | _ => .stuck
theorem dt_chain {op op' : CmpOp} {g g'} (ho : OpD cl X (compareOp op) g) (ho' : OpD cl X (compareOp op') g') (ha : DE cl X E a fa) (hb : DE cl X E b fb) (hc : DE cl X E c fc) {pos} (hm : lastMarks [op, op'] [b, c] = false := by with_unfolding_all rfl) :
    DT cl X E (.Compare a [op, op'] [b, c] pos) (d3T g g' fa fb fc) := by
  obtain ⟨r, ho, hr⟩ := ho
  obtain ⟨r', ho', hr'⟩ := ho'
  obtain ⟨ta, pa, ha⟩ := ha
  obtain ⟨tb, pb, hb⟩ := hb
  obtain ⟨tc, pc, hc⟩ := hc
  refine ⟨_, pt_chain ho ho' pa pb pc hm, fun m S H sd σ Q rs rl h => ?_⟩
  unfold d3T d3 at h
  rw [bind_assoc] at h
  refine ha m S H sd σ _ rs rl (Post.bind h fun x S1 m1 vx H1 x1 k1 rs1 rx h1 => ?_)
  rw [bind_assoc] at h1
  refine hb m1 S1 H1 sd σ _ rs1 (rl.mono x1 k1) (Post.bind h1 fun y S2 m2 vy H2 x2 k2 rs2 ry h2 => ?_)
  rw [bind_assoc] at h2
  refine hr E m2 S2 H2 x y vx vy _ rs2 (RV.mono x2 k2 x rx) ry (Post.bind h2 fun z S3 m3 vz H3 x3 k3 rs3 rz h3 => ?_)
  cases z with
  | bl k =>
    refine ⟨k, rz, ?_⟩
    cases k with
    | false => exact iteF ⟨false, rfl, h3.here rs3 rfl⟩
    | true =>
      dsimp only at h3
      rw [bind_assoc] at h3
      refine iteT (hc m3 S3 H3 sd σ _ rs3 (rl.mono ((x1.trans x2).trans x3) ((k1.trans k2).trans k3)) (Post.bind h3 fun w S4 m4 vw H4 x4 k4 rs4 rw' h4 => ?_))
      refine hr' E m4 S4 H4 y w vy vw _ rs4 (RV.mono (x3.trans x4) (k3.trans k4) y ry) rw' (Post.bind h4 fun q S5 m5 vq H5 x5 k5 rs5 rq h5 => ?_)
      cases q with
      | bl k' => exact ⟨k', rq, h5.here rs5 rfl⟩
      | _ => exact h5.elim
  | _ => exact h3.elim
end

def addD : D → D → Sto → Res D
  | .int a, .int b, S => .ok (.int (a + b)) S
  | .str a, .str b, S => if a.length + b.length ≤ sizeLine then .ok (.str (a ++ b)) S else .stuck
  | .tup a, .tup b, S => if a.length + b.length ≤ sizeLine then .ok (.tup (a ++ b)) S else .stuck
  | a, b, S => match lsD a S, lsD b S with
    | some x, some y => if x.length + y.length ≤ sizeLine then .ok (.ref S.length) (S ++ [.lst (x ++ y)]) else .stuck
    | _, _ => .stuck
def subD : D → D → Sto → Res D
  | .int a, .int b, S => .ok (.int (a - b)) S
  | _, _, _ => .stuck
noncomputable def bnd (k : Nat) (a : Int) : Bool := @decide (-(2 ^ k : Int) ≤ a ∧ a < 2 ^ k) (Classical.propDecidable _)
theorem bnd_ok {k : Nat} {a : Int} (h : bnd k a = true) : -(2 ^ k : Int) ≤ a ∧ a < 2 ^ k := @of_decide_eq_true _ (Classical.propDecidable _) h
theorem bnd_of {k : Nat} {a : Int} (h : -(2 ^ k : Int) ≤ a ∧ a < 2 ^ k) : bnd k a = true := @decide_eq_true _ (Classical.propDecidable _) h
noncomputable def fdOk (b : Int) : Bool := @decide (0 < b ∧ b.natAbs.log2 < 9000) (Classical.propDecidable _)
theorem fdOk_ok {b : Int} (h : fdOk b = true) : 0 < b ∧ b.natAbs.log2 < 9000 := @of_decide_eq_true _ (Classical.propDecidable _) h
theorem fdOk_of {b : Int} (h : 0 < b ∧ b.natAbs.log2 < 9000) : fdOk b = true := @decide_eq_true _ (Classical.propDecidable _) h
theorem mul_ok {a b : Int} (hz : (bnd 63 a || bnd 63 b) = true) : (-(2 ^ 64) < a ∧ a < 2 ^ 64) ∨ (-(2 ^ 64) < b ∧ b < 2 ^ 64) := by
  rw [Bool.or_eq_true] at hz
  rcases hz with hz | hz
  · have := bnd_ok hz; exact .inl ⟨by omega, by omega⟩
  · have := bnd_ok hz; exact .inr ⟨by omega, by omega⟩
noncomputable def powOk (a b : Int) : Bool := @decide (0 ≤ b ∧ b ≤ 1000000 ∧ a.natAbs < 2 ^ 64) (Classical.propDecidable _)
theorem powOk_ok {a b : Int} (h : powOk a b = true) : 0 ≤ b ∧ b ≤ 1000000 ∧ a.natAbs < 2 ^ 64 := @of_decide_eq_true _ (Classical.propDecidable _) h
theorem powOk_of {a b : Int} (h : 0 ≤ b ∧ b ≤ 1000000 ∧ a.natAbs < 2 ^ 64) : powOk a b = true := @decide_eq_true _ (Classical.propDecidable _) h
def repS (z : Str) (n : Int) : Str := ⟨(List.replicate n.toNat z.cps.toList).flatten.toArray⟩
noncomputable def mulD : D → D → Sto → Res D
  | .int a, .int b, S => if (bnd 63 a || bnd 63 b) = true then .ok (.int (a * b)) S else .stuck
  | .str z, .int n, S => if bnd 63 n = true ∧ z.length * n.toNat ≤ sizeLine then .ok (.str (repS z n)) S else .stuck
  | .tup xs, .int n, S => if bnd 63 n = true ∧ xs.length * n.toNat ≤ sizeLine then .ok (.tup (List.replicate n.toNat xs).flatten) S else .stuck
  | .ref a, .int n, S => match S[a]? with
    | some (.lst xs) => if bnd 63 n = true ∧ xs.length * n.toNat ≤ sizeLine then .ok (.ref S.length) (S ++ [.lst (List.replicate n.toNat xs).flatten]) else .stuck
    | _ => .stuck
  | _, _, _ => .stuck
noncomputable def fdivD : D → D → Sto → Res D
  | .int a, .int b, S => if fdOk b = true then .ok (.int (a / b)) S else .stuck
  | _, _, _ => .stuck
def modD : D → D → Sto → Res D
  | .int a, .int b, S => if 0 < b then .ok (.int (a % b)) S else .stuck
  | _, _, _ => .stuck
noncomputable def powD : D → D → Sto → Res D
  | .int a, .int b, S => if powOk a b = true then .ok (.int (a ^ b.toNat)) S else .stuck
  | _, _, _ => .stuck
section
variable {cl : Cl} {X : Cx}
theorem op_catS : OpR X (binaryOp .Add) (fun x y H Q => ∃ l b xs zs, x = .ref l ∧ y = .ref b ∧ SqL X.K H l xs ∧ SqL X.K H b zs ∧ xs.length + zs.length ≤ sizeLine ∧ ∀ p, H p = none → Q (.ref p) (upd H p (.lst (xs ++ zs)))) := by
  intro pins s σ H x y v u Q I rx ry h
  obtain ⟨l, b, xs, zs, rfl, rfl, hH, hB, hz, q⟩ := h
  cases rx
  cases ry
  obtain ⟨its, r, ⟨⟨cls, dd, data, sl⟩, n, ho, hc, hdn, hdt⟩, hlen⟩ := I.list hH
  obtain ⟨its2, r2, ⟨⟨cls2, dd2, data2, sl2⟩, n2, ho2, hc2, hdn2, hdt2⟩, hlen2⟩ := I.list hB
  simp only at hc hdt hc2 hdt2
  subst hc hdt hc2 hdt2
  have ea : its.toArray ++ its2.toArray = (its ++ its2).toArray := by simp
  have l1 := r.length
  have l2 := r2.length
  refine concat_meets ⟨_, ho, rfl⟩ ⟨_, ho2, rfl⟩ noFill_list_add seq_list_add PySem.F.slot_list_add PySem.F.entry_list_add (PySem.F.args_list_add_2 _ _) (list_addW l b its.toArray its2.toArray n n2 dd dd2 sl sl2 (by simp; omega)) ⟨ho, ho2, ?_⟩
  rw [ea]
  exact ⟨.ref _, _, I.lnew (t' := s.toks) (r.append r2) (by rw [List.length_append]; omega), rfl, q _ I.fresh⟩
theorem flat_len (xs : List Nat) (n : Nat) : (List.replicate n xs).flatten.length = xs.length * n := by
  induction n with
  | zero => simp
  | succ n ih => rw [List.replicate_succ, List.flatten_cons, List.length_append, ih, Nat.mul_succ, Nat.add_comm]
theorem fold_rep (xs : Array Nat) : ∀ (n : Nat) (acc : Array Nat), (List.replicate n xs).foldl (· ++ ·) acc = acc ++ (List.replicate n xs.toList).flatten.toArray
  | 0, acc => by simp
  | n + 1, acc => by
    rw [List.replicate_succ, List.foldl_cons, fold_rep xs n, List.replicate_succ, List.flatten_cons]
    apply Array.ext'
    simp
theorem op_repS : OpR X (binaryOp .Mult) (fun x y H Q => ∃ (z : Str) (k : Int), x = .str z ∧ y = .int k ∧ -(2 ^ 63) ≤ k ∧ k < 2 ^ 63 ∧ z.length * k.toNat ≤ sizeLine ∧ Q (.str (repS z k)) H) := by
  intro pins s σ H x y v u Q I rx ry h
  obtain ⟨z, k, rfl, rfl, h1, h2, hz, q⟩ := h
  obtain ⟨t, rfl⟩ := rx
  obtain ⟨t', rfl⟩ := ry
  have hzl : z.length = z.cps.toList.length := by simp [Str.length]
  have sL : sizeLine = 16777216 := sizeLine_eq
  refine PySem.P.mul_str (by rw [decide_eq_false (by omega), decide_eq_false (by omega)]; rfl) (fun c1 c2 => ?_) (fun c1 c2 => ?_) ?_
  · rw [Bool.or_eq_false_iff] at c2
    have hk : 0 < k := by omega
    have e1 : (z.length : Int) * k ≤ 16777216 := by
      have : ((z.length * k.toNat : Nat) : Int) ≤ 16777216 := by rw [sL] at hz; exact Int.ofNat_le.mpr hz
      have e2 : ((z.length * k.toNat : Nat) : Int) = (z.length : Int) * k := by
        rw [Int.natCast_mul, Int.toNat_of_nonneg (by omega)]
      omega
    intro hgt
    have : (z.length : Int) ≤ (2 ^ 63 - 1) / k := by
      rw [Int.le_ediv_iff_mul_le hk]
      omega
    omega
  · exact decide_eq_false (by omega)
  · by_cases c1 : k < 1
    · rw [if_pos c1]
      have e : repS z k = Str.empty := by
        unfold repS
        rw [show k.toNat = 0 by omega]
        rfl
      rw [e] at q
      exact ⟨by decide, ⟨.str _, H, I.tok _, ⟨_, rfl⟩, q⟩⟩
    · rw [if_neg c1]
      by_cases c2 : (k == 1 || z.length == 0) = true
      · rw [if_pos c2]
        have e : repS z k = z := by
          unfold repS
          rw [Bool.or_eq_true] at c2
          rcases c2 with c2 | c2
          · have : k = 1 := by simpa using c2
            subst this
            simp
          · have : z.length = 0 := by simpa using c2
            have e0 : z.cps = #[] := by
              apply Array.eq_empty_of_size_eq_zero
              simpa [Str.length] using this
            cases z with
            | mk cps =>
              simp only at e0
              subst e0
              simp
        rw [e] at q
        exact ⟨.str _, H, I, ⟨_, rfl⟩, q⟩
      · rw [if_neg c2]
        have e : (⟨(List.replicate k.toNat z.cps).foldl (· ++ ·) #[]⟩ : Str) = repS z k := by
          unfold repS
          rw [fold_rep]
          simp
        show Made.post (.str _) _ _
        rw [e]
        refine ⟨?_, ⟨.str _, H, I.tok _, ⟨_, rfl⟩, q⟩⟩
        show (repS z k).cps.size ≤ _
        unfold repS
        rw [List.size_toArray, flat_len, ← hzl]
        exact hz
theorem tuple_mul1 (l : Addr) (items : Array Value) (n : Nat) (dd : Option Addr) (sl : Array (Option Value)) (x : Int) (u : Tok) (c0 : (decide (x < -(2 ^ 63)) || decide (x ≥ 2 ^ 63)) = false) (c1 : (items.isEmpty || x == 1) = true) :
    Meets (Builtin.«tuple.__mul__» ⟨[.ref l, .int x u], []⟩) (fun _ R s => s.heap.get? l = some { cls := .type "tuple", dict := dd, data := .seq items n, slots := sl } ∧
      R (.ok (.ret (Value.ref l))) s) :=
  .of_wp fun prog w A R s h => by
    obtain ⟨hp, g, d, tk, os⟩ := s
    obtain ⟨hl, h⟩ := h
    have f1 := AutoSeq1.idx_int
    wp_walk using wpAny_loadPart' hl
    repeat (first
      | (refine wpAny_ite_false (decide_eq_false (by rw [c0]; exact Bool.false_ne_true)) ?_; wp_walk using wpAny_loadPart' hl)
      | (refine wpAny_ite_true (decide_eq_true c1) ?_; wp_walk using wpAny_loadPart' hl))
    exact ⟨_, rfl, h⟩
theorem tuple_mul0 (l : Addr) (items : Array Value) (n : Nat) (dd : Option Addr) (sl : Array (Option Value)) (x : Int) (u : Tok) (c0 : (decide (x < -(2 ^ 63)) || decide (x ≥ 2 ^ 63)) = false) (c1 : (items.isEmpty || x == 1) = false) (c2 : (decide (x ≤ 0) || items.isEmpty) = true) :
    Meets (Builtin.«tuple.__mul__» ⟨[.ref l, .int x u], []⟩) (fun _ R s => s.heap.get? l = some { cls := .type "tuple", dict := dd, data := .seq items n, slots := sl } ∧
      R (.ok (.ret (Value.ref s.heap.objs.size))) { s with heap := s.heap.push { cls := Value.type "tuple", data := Data.seq #[] }, toks := s.toks }) :=
  .of_wp fun prog w A R s h => by
    obtain ⟨hp, g, d, tk, os⟩ := s
    obtain ⟨hl, h⟩ := h
    have f1 := AutoSeq1.idx_int
    wp_walk using wpAny_loadPart' hl
    repeat (first
      | (refine wpAny_ite_false (decide_eq_false (by rw [c0]; exact Bool.false_ne_true)) ?_; wp_walk using wpAny_loadPart' hl)
      | (refine wpAny_ite_false (decide_eq_false (by rw [c1]; exact Bool.false_ne_true)) ?_; wp_walk using wpAny_loadPart' hl)
      | (refine wpAny_ite_true (decide_eq_true c2) ?_; wp_walk using wpAny_loadPart' hl))
    exact ⟨_, rfl, h⟩
end
end DL

namespace DL
open PySem PySem.Spec PyProof.Rows L2
section
variable {cl : Cl} {X : Cx}
def rRepA (K : PySem.W.Frag) : R2 := fun x y H Q => ∃ l k xs, x = .ref l ∧ y = .int k ∧ SqT K H l xs ∧ -(2 ^ 63) ≤ k ∧ k < 2 ^ 63 ∧ xs.length * k.toNat ≤ sizeLine ∧
  ((xs = [] ∨ k = 1) → Q (.ref l) H) ∧ (¬ (xs = [] ∨ k = 1) → ∀ p, H p = none → Q (.ref p) (upd H p (.tup (List.replicate k.toNat xs).flatten)))
theorem op_repA : OpR X (binaryOp .Mult) (rRepA X.K) := by
  intro pins s σ H x y v u Q I rx ry h
  obtain ⟨l, k, xs, rfl, rfl, hT, h1, h2, hz, q1, q2⟩ := h
  cases rx
  obtain ⟨t, rfl⟩ := ry
  obtain ⟨its, r, ⟨⟨cls, dd, data, sl⟩, ho, hc, n, hd⟩, hs⟩ := I.tuple hT
  simp only at hc hd
  subst hc hd
  have hle : its.length = xs.length := r.length.symm
  have c0 : (decide (k < -(2 ^ 63)) || decide (k ≥ 2 ^ 63)) = false := by
    rw [decide_eq_false (by omega), decide_eq_false (by omega)] <;> rfl
  have sL : sizeLine = 16777216 := sizeLine_eq
  by_cases c : xs = [] ∨ k = 1
  · have c1 : (its.toArray.isEmpty || k == 1) = true := by
      rw [Bool.or_eq_true]
      rcases c with c | c
      · left
        rw [c] at hle
        rw [List.eq_nil_of_length_eq_zero hle]
        rfl
      · right; simp [c]
    refine wpAny_binaryOp_repeat_ref (T := "tuple") (U := "int") (by decide) ⟨_, ho, rfl⟩ (fun s' => typeIs_int s' k t) noFill_tuple_mul F.fills_int_mul F.slot_int_rmul repeat_tuple F.slot_int_index.lookup
      (call_meets F.slot_int_rmul (typeIs_int s k t) F.entry_int_rmul (F.args_int_rmul_2 _ _) (int_rmul_tuple k t l its.toArray n dd sl)
        ⟨ho, rfl, ⟨_, ho, rfl⟩, call_meets F.slot_tuple_mul ⟨_, ho, rfl⟩ F.entry_tuple_mul (F.args_tuple_mul_2 _ _) (tuple_mul1 l its.toArray n dd sl k t c0 c1) ⟨ho, ?_⟩⟩)
    exact ⟨.ref l, H, I, rfl, q1 c⟩
  · have hne : xs ≠ [] := fun e => c (.inl e)
    have hk1 : k ≠ 1 := fun e => c (.inr e)
    have hn : its ≠ [] := fun e => hne (by
      rw [e] at hle
      exact List.eq_nil_of_length_eq_zero hle.symm)
    have hi : its.toArray.isEmpty = false := by
      cases its with
      | nil => exact absurd rfl hn
      | cons a b => rfl
    have c1 : (its.toArray.isEmpty || k == 1) = false := by
      rw [hi, Bool.false_or]
      exact beq_eq_false_iff_ne.mpr hk1
    by_cases k0 : k ≤ 0
    · have c2 : (decide (k ≤ 0) || its.toArray.isEmpty) = true := by rw [decide_eq_true k0]; rfl
      refine wpAny_binaryOp_repeat_ref (T := "tuple") (U := "int") (by decide) ⟨_, ho, rfl⟩ (fun s' => typeIs_int s' k t) noFill_tuple_mul F.fills_int_mul F.slot_int_rmul repeat_tuple F.slot_int_index.lookup
        (call_meets F.slot_int_rmul (typeIs_int s k t) F.entry_int_rmul (F.args_int_rmul_2 _ _) (int_rmul_tuple k t l its.toArray n dd sl)
          ⟨ho, rfl, ⟨_, ho, rfl⟩, call_meets F.slot_tuple_mul ⟨_, ho, rfl⟩ F.entry_tuple_mul (F.args_tuple_mul_2 _ _) (tuple_mul0 l its.toArray n dd sl k t c0 c1 c2) ⟨ho, ?_⟩⟩)
      have e0 : (List.replicate k.toNat xs).flatten = [] := by rw [show k.toNat = 0 by omega]; rfl
      have q := q2 c
      rw [e0] at q
      refine ⟨.ref s.heap.objs.size, _, I.laid (t' := s.toks) (o := .tup []) (fun b ob q => Heap.get?_push_of_some _ q) (Nat.le_refl _) ?_, rfl, q _ (I.hok.fresh (Nat.le_refl _))⟩
      exact ⟨Nat.zero_le _, [], .nil, IsTup.new _ _⟩
    · have c2 : (decide (k ≤ 0) || its.toArray.isEmpty) = false := by
        rw [hi, Bool.or_false]
        exact decide_eq_false k0
      have hsz0 : its.toArray.size = xs.length := by rw [List.size_toArray, hle]
      have hm : ((its.toArray.size : Nat) : Int) * k ≤ 16777216 := by
        rw [hsz0]
        have e1 : ((xs.length * k.toNat : Nat) : Int) ≤ 16777216 := by rw [sL] at hz; exact Int.ofNat_le.mpr hz
        have e2 : ((xs.length * k.toNat : Nat) : Int) = (xs.length : Int) * k := by
          rw [Int.natCast_mul, Int.toNat_of_nonneg (by omega)]
        omega
      have flen : (List.replicate k.toNat its).flatten.length ≤ sizeLine := by
        rw [PyProof.Rows.lm_len_rep_flat, hle, Nat.mul_comm]
        exact hz
      have c4 : Builtin.Tuple.tupleTooMany (((its.toArray.size : Nat) : Int) * k) = false := by
        unfold Builtin.Tuple.tupleTooMany
        rw [sizeLine_eq]
        exact decide_eq_false (by omega)
      refine wpAny_binaryOp_repeat_ref (T := "tuple") (U := "int") (by decide) ⟨_, ho, rfl⟩ (fun s' => typeIs_int s' k t) noFill_tuple_mul F.fills_int_mul F.slot_int_rmul repeat_tuple F.slot_int_index.lookup
        (call_meets F.slot_int_rmul (typeIs_int s k t) F.entry_int_rmul (F.args_int_rmul_2 _ _) (int_rmul_tuple k t l its.toArray n dd sl)
          ⟨ho, rfl, ⟨_, ho, rfl⟩, call_meets F.slot_tuple_mul ⟨_, ho, rfl⟩ F.entry_tuple_mul (F.args_tuple_mul_2 _ _) (tuple_mulW l its.toArray n dd sl k t c0 c1 c2 (by omega) c4 (by rw [size_rep, List.size_toArray]; exact flen)) ⟨ho, ?_⟩⟩)
      rw [size_rep]
      refine ⟨.ref s.heap.objs.size, _, I.laid (t' := s.toks) (o := .tup (List.replicate k.toNat xs).flatten) (fun b ob q => Heap.get?_push_of_some _ q) (Nat.le_refl _) ?_, rfl, q2 c _ (I.hok.fresh (Nat.le_refl _))⟩
      exact ⟨by rw [PyProof.Rows.lm_len_rep_flat, Nat.mul_comm]; exact hz, _, r.rep k.toNat, IsTup.new _ _⟩

theorem op_addD : OpD cl X (binaryOp .Add) addD := by
  refine ⟨_, ((op_add.or op_add_str).or op_catA).or op_catS, fun E m S H x y vx vy Q rs rx ry h => ?_⟩
  unfold addD at h
  split at h
  · rename_i a b
    cases rx; cases ry
    exact .inl (.inl (.inl ⟨_, _, rfl, rfl, h.here rs rfl⟩))
  · rename_i a b
    cases rx; cases ry
    split at h
    · rename_i hz
      exact .inl (.inl (.inr ⟨_, _, rfl, rfl, hz, h.here rs rfl⟩))
    · exact h.elim
  · rename_i a b
    split at h
    · rename_i hz
      obtain ⟨p, vs, rfl, s1, r1⟩ := rx
      obtain ⟨q, ws, rfl, s2, r2⟩ := ry
      refine .inl (.inr ⟨p, q, vs, ws, rfl, rfl, s1, s2, by rw [← r1.length, ← r2.length]; exact hz, fun e => ?_, fun e1 e2 => ?_, fun e1 e2 p' hp => ?_⟩)
      · subst e
        have : a = [] := List.eq_nil_of_length_eq_zero r1.length
        subst this
        exact h.here rs ⟨q, ws, rfl, s2, r2⟩
      · subst e2
        have : b = [] := List.eq_nil_of_length_eq_zero r2.length
        subst this
        exact h.here rs ⟨p, vs, rfl, s1, by rw [List.append_nil]; exact r1⟩
      · obtain ⟨a1, b1⟩ := newTup rs (r1.append r2) hp
        exact h _ _ _ (Ext.refl m) (Keep.new hp) a1 b1
    · exact h.elim
  · rename_i a b _ _ _
    split at h
    · rename_i x y e1 e2
      split at h
      · rename_i hz
        obtain ⟨p, vs, rfl, hv, r1⟩ := ls_rv rs rx e1
        obtain ⟨q, ws, rfl, hw, r2⟩ := ls_rv rs ry e2
        refine .inr ⟨p, q, vs, ws, rfl, rfl, hv, hw, by rw [← r1.length, ← r2.length]; exact hz, fun p' hp => ?_⟩
        obtain ⟨a1, b1⟩ := newLst rs (r1.append r2) hp
        exact h _ _ _ (Ext.snoc m p') (Keep.new hp) a1 b1
      · exact h.elim
    · exact h.elim
theorem op_subD : OpD cl X (binaryOp .Sub) subD := by
  refine ⟨_, op_sub, fun E m S H x y vx vy Q rs rx ry h => ?_⟩
  unfold subD at h
  split at h
  · cases rx; cases ry
    exact ⟨_, _, rfl, rfl, h.here rs rfl⟩
  · exact h.elim
theorem op_fdivD : OpD cl X (binaryOp .FloorDiv) fdivD := by
  refine ⟨_, op_fdivW, fun E m S H x y vx vy Q rs rx ry h => ?_⟩
  unfold fdivD at h
  split at h
  · cases rx; cases ry
    split at h
    · rename_i hz
      exact ⟨_, _, rfl, rfl, fdOk_ok hz, h.here rs rfl⟩
    · exact h.elim
  · exact h.elim
theorem op_modD : OpD cl X (binaryOp .Mod) modD := by
  refine ⟨_, op_mod, fun E m S H x y vx vy Q rs rx ry h => ?_⟩
  unfold modD at h
  split at h
  · cases rx; cases ry
    split at h
    · rename_i hz
      exact ⟨_, _, rfl, rfl, hz, h.here rs rfl⟩
    · exact h.elim
  · exact h.elim
theorem op_powD : OpD cl X (binaryOp .Pow) powD := by
  refine ⟨_, op_pow, fun E m S H x y vx vy Q rs rx ry h => ?_⟩
  unfold powD at h
  split at h
  · cases rx; cases ry
    split at h
    · rename_i hz
      exact ⟨_, _, rfl, rfl, powOk_ok hz, h.here rs rfl⟩
    · exact h.elim
  · exact h.elim
theorem op_mulD : OpD cl X (binaryOp .Mult) mulD := by
  refine ⟨_, ((op_mul.or op_repS).or op_repA).or op_rep, fun E m S H x y vx vy Q rs rx ry h => ?_⟩
  unfold mulD at h
  split at h
  · cases rx; cases ry
    split at h
    · rename_i hz
      exact .inl (.inl (.inl ⟨_, _, rfl, rfl, mul_ok hz, h.here rs rfl⟩))
    · exact h.elim
  · cases rx; cases ry
    split at h
    · rename_i hz
      exact .inl (.inl (.inr ⟨_, _, rfl, rfl, (bnd_ok hz.1).1, (bnd_ok hz.1).2, hz.2, h.here rs rfl⟩))
    · exact h.elim
  · rename_i xs n
    split at h
    · rename_i hz
      obtain ⟨p, vs, rfl, s1, r1⟩ := rx
      cases ry
      refine .inl (.inr ⟨p, n, vs, rfl, rfl, s1, (bnd_ok hz.1).1, (bnd_ok hz.1).2, by rw [← r1.length]; exact hz.2, fun e => ?_, fun e p' hp => ?_⟩)
      · have e1 : (List.replicate n.toNat xs).flatten = xs := by
          rcases e with e | e
          · subst e
            have : xs = [] := List.eq_nil_of_length_eq_zero r1.length
            subst this
            simp
          · subst e; simp
        rw [e1] at h
        exact h.here rs ⟨p, vs, rfl, s1, r1⟩
      · obtain ⟨a1, b1⟩ := newTup rs (r1.rep n.toNat) hp
        exact h _ _ _ (Ext.refl m) (Keep.new hp) a1 b1
    · exact h.elim
  · rename_i a n
    split at h
    · rename_i xs e1
      split at h
      · rename_i hz
        obtain ⟨p, h1, ⟨vs, hv, r1⟩⟩ := rs.adr e1
        obtain ⟨p', h1', rfl⟩ := rx
        rw [h1] at h1'; cases h1'
        cases ry
        refine .inr ⟨p, n, vs, rfl, rfl, hv, (bnd_ok hz.1).1, (bnd_ok hz.1).2, by rw [← r1.length]; exact hz.2, fun p' hp => ?_⟩
        obtain ⟨a1, b1⟩ := newLst rs (r1.rep n.toNat) hp
        exact h _ _ _ (Ext.snoc m p') (Keep.new hp) a1 b1
      · exact h.elim
    · exact h.elim
  · exact h.elim

def mapO {α β : Type} (f : α → Option β) : List α → Option (List β)
  | [] => some []
  | x :: xs => match f x, mapO f xs with
    | some a, some b => some (a :: b)
    | _, _ => none
def toP (S : Sto) : Nat → D → Option PyData
  | _, .non => some .none
  | _, .bl b => some (.bool b)
  | _, .int i => some (.int i)
  | _, .str x => some (.str x)
  | n + 1, .tup ds => (mapO (toP S n) ds).map .tuple
  | n + 1, .frl ds => (mapO (toP S n) ds).map .list
  | n + 1, .ref l => match S[l]? with
    | some (.lst ds) => (mapO (toP S n) ds).map .list
    | _ => none
  | _, .exn _ _ _ _ => none
  | 0, _ => none
theorem dpAll {K : PySem.W.Frag} {m : List Addr} {H : Hp} {f : D → Option PyData} (hf : ∀ d p v, f d = some p → RV K m H d v → Dp K H v p) :
    ∀ (ds : List D) (ps : List PyData) (vs : List V), mapO f ds = some ps → RVs K m H ds vs → DpAll K H vs ps
  | [], ps, vs, e, r => by
    cases e; cases r; exact .nil
  | d :: ds, ps, vs, e, r => by
    obtain ⟨v, vs', rfl, r1, r2⟩ := r
    unfold mapO at e
    split at e
    · rename_i a b ea eb
      cases e
      exact .cons (hf d a v ea r1) (dpAll hf ds b vs' eb r2)
    · cases e
theorem toP_dp {K : PySem.W.Frag} {m : List Addr} {S : Sto} {H : Hp} (rs : RS cl K m S H) : ∀ (n : Nat) (d : D) (p : PyData) (v : V), toP S n d = some p → RV K m H d v → Dp K H v p := by
  have base : ∀ (n : Nat), (∀ d p v, toP S n d = some p → RV K m H d v → Dp K H v p) → ∀ d p v, toP S (n + 1) d = some p → RV K m H d v → Dp K H v p := by
    intro n ih d p v e r
    cases d with
    | non => cases e; cases r; exact .non
    | bl b => cases e; cases r; exact .bl b
    | int b => cases e; cases r; exact .int b
    | str b => cases e; cases r; exact .str b
    | exn _ _ _ _ => cases e
    | tup ds =>
      obtain ⟨a, vs, rfl, s1, r1⟩ := r
      obtain ⟨ps, e1, rfl⟩ := Option.map_eq_some_iff.mp e
      exact .tup s1 (dpAll ih ds ps vs e1 r1)
    | frl ds =>
      obtain ⟨a, vs, rfl, s1, r1⟩ := r
      obtain ⟨ps, e1, rfl⟩ := Option.map_eq_some_iff.mp e
      exact .lst s1.sq (dpAll ih ds ps vs e1 r1)
    | ref l =>
      obtain ⟨a, e0, rfl⟩ := r
      unfold toP at e
      split at e
      · rename_i ds es
        obtain ⟨a', h1, vs, hv, r1⟩ := rs.adr es
        rw [e0] at h1; cases h1
        obtain ⟨ps, e1, rfl⟩ := Option.map_eq_some_iff.mp e
        exact .lst (SqL.of hv) (dpAll ih ds ps vs e1 r1)
      · cases e
  intro n
  induction n with
  | zero =>
    intro d p v e r
    cases d with
    | non => cases e; cases r; exact .non
    | bl b => cases e; cases r; exact .bl b
    | int b => cases e; cases r; exact .int b
    | str b => cases e; cases r; exact .str b
    | _ => cases e
  | succ n ih => exact base n ih
def sameD (x y : D) (S : Sto) : Option Bool :=
  match x, y with
  | .int a, .int b => some (decide (a = b))
  | .str a, .str b => some (decide (a = b))
  | .bl a, .bl b => some (decide (a = b))
  | _, _ => match toP S 60 x, toP S 60 y with
    | some a, some b => if SeqAt.shaped a && SeqAt.shaped b then some (PyData.eqv a b) else none
    | _, _ => none
def eqD (x y : D) (S : Sto) : Res D := match sameD x y S with
  | some b => .ok (.bl b) S
  | none => .stuck
def neD (x y : D) (S : Sto) : Res D := match sameD x y S with
  | some b => .ok (.bl (!b)) S
  | none => .stuck
theorem sameD_cases {x y : D} {S : Sto} {b : Bool} (h : sameD x y S = some b) :
    (∃ i j, x = .int i ∧ y = .int j ∧ b = decide (i = j)) ∨ (∃ i j, x = .str i ∧ y = .str j ∧ b = decide (i = j)) ∨ (∃ i j, x = .bl i ∧ y = .bl j ∧ b = decide (i = j)) ∨
    ∃ p q, toP S 60 x = some p ∧ toP S 60 y = some q ∧ SeqAt.shaped p = true ∧ SeqAt.shaped q = true ∧ b = PyData.eqv p q := by
  unfold sameD at h
  split at h
  · cases h; exact .inl ⟨_, _, rfl, rfl, rfl⟩
  · cases h; exact .inr (.inl ⟨_, _, rfl, rfl, rfl⟩)
  · cases h; exact .inr (.inr (.inl ⟨_, _, rfl, rfl, rfl⟩))
  · split at h
    · rename_i p q e1 e2
      split at h
      · rename_i hs
        rw [Bool.and_eq_true] at hs
        cases h
        exact .inr (.inr (.inr ⟨p, q, e1, e2, hs.1, hs.2, rfl⟩))
      · cases h
    · cases h
theorem op_eqDD (hu : X.A.units + 64 < cLine) : OpD cl X (compareOp .Eq) eqD := by
  refine ⟨_, op_eq.or (op_eqD hu), fun E m S H x y vx vy Q rs rx ry h => ?_⟩
  unfold eqD at h
  split at h
  · rename_i b e
    rcases sameD_cases e with ⟨i, j, rfl, rfl, rfl⟩ | ⟨i, j, rfl, rfl, rfl⟩ | ⟨i, j, rfl, rfl, rfl⟩ | ⟨p, q, e1, e2, s1, s2, rfl⟩
    · cases rx; cases ry
      refine .inl ⟨rfl, ?_⟩
      have : decide (V.int i = V.int j) = decide (i = j) := by simp
      rw [this]; exact h.here rs rfl
    · cases rx; cases ry
      refine .inl ⟨rfl, ?_⟩
      have : decide (V.str i = V.str j) = decide (i = j) := by simp
      rw [this]; exact h.here rs rfl
    · cases rx; cases ry
      refine .inl ⟨rfl, ?_⟩
      have : decide (V.bl i = V.bl j) = decide (i = j) := by simp
      rw [this]; exact h.here rs rfl
    · exact .inr ⟨p, q, toP_dp rs _ _ _ _ e1 rx, toP_dp rs _ _ _ _ e2 ry, s1, s2, h.here rs rfl⟩
  · exact h.elim
theorem op_neDD (hu : X.A.units + 64 < cLine) : OpD cl X (compareOp .NotEq) neD := by
  refine ⟨_, op_ne.or (op_neD hu), fun E m S H x y vx vy Q rs rx ry h => ?_⟩
  unfold neD at h
  split at h
  · rename_i b e
    rcases sameD_cases e with ⟨i, j, rfl, rfl, rfl⟩ | ⟨i, j, rfl, rfl, rfl⟩ | ⟨i, j, rfl, rfl, rfl⟩ | ⟨p, q, e1, e2, s1, s2, rfl⟩
    · cases rx; cases ry
      refine .inl ⟨rfl, ?_⟩
      have : decide (V.int i = V.int j) = decide (i = j) := by simp
      rw [this]; exact h.here rs rfl
    · cases rx; cases ry
      refine .inl ⟨rfl, ?_⟩
      have : decide (V.str i = V.str j) = decide (i = j) := by simp
      rw [this]; exact h.here rs rfl
    · cases rx; cases ry
      refine .inl ⟨rfl, ?_⟩
      have : decide (V.bl i = V.bl j) = decide (i = j) := by simp
      rw [this]; exact h.here rs rfl
    · exact .inr ⟨p, q, toP_dp rs _ _ _ _ e1 rx, toP_dp rs _ _ _ _ e2 ry, s1, s2, h.here rs rfl⟩
  · exact h.elim
def ltD : D → D → Sto → Res D
  | .int a, .int b, S => .ok (.bl (decide (a < b))) S
  | _, _, _ => .stuck
def leD : D → D → Sto → Res D
  | .int a, .int b, S => .ok (.bl (decide (a ≤ b))) S
  | _, _, _ => .stuck
def gtD : D → D → Sto → Res D
  | .int a, .int b, S => .ok (.bl (decide (b < a))) S
  | _, _, _ => .stuck
def geD : D → D → Sto → Res D
  | .int a, .int b, S => .ok (.bl (decide (b ≤ a))) S
  | _, _, _ => .stuck
theorem op_ltD : OpD cl X (compareOp .Lt) ltD := by
  refine ⟨_, op_lt, fun E m S H x y vx vy Q rs rx ry h => ?_⟩
  unfold ltD at h
  split at h
  · cases rx; cases ry; exact ⟨_, _, rfl, rfl, h.here rs rfl⟩
  · exact h.elim
theorem op_leD : OpD cl X (compareOp .LtE) leD := by
  refine ⟨_, op_le, fun E m S H x y vx vy Q rs rx ry h => ?_⟩
  unfold leD at h
  split at h
  · cases rx; cases ry; exact ⟨_, _, rfl, rfl, h.here rs rfl⟩
  · exact h.elim
theorem op_gtD : OpD cl X (compareOp .Gt) gtD := by
  refine ⟨_, op_gt, fun E m S H x y vx vy Q rs rx ry h => ?_⟩
  unfold gtD at h
  split at h
  · cases rx; cases ry; exact ⟨_, _, rfl, rfl, h.here rs rfl⟩
  · exact h.elim
theorem op_geD : OpD cl X (compareOp .GtE) geD := by
  refine ⟨_, op_ge, fun E m S H x y vx vy Q rs rx ry h => ?_⟩
  unfold geD at h
  split at h
  · cases rx; cases ry; exact ⟨_, _, rfl, rfl, h.here rs rfl⟩
  · exact h.elim
def isD : D → D → Sto → Res D
  | x, .non, S => .ok (.bl (decide (x = .non))) S
  | _, _, _ => .stuck
def isNotD : D → D → Sto → Res D
  | x, .non, S => .ok (.bl (!decide (x = .non))) S
  | _, _, _ => .stuck
end
end DL

namespace DL
open PySem PySem.Spec PyProof.Rows L2
section
variable {cl : Cl} {K : PySem.W.Frag} {m : List Addr} {H : Hp} {E : XK} {D : Ends} {S : Sto} {sd : Sl} {σ : L2.St}
theorem Post.toNx (h : Post cl K (RFl K) m H E (endQ D) (.ok (.nx sd) S)) (rs : RS cl K m S H) (rl : RSl K m H sd σ) : D.nx σ H := h m (.nx σ) H (Ext.refl m) (Keep.refl H) rs rl
theorem Post.toBk (h : Post cl K (RFl K) m H E (endQ D) (.ok (.brk sd) S)) (rs : RS cl K m S H) (rl : RSl K m H sd σ) : D.bk σ H := h m (.brk σ) H (Ext.refl m) (Keep.refl H) rs rl
theorem Post.toCt (h : Post cl K (RFl K) m H E (endQ D) (.ok (.cnt sd) S)) (rs : RS cl K m S H) (rl : RSl K m H sd σ) : D.ct σ H := h m (.cnt σ) H (Ext.refl m) (Keep.refl H) rs rl
end
section
variable {cl : Cl} {K : PySem.W.Frag} {m : List Addr} {H : Hp} {E : XK} {En : Ends} {S : Sto} {d : D} {v : V}
theorem Post.toRt (h : Post cl K (RFl K) m H E (endQ En) (.ok (.ret d) S)) (rs : RS cl K m S H) (rv : RV K m H d v) : En.rt v H := h m (.ret v) H (Ext.refl m) (Keep.refl H) rs rv
end
def tstB (f : Sl → Sto → Res D) : Sl → Sto → Res Bool := fun sd S => (f sd S).bind fun d S1 => match d with
  | .bl b => .ok b S1
  | _ => .stuck
def tAndD (f g : Sl → Sto → Res Bool) : Sl → Sto → Res Bool := fun sd S => (f sd S).bind fun b S1 => if b then g sd S1 else .ok false S1
def tOrD (f g : Sl → Sto → Res Bool) : Sl → Sto → Res Bool := fun sd S => (f sd S).bind fun b S1 => if b then .ok true S1 else g sd S1
def tNotD (f : Sl → Sto → Res Bool) : Sl → Sto → Res Bool := fun sd S => (f sd S).bind fun b S1 => .ok (!b) S1
def dAnd (f g : Sl → Sto → Res D) : Sl → Sto → Res D := fun sd S => (f sd S).bind fun d S1 => match d with
  | .bl true => g sd S1
  | .bl false => .ok (.bl false) S1
  | _ => .stuck
def dOr (f g : Sl → Sto → Res D) : Sl → Sto → Res D := fun sd S => (f sd S).bind fun d S1 => match d with
  | .bl true => .ok (.bl true) S1
  | .bl false => g sd S1
  | _ => .stuck
def dNot (f : Sl → Sto → Res D) : Sl → Sto → Res D := fun sd S => (f sd S).bind fun d S1 => match d with
  | .bl b => .ok (.bl (!b)) S1
  | _ => .stuck
def dIf (c : Sl → Sto → Res Bool) (f g : Sl → Sto → Res D) : Sl → Sto → Res D := fun sd S => (c sd S).bind fun b S1 => if b then f sd S1 else g sd S1
def dNeg (f : Sl → Sto → Res D) : Sl → Sto → Res D := fun sd S => (f sd S).bind fun d S1 => match d with
  | .int i => .ok (.int (-i)) S1
  | _ => .stuck
section
variable {cl : Cl} {X : Cx} {E : XK} {a b c : Expr} {rest : List Expr} {fa fb fc : Sl → Sto → Res D} {ga gb gc : Sl → Sto → Res Bool} {pos : Pos}
theorem dt_val (ha : DE cl X E a fa) (he : ∀ whole, isTrue a X.env whole = (do let v ← whole; standAt a.pos; holding [v] (truthy v)) := by intro _; rfl) : DT cl X E a (tstB fa) := by
  obtain ⟨ta, pa, ha⟩ := ha
  refine ⟨_, pt_val pa he, fun m S H sd σ Q rs rl h => ?_⟩
  refine ha m S H sd σ _ rs rl (Post.bind h fun x S1 m1 vx H1 x1 k1 rs1 rx h1 => ?_)
  cases x with
  | bl k => exact ⟨k, rx, h1.here rs1 rfl⟩
  | _ => exact h1.elim
theorem dt_bool (h : DW cl X E a ga) : DT cl X E a ga := by
  obtain ⟨t, p, h⟩ := h
  exact ⟨t, p.pt, h⟩
theorem dw_and1 (ha : DT cl X E a ga) : DW cl X E (.BoolOp .And [a] pos) ga := by
  obtain ⟨t, p, h⟩ := ha
  exact ⟨t, pw_and1 p, h⟩
theorem dw_or1 (ha : DT cl X E a ga) : DW cl X E (.BoolOp .Or [a] pos) ga := by
  obtain ⟨t, p, h⟩ := ha
  exact ⟨t, pw_or1 p, h⟩
theorem dw_and (ha : DT cl X E a ga) (hb : DW cl X E (.BoolOp .And (b :: rest) pos) gb) : DW cl X E (.BoolOp .And (a :: b :: rest) pos) (tAndD ga gb) := by
  obtain ⟨t, p, ha⟩ := ha
  obtain ⟨u, q, hb⟩ := hb
  refine ⟨_, pw_and p q, fun m S H sd σ Q rs rl h => ?_⟩
  refine ha m S H sd σ _ rs rl (Post.bind h fun x S1 m1 vx H1 x1 k1 rs1 rx h1 => ?_)
  cases rx
  cases x with
  | true => exact iteT (hb m1 S1 H1 sd σ _ rs1 (rl.mono x1 k1) h1)
  | false => exact iteF (h1.here rs1 rfl)
theorem dw_or (ha : DT cl X E a ga) (hb : DW cl X E (.BoolOp .Or (b :: rest) pos) gb) : DW cl X E (.BoolOp .Or (a :: b :: rest) pos) (tOrD ga gb) := by
  obtain ⟨t, p, ha⟩ := ha
  obtain ⟨u, q, hb⟩ := hb
  refine ⟨_, pw_or p q, fun m S H sd σ Q rs rl h => ?_⟩
  refine ha m S H sd σ _ rs rl (Post.bind h fun x S1 m1 vx H1 x1 k1 rs1 rx h1 => ?_)
  cases rx
  cases x with
  | true => exact iteT (h1.here rs1 rfl)
  | false => exact iteF (hb m1 S1 H1 sd σ _ rs1 (rl.mono x1 k1) h1)
theorem dt_not (ha : DT cl X E a ga) : DT cl X E (.UnaryOp .Not a pos) (tNotD ga) := by
  obtain ⟨t, p, ha⟩ := ha
  refine ⟨_, pt_not p, fun m S H sd σ Q rs rl h => ?_⟩
  refine ha m S H sd σ _ rs rl (Post.bind h fun x S1 m1 vx H1 x1 k1 rs1 rx h1 => ?_)
  cases rx
  exact h1.here rs1 rfl
theorem de_one {op} (ha : DE cl X E a fa) : DE cl X E (.BoolOp op [a] pos) fa := by
  obtain ⟨t, p, ha⟩ := ha
  exact ⟨t, pe_one p, ha⟩
theorem de_and (ha : DE cl X E a fa) (hb : DE cl X E (.BoolOp .And (b :: rest) pos) fb) : DE cl X E (.BoolOp .And (a :: b :: rest) pos) (dAnd fa fb) := by
  obtain ⟨t, p, ha⟩ := ha
  obtain ⟨u, q, hb⟩ := hb
  refine ⟨_, pe_and p q, fun m S H sd σ Q rs rl h => ?_⟩
  refine ha m S H sd σ _ rs rl (Post.bind h fun x S1 m1 vx H1 x1 k1 rs1 rx h1 => ?_)
  cases x with
  | bl k =>
    refine ⟨k, rx, ?_⟩
    cases k with
    | true => exact iteT (hb m1 S1 H1 sd σ _ rs1 (rl.mono x1 k1) h1)
    | false => exact iteF (h1.here rs1 rfl)
  | _ => exact h1.elim
theorem de_if (hc : DT cl X E c gc) (ha : DE cl X E a fa) (hb : DE cl X E b fb) : DE cl X E (.IfExp c a b pos) (dIf gc fa fb) := by
  obtain ⟨tc, pc, hc⟩ := hc
  obtain ⟨t, p, ha⟩ := ha
  obtain ⟨u, q, hb⟩ := hb
  refine ⟨_, pe_ifExp pc p q, fun m S H sd σ Q rs rl h => ?_⟩
  refine hc m S H sd σ _ rs rl (Post.bind h fun x S1 m1 vx H1 x1 k1 rs1 rx h1 => ?_)
  cases rx
  cases x with
  | true => exact iteT (ha m1 S1 H1 sd σ _ rs1 (rl.mono x1 k1) h1)
  | false => exact iteF (hb m1 S1 H1 sd σ _ rs1 (rl.mono x1 k1) h1)
end

def sNext : Sl → Sto → Res Fl := fun sd S => .ok (.nx sd) S
def sSeq (f g : Sl → Sto → Res Fl) : Sl → Sto → Res Fl := fun sd S => (f sd S).bind fun fl S1 => match fl with
  | .nx sd1 => g sd1 S1
  | r => .ok r S1
def sIf (c : Sl → Sto → Res Bool) (f g : Sl → Sto → Res Fl) : Sl → Sto → Res Fl := fun sd S => (c sd S).bind fun b S1 => if b then f sd S1 else g sd S1
def sRet (f : Sl → Sto → Res D) : Sl → Sto → Res Fl := fun sd S => (f sd S).bind fun d S1 => .ok (.ret d) S1
def sExpr (f : Sl → Sto → Res D) : Sl → Sto → Res Fl := fun sd S => (f sd S).bind fun _ S1 => .ok (.nx sd) S1
def sAsg (f : Sl → Sto → Res D) (g : D → Sl → Sto → Res Sl) : Sl → Sto → Res Fl := fun sd S => (f sd S).bind fun d S1 => (g d sd S1).bind fun sd1 S2 => .ok (.nx sd1) S2
def gVar (i : Nat) : D → Sl → Sto → Res Sl := fun d sd S => .ok (sd.set i (some d)) S
section
variable {cl : Cl} {X : Cx} {E : XK} {a b c e : Expr} {st : Stmt} {sts sts' : List Stmt} {fa fb fc : Sl → Sto → Res D} {gc : Sl → Sto → Res Bool} {f g : Sl → Sto → Res Fl} {pos : Pos}
theorem dss_nil : DSs cl X E [] sNext := ⟨_, pss_nil, fun m S H sd σ D rs rl h => h.toNx rs rl⟩
theorem z2Q (h1 : DS cl X E st f) (h2 : DSs cl X E sts g) : DSs cl X E (st :: sts) (sSeq f g) := by
  obtain ⟨t, p, h1⟩ := h1
  obtain ⟨u, q, h2⟩ := h2
  refine ⟨_, pss_cons p q, fun m S H sd σ D rs rl h => ?_⟩
  refine h1 m S H sd σ { D with nx := u D } rs rl (Post.bind h fun fl S1 m1 v H1 x1 k1 rs1 rv h3 => ?_)
  cases fl with
  | nx sd1 =>
    cases v with
    | nx σ1 => exact h2 m1 S1 H1 sd1 σ1 D rs1 rv h3
    | _ => exact rv.elim
  | ret d =>
    cases v with
    | ret w => exact h3.toRt rs1 rv
    | _ => exact rv.elim
  | brk sd1 =>
    cases v with
    | brk σ1 => exact h3.toBk rs1 rv
    | _ => exact rv.elim
  | cnt sd1 =>
    cases v with
    | cnt σ1 => exact h3.toCt rs1 rv
    | _ => exact rv.elim
theorem z2R (h1 : DS cl X E st f) : DSs cl X E [st] f := by
  obtain ⟨t, p, h1⟩ := h1
  exact ⟨_, pss_one p, h1⟩
def sBrk : Sl → Sto → Res Fl := fun sd S => .ok (.brk sd) S
theorem ds_break : DS cl X E (.Break pos) sBrk := ⟨_, ps_break, fun m S H sd σ D rs rl h => h.toBk rs rl⟩
theorem ds_if (hc : DT cl X E c gc) (ha : DSs cl X E sts f) (hb : DSs cl X E sts' g) : DS cl X E (.If c sts sts' pos) (sIf gc f g) := by
  obtain ⟨tc, pc, hc⟩ := hc
  obtain ⟨t, p, ha⟩ := ha
  obtain ⟨u, q, hb⟩ := hb
  refine ⟨_, ps_if pc p q, fun m S H sd σ D rs rl h => ?_⟩
  refine hc m S H sd σ _ rs rl (Post.bind h fun x S1 m1 vx H1 x1 k1 rs1 rx h1 => ?_)
  cases rx
  cases x with
  | true => exact iteT (ha m1 S1 H1 sd σ _ rs1 (rl.mono x1 k1) h1)
  | false => exact iteF (hb m1 S1 H1 sd σ _ rs1 (rl.mono x1 k1) h1)
theorem ds_ret (he : DE cl X E e fa) : DS cl X E (.Return (some e) pos) (sRet fa) := by
  obtain ⟨t, p, he⟩ := he
  refine ⟨_, ps_ret p, fun m S H sd σ D rs rl h => ?_⟩
  refine he m S H sd σ _ rs rl (Post.bind h fun x S1 m1 vx H1 x1 k1 rs1 rx h1 => ?_)
  exact h1.toRt rs1 rx
theorem ds_expr (he : DE cl X E e fa) (hs : swapsWith e none pos.line X.env = pure false := by rfl) : DS cl X E (.Expr e pos) (sExpr fa) := by
  obtain ⟨t, p, he⟩ := he
  refine ⟨_, ps_expr p hs, fun m S H sd σ D rs rl h => ?_⟩
  refine he m S H sd σ _ rs rl (Post.bind h fun x S1 m1 vx H1 x1 k1 rs1 rx h1 => ?_)
  exact h1.toNx rs1 (rl.mono x1 k1)
theorem z2T {i : Nat} {x : Str} {pos' : Pos} (hN : X.N.Nodup) (hi : X.N[i]? = some x) (hx : Loc X.env.scope x) (he : DE cl X E e fa) (hs : swapsWith e (some (.Name x pos')) pos.line X.env = pure false := by rfl) (hf : X.fn x = true ∨ X.env.scope.names.lookup x = some .local := by first | exact .inl rfl | exact .inr rfl | assumption) :
    DS cl X E (.Assign [.Name x pos'] e pos) (sAsg fa (gVar i)) := by
  obtain ⟨t, p, he⟩ := he
  refine ⟨_, ps_set hN hi hx p hs hf, fun m S H sd σ D rs rl h => ?_⟩
  refine he m S H sd σ _ rs rl (Post.bind h fun y S1 m1 vx H1 x1 k1 rs1 rx h1 => ?_)
  exact h1.toNx rs1 ((rl.mono x1 k1).set i rx)
theorem dg_name {i : Nat} {x : Str} (hN : X.N.Nodup) (hi : X.N[i]? = some x) (hx : Loc X.env.scope x) (hf : X.fn x = true ∨ X.env.scope.names.lookup x = some .local := by first | exact .inl rfl | exact .inr rfl | assumption) : DG cl X E (.Name x pos) (gVar i) := by
  refine ⟨_, pg_name hN hi hx hf, fun m S H sd σ d v Q rs rl rv h => ?_⟩
  exact h.here rs (rl.set i rv)
def gsNil : List D → Sl → Sto → Res Sl := fun ds sd S => match ds with
  | [] => .ok sd S
  | _ => .stuck
def gsCons (g : D → Sl → Sto → Res Sl) (k : List D → Sl → Sto → Res Sl) : List D → Sl → Sto → Res Sl := fun ds sd S => match ds with
  | d :: r => (g d sd S).bind fun sd1 S1 => k r sd1 S1
  | _ => .stuck
theorem dgs_nil : DGs cl X E [] gsNil := by
  refine ⟨_, pgs_nil, fun m S H sd σ ds vs Q rs rl rv h => ?_⟩
  cases ds with
  | nil => exact ⟨rv, h.here rs rl⟩
  | cons _ _ => exact h.elim
theorem dgs_cons {e : Expr} {es : List Expr} {g k} (h1 : DG cl X E e g) (h2 : DGs cl X E es k) (hs : (assignEach (e :: es) X.env).map (·.2) = assign e X.env :: (assignEach es X.env).map (·.2) := by rfl) : DGs cl X E (e :: es) (gsCons g k) := by
  obtain ⟨t, p, h1⟩ := h1
  obtain ⟨u, q, h2⟩ := h2
  refine ⟨_, pgs_cons p q hs, fun m S H sd σ ds vs Q rs rl rv h => ?_⟩
  cases ds with
  | nil => exact h.elim
  | cons d r =>
    obtain ⟨v, vr, rfl, r1, r2⟩ := rv
    refine ⟨v, vr, rfl, ?_⟩
    refine h1 m S H sd σ d v _ rs rl r1 (Post.bind h fun sd1 S1 m1 σ1 H1 x1 k1 rs1 rl1 h3 => ?_)
    exact h2 m1 S1 H1 sd1 σ1 r vr Q rs1 rl1 (r2.mono x1 k1) h3
def gTupD (n : Nat) (k : List D → Sl → Sto → Res Sl) : D → Sl → Sto → Res Sl := fun d sd S => match d with
  | .tup ds => if ds.length = n then k ds sd S else .stuck
  | d => match lsD d S with
    | some ds => if ds.length = n then k ds sd S else .stuck
    | _ => .stuck
theorem PG.or {tg : Expr} {t u : TG} (h : PG X tg t) (h' : PG X tg u) : PG X tg (fun v σ H Q => t v σ H Q ∨ u v σ H Q) :=
  ⟨fun pins s σ H v w Q I r hw => hw.elim (fun z => h.run pins s σ H v w Q I r z) (fun z => h'.run pins s σ H v w Q I r z)⟩
theorem dg_tup {es : List Expr} {k : Nat} {t} {n : Nat} (hc : X.calm = true) (h : DGs cl X E es t)
    (hn : (assignEach es X.env).length = n := by rfl) (hst : (assignEach es X.env).findIdx? (·.1) = none := by rfl) : DG cl X E (.Tuple es k pos) (gTupD n t) := by
  obtain ⟨u, q, h⟩ := h
  refine ⟨_, PG.or (pg_tup hc q hn hst) (pg_unl hc q hn hst), fun m S H sd σ d v Q rs rl rv hh => ?_⟩
  unfold gTupD at hh
  split at hh
  · rename_i ds
    split at hh
    · rename_i hl
      obtain ⟨a, vs, rfl, s1, r1⟩ := rv
      exact .inl ⟨a, vs, rfl, s1, by rw [← r1.length]; exact hl, h m S H sd σ ds vs Q rs rl r1 hh⟩
    · exact hh.elim
  · split at hh
    · rename_i ds e1
      split at hh
      · rename_i hl
        obtain ⟨a, vs, rfl, hv, r1⟩ := ls_rv rs rv e1
        exact .inr ⟨a, vs, rfl, hv, by rw [← r1.length]; exact hl, h m S H sd σ ds vs Q rs rl r1 hh⟩
      · exact hh.elim
    · exact hh.elim
theorem ds_asg {tg : Expr} {g} (he : DE cl X E e fa) (hg : DG cl X E tg g) (hs : swapsWithSole [tg] e pos.line X.env = pure false := by rfl) (hw : swappedStores [tg] e X.env = pure none := by rfl)
    (h1 : (assignEach [tg] X.env).map (·.2) = [assign tg X.env] := by rfl) : DS cl X E (.Assign [tg] e pos) (sAsg fa g) := by
  obtain ⟨t, p, he⟩ := he
  obtain ⟨u, q, hg⟩ := hg
  refine ⟨_, ps_asg p q hs hw h1, fun m S H sd σ D rs rl h => ?_⟩
  refine he m S H sd σ _ rs rl (Post.bind h fun y S1 m1 vx H1 x1 k1 rs1 rx h2 => ?_)
  refine hg m1 S1 H1 sd σ y vx _ rs1 (rl.mono x1 k1) rx (Post.bind h2 fun sd1 S2 m2 σ2 H2 x2 k2 rs2 rl2 h3 => ?_)
  exact h3.toNx rs2 rl2
def sPar (i j : Nat) (f : Sl → Sto → Res (List D)) : Sl → Sto → Res Fl := fun sd S => (f sd S).bind fun ds S1 => match ds with
  | [x, y] => .ok (.nx ((sd.set i (some x)).set j (some y))) S1
  | _ => .stuck
end
end DL

namespace DL
open PySem PySem.Spec PyProof.Rows L2
inductive Sk where
  | l (a : Addr) | t (a : Addr) | s (z : Str)
def Sk.v : Sk → V
  | .l a => .ref a
  | .t a => .ref a
  | .s z => .str z
def signs (z : Str) : List V := z.cps.toList.map fun c => V.str ⟨#[c]⟩
def Sk.Rd (K : PySem.W.Frag) (H : Hp) : Sk → List V → Prop
  | .l a, xs => SqL K H a xs
  | .t a, xs => SqT K H a xs
  | .s z, xs => xs = signs z
def Sk.It : Sk → Addr → Nat → Heap → Prop
  | .l a, it, i, h => h.IsListIter it a i
  | .t a, it, i, h => h.IsTupleIter it a i
  | .s z, it, i, h => ∃ t, h.IsStrIter it (strIterType z) z t i
section
variable {X : Cx} {pins : List (Addr × Obj)} {σ : L2.St} {H : Hp} {s : Shared} {k : Sk} {xs ys : List V} {it b a : Addr} {i : Nat}
theorem Sk.inj (I : Inv X pins σ H s) (h : k.Rd X.K H xs) (h' : k.Rd X.K H ys) : xs = ys := by
  cases k with
  | l a => exact I.list_inj h h'
  | t a => exact I.tuple_inj h h'
  | s z => exact Eq.trans h (Eq.symm h')
theorem Sk.It.keep {h h' : Heap} (x : k.It it i h) (hk : ∀ o, h.get? it = some o → h'.get? it = some o) : k.It it i h' := by
  cases k with
  | l a => obtain ⟨o, e, r⟩ := x; exact ⟨o, hk o e, r⟩
  | t a => obtain ⟨o, e, r⟩ := x; exact ⟨o, hk o e, r⟩
  | s z => obtain ⟨t, o, e, r⟩ := x; exact ⟨t, o, hk o e, r⟩
theorem Sk.It.obj {h : Heap} (x : k.It it i h) : ∃ o, h.get? it = some o ∧ ∀ v, o.data ≠ .cell v := by
  cases k with
  | l a => obtain ⟨o, e, _, r⟩ := x; exact ⟨o, e, fun v q => by rw [r] at q; cases q⟩
  | t a => obtain ⟨o, e, _, r⟩ := x; exact ⟨o, e, fun v q => by rw [r] at q; cases q⟩
  | s z => obtain ⟨t, o, e, _, r⟩ := x; exact ⟨o, e, fun v q => by rw [r] at q; cases q⟩
theorem fp_neL (I : Inv X pins σ H s) (f : FpOk X pins H b) (h : SqL X.K H a xs) : b ≠ a := by
  rintro rfl
  obtain ⟨f0, f1, f2, f3, f4, f5⟩ := f
  rcases h with (h | ⟨o, h⟩) | ⟨o, its, n, hk, _⟩
  · rw [f0] at h; cases h
  · rw [f0] at h; cases h
  · have e := I.mod.kin _ _ hk
    rcases f3 with f3 | f3
    · exact I.ok.noex _ _ e f3
    · exact absurd (Nat.lt_of_lt_of_le (Heap.lt_size e) (Nat.le_trans I.ok.bsz f3)) (Nat.lt_irrefl _)
theorem fp_neT (I : Inv X pins σ H s) (f : FpOk X pins H b) (h : SqT X.K H a xs) : b ≠ a := by
  rintro rfl
  obtain ⟨f0, f1, f2, f3, f4, f5⟩ := f
  rcases h with (h | ⟨o, h⟩) | ⟨o, its, n, hk, _⟩
  · rw [f0] at h; cases h
  · rw [f0] at h; cases h
  · have e := I.mod.kin _ _ hk
    rcases f3 with f3 | f3
    · exact I.ok.noex _ _ e f3
    · exact absurd (Nat.lt_of_lt_of_le (Heap.lt_size e) (Nat.le_trans I.ok.bsz f3)) (Nat.lt_irrefl _)
theorem draws_imp {prog : Program} {w : World} {A : Around} {fp : List Addr} {n : Nat} {P P' : Nat → Value → Prop} {St : Nat → Heap → Prop} (D : Draws prog w A it fp n P St) (h : ∀ i v, P i v → P' i v) : Draws prog w A it fp n P' St :=
  ⟨D.live, D.frame, fun i s Q E hi st hQ => D.item i s Q E hi st fun x h' tk p => hQ x h' tk (h i x p), D.done⟩
theorem Sk.draws (I : Inv X pins σ H s) (hc : X.calm = true) (hr : k.Rd X.K H xs) (hit : k.It it i s.heap) (f : FpOk X pins H it) :
    ∃ (fp : List Addr) (St : Nat → Heap → Prop), Draws X.prog X.w X.A.in1 it fp xs.length (fun j v => ∃ x, xs[j]? = some x ∧ RelV x v) St ∧ St i s.heap ∧ (∀ j h', St j h' → k.It it j h') ∧ it ∈ fp ∧ ∀ b, FpOk X pins H b → b ≠ it → b ∉ fp := by
  have hh : X.A.in1.handled = none := I.ok.hd hc
  cases k with
  | l a =>
    obtain ⟨its, rv, p, hz⟩ := I.list hr
    have hne : a ≠ it := fun e => fp_neL I f hr e.symm
    have e : its.toArray.size = xs.length := by simp [rv.length]
    refine ⟨[it, a], _, draws_imp (e ▸ Draws.list (prog := X.prog) (w := X.w) hh it a hne its.toArray) ?_, ⟨hit, p.isList⟩, fun j h' st => st.1, by simp, fun b fb hb => ?_⟩
    · intro j v hv
      have hv' : its[j]? = some v := by simpa using hv
      have hj : j < xs.length := by rw [rv.length]; exact (List.getElem?_eq_some_iff.mp hv').1
      obtain ⟨u, hu, ru⟩ := rv.get (i := j) (x := xs[j]) (by simp [hj])
      rw [hv'] at hu; cases hu
      exact ⟨_, by simp [hj], ru⟩
    · have := fp_neL I fb hr
      simp [hb, this]
  | t a =>
    obtain ⟨its, rv, p, hz⟩ := I.tuple hr
    have hne : a ≠ it := fun e => fp_neT I f hr e.symm
    have e : its.toArray.size = xs.length := by simp [rv.length]
    refine ⟨[it, a], _, draws_imp (e ▸ Draws.tuple (prog := X.prog) (w := X.w) hh it a hne its.toArray) ?_, ⟨hit, p⟩, fun j h' st => st.1, by simp, fun b fb hb => ?_⟩
    · intro j v hv
      have hv' : its[j]? = some v := by simpa using hv
      have hj : j < xs.length := by rw [rv.length]; exact (List.getElem?_eq_some_iff.mp hv').1
      obtain ⟨u, hu, ru⟩ := rv.get (i := j) (x := xs[j]) (by simp [hj])
      rw [hv'] at hu; cases hu
      exact ⟨_, by simp [hj], ru⟩
    · have := fp_neT I fb hr
      simp [hb, this]
  | s z =>
    obtain ⟨t, hit⟩ := hit
    have hr' : xs = signs z := hr
    have e : z.cps.size = xs.length := by rw [hr']; simp [signs]
    refine ⟨[it], _, draws_imp (e ▸ Draws.text (prog := X.prog) (w := X.w) hh it z t) ?_, hit, fun j h' st => ⟨t, st⟩, by simp, fun b fb hb => by simp [hb]⟩
    rintro j v ⟨c, u, hc', rfl⟩
    refine ⟨.str ⟨#[c]⟩, ?_, u, rfl⟩
    rw [hr']
    unfold signs
    rw [List.getElem?_map, Array.getElem?_toList, hc']
    rfl
end
set_option maxHeartbeats 4000000 in
theorem meets_enumerate_newB1 {v : Value} {o : Obj} {H : Heap → Prop} (B : Begins v o H) :
    Meets (Builtin.«enumerate.__new__» ⟨[.type "enumerate", v], []⟩) (fun _ R s => H s.heap ∧
      R (.ok (.ret (.ref (s.heap.push o).objs.size))) { s with heap := (s.heap.push o).push { cls := .type "enumerate", data := .fields #[.none, .bool false, .ref s.heap.objs.size, rawInt 0, .none, .none] } }) :=
  .of_wp fun prog w A R s h => by
    obtain ⟨hp, g, d, tk, os⟩ := s; obtain ⟨h1, h⟩ := h
    have hsub := sub_enumerate
    have q1 : ∀ {A' : Around} {E : Value → Shared → Prop} {Q : Value → Shared → Prop}, Q (.ref hp.objs.size) ⟨hp.push o, g, d, tk, os⟩ → wpAny (model prog w) A' (pyIter v) Q E ⟨hp, g, d, tk, os⟩ :=
      fun q => B.iter prog w _ _ ⟨hp, g, d, tk, os⟩ _ h1 q
    wp_walk using q1
    refine wpAny_stack_any fun st => wpAny_pure ?_
    split
    · rename_i c _ _ _ _ _
      cases (c == Value.type "enumerate")
      · wp_walk using q1
        exact ⟨_, rfl, h⟩
      · wp_walk using q1
        exact ⟨_, rfl, h⟩
    · wp_walk using q1
      exact ⟨_, rfl, h⟩
theorem enum_begins1 {prog : Program} {w : World} {A : Around} {E : Value → Shared → Prop} {s : Shared} {v : Value} {o : Obj} {H : Heap → Prop} {Q : Value → Shared → Prop} (B : Begins v o H) (h1 : H s.heap)
    (h : ∀ h', IsEnum h' (s.heap.objs.size + 1) s.heap.objs.size 0 .none → h'.get? s.heap.objs.size = some o → h'.objs.size = s.heap.objs.size + 2 →
      (∀ b o, s.heap.get? b = some o → h'.get? b = some o) → Q (.ref (s.heap.objs.size + 1)) { s with heap := h' }) :
    wpAny (model prog w) A (call (.type "enumerate") [v]) Q E s := by
  refine callType_new F.called_enumerate (by decide) (F.typeCall_enumerate_1 _) (F.newCall_enumerate_1 _) (fun obj => F.args_object_init_2 obj _) F.entry_enumerate_new
    (meets_enumerate_newB1 B) ⟨h1, ?_⟩
  have hz : (s.heap.push o).objs.size = s.heap.objs.size + 1 := Heap.size_push ..
  show _ ∧ _
  rw [hz]
  have he : IsEnum ((s.heap.push o).push { cls := .type "enumerate", data := .fields #[.none, .bool false, .ref s.heap.objs.size, rawInt 0, .none, .none] }) (s.heap.objs.size + 1) s.heap.objs.size 0 .none := by
    have := Heap.get?_push_size (s.heap.push o) (o := { cls := .type "enumerate", data := .fields #[.none, .bool false, .ref s.heap.objs.size, rawInt 0, .none, .none] }) rfl
    rw [hz] at this; exact this
  refine ⟨⟨_, he, rfl⟩, h _ he (Heap.get?_push_of_some _ (Heap.get?_push_size _ B.free)) (by rw [Heap.size_push, hz]) fun b o x => Heap.get?_push_of_some _ (Heap.get?_push_of_some _ x)⟩
theorem Sk.begins {X : Cx} {pins : List (Addr × Obj)} {σ : L2.St} {H : Hp} {s : Shared} {k : Sk} {xs : List V} {u : Value} (I : Inv X pins σ H s) (hr : k.Rd X.K H xs) (ru : RelV k.v u) :
    ∃ (o : Obj) (G : Heap → Prop), Begins u o G ∧ G s.heap ∧ ∀ h' it, h'.get? it = some o → k.It it 0 h' := by
  cases k with
  | l a =>
    obtain ⟨its, rv, p, hz⟩ := I.list hr
    cases ru
    exact ⟨_, _, begins_list a its.toArray, p.isList, fun h' it e => ⟨_, e, rfl, rfl⟩⟩
  | t a =>
    obtain ⟨its, rv, p, hz⟩ := I.tuple hr
    cases ru
    exact ⟨_, _, begins_tuple a its.toArray, p, fun h' it e => ⟨_, e, rfl, rfl⟩⟩
  | s z =>
    obtain ⟨t, rfl⟩ := ru
    exact ⟨_, _, begins_text z t, trivial, fun h' it e => ⟨t, _, e, rfl, rfl⟩⟩
def IteS (K : PySem.W.Frag) (k : Sk) : It :=
  ⟨fun i H => ∃ (xs : List V) (x : V), k.Rd K H xs ∧ xs[i]? = some x, fun i H v H' => ∃ T x, v = .ref T ∧ H T = none ∧ H' = upd H T (.tup [.int (i : Nat), x]) ∧ ∀ xs, k.Rd K H xs → xs[i]? = some x, fun i H => ∃ xs : List V, k.Rd K H xs ∧ xs.length = i⟩
theorem turn_enumS {P : Program} {w : World} {K : PySem.W.Frag} {elts : List Expr} {kk : Nat} {tpos : Pos} (k : Sk) (e it : Addr) :
    Turn P w K (.Tuple elts kk tpos) (IteS K k) [e, it] e (fun i h => (∃ old, IsEnum h e it ((i : Nat) : Int) old) ∧ k.It it i h ∧ e ≠ it) where
  mem := by simp
  obj := fun i h st b hb => by
    obtain ⟨⟨old, he⟩, hi, _⟩ := st
    have e' : b = e ∨ b = it := by simpa using hb
    rcases e' with z | z
    · rw [z]; exact ⟨_, he, fun v q => nomatch q⟩
    · rw [z]; exact hi.obj
  keep := fun i h h' st kk => let ⟨⟨old, he⟩, hi, hne⟩ := st; ⟨⟨old, kk e (by simp) _ he⟩, hi.keep fun o q => kk it (by simp) o q, hne⟩
  item := by
    intro X hP hw hK hc i pins s σ H E I hf st hg
    subst hP hw hK
    obtain ⟨⟨old, he⟩, hit, hne⟩ := st
    obtain ⟨xs, x, hq, hx⟩ := hg
    obtain ⟨fp, St, D, st0, back, hm, hout⟩ := Sk.draws I hc hq hit (hf it (by simp))
    have hel : e < s.heap.objs.size := Heap.lt_size he
    have hil : it < s.heap.objs.size := by obtain ⟨_, q, _⟩ := hit.obj; exact Heap.lt_size q
    have hlt : i < xs.length := (List.getElem?_eq_some_iff.mp hx).1
    refine wpAny_pyNext_enum_itemC D he st0 hlt hne (hout e (hf e (by simp)) hne) fun u h' tk hP ho hst' hT hsz hk => ?_
    obtain ⟨x', hx', ru⟩ := hP
    rw [hx] at hx'; cases hx'
    refine ⟨_, rfl, wpAny_letOwnedTupleGo_enum (s := { s with heap := h', toks := tk + 1 }) ho fun h'' he' sb => ?_⟩
    have hT2 : h''.get? s.heap.objs.size = some { cls := .type "tuple", data := .seq #[.int i tk, u] } := (sb.2 _ (Nat.ne_of_gt hel)).trans hT
    have new : ObjOk X.prog X.w (upd H s.heap.objs.size (.tup [.int (i : Nat), x])) h'' s.heap.objs.size (.tup [.int (i : Nat), x]) :=
      ⟨by show 2 ≤ sizeLine; decide, [.int i tk, u], .cons ⟨_, rfl⟩ (.cons ru .nil), ⟨_, hT2, rfl, _, rfl⟩⟩
    have I1 : Inv X pins σ (upd H s.heap.objs.size (.tup [.int (i : Nat), x])) { s with heap := h'', toks := tk + 1 } :=
      I.turnedNew (ch := [e, it]) (fun b ob hb q => (sb.2 b (fun z => hb (by simp [z]))).trans (hk b ob (fun z => hb (by simp [z])) (fun z => hb (by simp [z])) q)) hf (Nat.le_refl _) new
    refine ⟨.ref s.heap.objs.size, _, I1, rfl, ⟨_, x, rfl, I.hok.fresh (Nat.le_refl _), rfl, fun ys hy => by rw [Sk.inj I hy hq]; exact hx⟩, ⟨⟨u, ?_⟩, (back _ _ hst').keep fun o q => (sb.2 it (Ne.symm hne)).trans q, hne⟩, fun b hb => ?_⟩
    · have e1 : ((i + 1 : Nat) : Int) = (i : Int) + 1 := by omega
      rw [e1]; exact he'
    · have hb' : b < s.heap.objs.size := by
        have e' : b = e ∨ b = it := by simpa using hb
        rcases e' with z | z
        · rw [z]; exact hel
        · rw [z]; exact hil
      rw [upd_ne (Nat.ne_of_lt hb')]
      exact (hf b hb).1
  done := by
    intro X hP hw hK hc i pins s σ H E I hf st hg
    subst hP hw hK
    obtain ⟨⟨old, he⟩, hit, hne⟩ := st
    obtain ⟨xs, hq, hx⟩ := hg
    obtain ⟨fp, St, D, st0, back, hm, hout⟩ := Sk.draws I hc hq hit (hf it (by simp))
    obtain ⟨f0, f1, f2, f3, f4, f5⟩ := hf it (by simp)
    subst hx
    exact wpAny_pyNext_enum_endD D he st0 fun h' eb => ⟨rfl, I.turned (t' := s.toks) (fun b o hb q => eb b o hb q) f0 f1 f3 f4 f5⟩
  self := fun A i s Q E st h => let ⟨⟨_, he⟩, _⟩ := st; wpAny_pyIter_enum he h
def iEnumS (K : PySem.W.Frag) (ta : TA) : TI := fun σ H R => ta σ H fun vs H1 => ∃ (k : Sk) (xs : List V), vs = [k.v] ∧ k.Rd K H1 xs ∧ R (IteS K k) H1
theorem pi_enumS {X : Cx} {e : Expr} {ta : TA} {p pos tpos : Pos} {elts : List Expr} {kk : Nat} (hg : Gl X "enumerate") (hm : X.mg "enumerate" = none) (ha : PA X [e] ta) (hs : starEach [e] X.env = [(false, eval e X.env)] := by rfl) :
    PI X (.Tuple elts kk tpos) (.Call (.Name "enumerate" p) [e] [] pos) (iEnumS X.K ta) := by
  refine ⟨fun pins s σ H R I h => ?_⟩
  refine Call_ (ld_blt I hg hm boot_enumerate (PyProof.Rows.callWith_type1 (thn (ha.run pos pins s σ H _ I h) fun us s1 ⟨vs, H1, I1, r1, q1⟩ => ?_) hs rfl))
  obtain ⟨k, xs, ex, hq, q⟩ := q1
  subst ex
  cases r1 with
  | cons r rr =>
    cases rr
    obtain ⟨o, G, B, g1, hb⟩ := Sk.begins I1 hq r
    refine enum_begins1 B g1 fun h' he hit hsz hk => wpAny_pyIter_enum he ?_
    have I2 : Inv X pins σ H1 { s1 with heap := h' } := I1.kept (t' := s1.toks) hk
    refine ⟨s1.heap.objs.size + 1, [s1.heap.objs.size + 1, s1.heap.objs.size], _, _, H1, rfl, I2, turn_enumS k (s1.heap.objs.size + 1) s1.heap.objs.size, ⟨⟨.none, he⟩, hb h' _ hit, Nat.succ_ne_self _⟩, fun b hb => ?_, q⟩
    have e' : b = s1.heap.objs.size + 1 ∨ b = s1.heap.objs.size := by simpa using hb
    have hle : s1.heap.objs.size ≤ b := by
      rcases e' with z | z
      · rw [z]; exact Nat.le_add_right _ _
      · rw [z]; exact Nat.le_refl _
    exact I1.fpOk hle (I1.hok.fresh hle)
structure ZAp (z TI TO i1 i2 : Addr) : Prop where
  TIz : TI ≠ z
  TOz : TO ≠ z
  TITO : TI ≠ TO
  TIi1 : TI ≠ i1
  TIi2 : TI ≠ i2
  zi1 : z ≠ i1
  zi2 : z ≠ i2
  TOi1 : TO ≠ i1
  TOi2 : TO ≠ i2
  i12 : i1 ≠ i2
end DL

namespace DL
open PySem PySem.Spec PyProof.Rows L2
structure ItD where
  items : List D
  chk : Sto → Bool
def yes : Sto → Bool := fun _ => true
def chkL (l : Nat) (xs : List D) : Sto → Bool := fun S => decide (S[l]? = some (.lst xs))
def IR (cl : Cl) (K : PySem.W.Frag) (m0 : List Addr) (H0 : Hp) (it : ItD) (J : It) : Prop :=
  ∀ (i : Nat) m S H, Ext m0 m → Keep H0 H → RS cl K m S H → it.chk S = true →
    (i = it.items.length → J.stop i H) ∧ ∀ d, it.items[i]? = some d → J.go i H ∧ ∀ x H', J.yld i H x H' → Keep H H' ∧ RS cl K m S H' ∧ RV K m H' d x
def DI (cl : Cl) (X : Cx) (E : XK) (tg iter : Expr) (f : Sl → Sto → Res ItD) : Prop :=
  ∃ wi, PI X tg iter wi ∧ ∀ m S H sd σ R, RS cl X.K m S H → RSl X.K m H sd σ → Post cl X.K (IR cl X.K) m H E R (f sd S) → wi σ H R
def signsD (z : Str) : List D := z.cps.toList.map fun c => D.str ⟨#[c]⟩
def itemsD (d : D) (S : Sto) : Option ItD := match d with
  | .tup ds => some ⟨ds, yes⟩
  | .frl ds => some ⟨ds, yes⟩
  | .str z => some ⟨signsD z, yes⟩
  | .ref l => match S[l]? with
    | some (.lst ds) => some ⟨ds, chkL l ds⟩
    | _ => none
  | _ => none
def iVal (f : Sl → Sto → Res D) : Sl → Sto → Res ItD := fun sd S => (f sd S).bind fun d S1 => match itemsD d S1 with
  | some it => .ok it S1
  | none => .stuck
section
variable {cl : Cl} {X : Cx} {E : XK} {tg e e2 : Expr} {fa fb : Sl → Sto → Res D}
theorem chkL_eq {l : Nat} {xs : List D} {S : Sto} (h : chkL l xs S = true) : S[l]? = some (.lst xs) := of_decide_eq_true h
theorem rvs_signs {K : PySem.W.Frag} {m : List Addr} {H : Hp} (z : Str) : RVs K m H (signsD z) (signs z) := by
  unfold signsD signs
  induction z.cps.toList with
  | nil => exact rfl
  | cons c cs ih => exact ⟨_, _, rfl, rfl, ih⟩
theorem items_src {K : PySem.W.Frag} {m : List Addr} {S : Sto} {H : Hp} {d : D} {v : V} {it : ItD} (rs : RS cl K m S H) (rv : RV K m H d v) (h : itemsD d S = some it) :
    it.chk S = true ∧ ∃ (k : Sk), v = k.v ∧ ∀ m' S' H', Ext m m' → Keep H H' → RS cl K m' S' H' → it.chk S' = true → ∃ xs, k.Rd K H' xs ∧ RVs K m' H' it.items xs := by
  unfold itemsD at h
  split at h
  · rename_i ds
    cases h
    obtain ⟨a, vs, rfl, s1, r1⟩ := rv
    exact ⟨rfl, .t a, rfl, fun m' S' H' x k _ _ => ⟨vs, sqT_keep k s1, r1.mono x k⟩⟩
  · rename_i ds
    cases h
    obtain ⟨a, vs, rfl, s1, r1⟩ := rv
    exact ⟨rfl, .l a, rfl, fun m' S' H' x k _ _ => ⟨vs, (s1.keep k).sq, r1.mono x k⟩⟩
  · rename_i z
    cases h; cases rv
    exact ⟨rfl, .s z, rfl, fun m' S' H' x k _ _ => ⟨_, rfl, rvs_signs z⟩⟩
  · rename_i l
    split at h
    · rename_i ds e1
      cases h
      obtain ⟨a, h1, rfl⟩ := rv
      refine ⟨decide_eq_true e1, .l a, rfl, fun m' S' H' x k rs' hc => ?_⟩
      obtain ⟨a', h2, vs, hv, r1⟩ := rs'.adr (chkL_eq hc)
      rw [x l a h1] at h2; cases h2
      exact ⟨vs, SqL.of hv, r1⟩
    · cases h
  · cases h
def itS (K : PySem.W.Frag) : Sk → It
  | .l a => Itl K a
  | .t a => Itt K a
  | .s z => Its z
def iSrc (K : PySem.W.Frag) (te : TE) : TI := fun σ H R => te σ H fun v H1 => ∃ (k : Sk) (xs : List V), v = k.v ∧ k.Rd K H1 xs ∧ R (itS K k) H1
theorem pi_src {l : Expr} {tl : TE} (hl : PE X l tl) : PI X tg l (iSrc X.K tl) := by
  refine ⟨fun pins s σ H R I h => ?_⟩
  refine thn (hl.run pins s σ H _ I h) fun v s1 ⟨y, H1, I1, r1, q1⟩ => ?_
  obtain ⟨k, xs, e, hq, q⟩ := q1
  subst e
  cases k with
  | l a =>
    cases r1
    obtain ⟨its, rv, p, hz⟩ := I1.list hq
    refine wpAny_pyIter_list p.isList ?_
    refine ⟨s1.heap.objs.size, [s1.heap.objs.size], _, _, H1, rfl, I1.kept (t' := s1.toks) fun b o e => Heap.get?_push_of_some _ e, turn_list a _, ⟨_, Heap.get?_push_size _ rfl, rfl, rfl⟩, fun b hb => ?_, q⟩
    have e : b = s1.heap.objs.size := by simpa using hb
    subst e
    exact I1.fpOk (Nat.le_refl _) (I1.hok.fresh (Nat.le_refl _))
  | t a =>
    cases r1
    obtain ⟨its, rv, p, hz⟩ := I1.tuple hq
    refine wpAny_pyIter_tuple (show s1.heap.IsTuple a its.toArray from p) ?_
    refine ⟨s1.heap.objs.size, [s1.heap.objs.size], _, _, H1, rfl, I1.kept (t' := s1.toks) fun b o e => Heap.get?_push_of_some _ e, turn_tuple a _, ⟨_, Heap.get?_push_size _ rfl, rfl, rfl⟩, fun b hb => ?_, q⟩
    have e : b = s1.heap.objs.size := by simpa using hb
    subst e
    exact I1.fpOk (Nat.le_refl _) (I1.hok.fresh (Nat.le_refl _))
  | s x =>
    obtain ⟨t, rfl⟩ := r1
    cases ha : x.cps.all (· < 128)
    · exact wpAny_pyIter_wide ha (pi_one (tk := s1.toks) I1 _ (turn_str _ x t "str_iterator" (.inr rfl)) ⟨_, Heap.get?_push_size _ rfl, rfl, rfl⟩ q)
    · exact wpAny_pyIter_ascii ha (pi_one (tk := s1.toks) I1 _ (turn_str _ x t "str_ascii_iterator" (.inl rfl)) ⟨_, Heap.get?_push_size _ rfl, rfl, rfl⟩ q)
theorem ir_src {K : PySem.W.Frag} {m : List Addr} {H : Hp} {it : ItD} {k : Sk} (src : ∀ m' S' H', Ext m m' → Keep H H' → RS cl K m' S' H' → it.chk S' = true → ∃ xs, k.Rd K H' xs ∧ RVs K m' H' it.items xs) : IR cl K m H it (itS K k) := by
  intro i m' S' H' x kp rs' hc'
  obtain ⟨ys, hr', hv'⟩ := src m' S' H' x kp rs' hc'
  cases k with
  | l a =>
    refine ⟨fun e => ⟨ys, hr', by rw [← hv'.length, e]; exact Nat.le_refl _⟩, fun d' hd => ?_⟩
    obtain ⟨w, hw, rw'⟩ := hv'.get hd
    exact ⟨⟨ys, w, hr', hw⟩, fun y H2 ⟨e, hy⟩ => by subst e; have := hy ys hr'; rw [hw] at this; cases this; exact ⟨Keep.refl _, rs', rw'⟩⟩
  | t a =>
    refine ⟨fun e => ⟨ys, hr', by rw [← hv'.length, e]; exact Nat.le_refl _⟩, fun d' hd => ?_⟩
    obtain ⟨w, hw, rw'⟩ := hv'.get hd
    exact ⟨⟨ys, w, hr', hw⟩, fun y H2 ⟨e, hy⟩ => by subst e; have := hy ys hr'; rw [hw] at this; cases this; exact ⟨Keep.refl _, rs', rw'⟩⟩
  | s z =>
    have hys : ys = signs z := hr'
    have hlen : it.items.length = z.cps.size := by rw [hv'.length, hys]; simp [signs]
    refine ⟨fun e => by show z.cps.size ≤ i; omega, fun d' hd => ?_⟩
    have hi : i < z.cps.size := by rw [← hlen]; exact (List.getElem?_eq_some_iff.mp hd).1
    refine ⟨hi, fun y H2 ⟨e, c, hc1, hc2⟩ => ?_⟩
    subst e
    obtain ⟨w, hw, rw'⟩ := hv'.get hd
    refine ⟨Keep.refl _, rs', ?_⟩
    rw [hys] at hw
    unfold signs at hw
    rw [List.getElem?_map, Array.getElem?_toList, hc1] at hw
    cases hw
    rw [hc2]; exact rw'
theorem di_val (he : DE cl X E e fa) : DI cl X E tg e (iVal fa) := by
  obtain ⟨t, p, he⟩ := he
  refine ⟨_, pi_src p, fun m S H sd σ R rs rl h => ?_⟩
  refine he m S H sd σ _ rs rl (Post.bind h fun d S1 m1 v H1 x1 k1 rs1 rv h1 => ?_)
  split at h1
  · rename_i it e1
    obtain ⟨hc, k, rfl, src⟩ := items_src rs1 rv e1
    obtain ⟨xs, hr, hv⟩ := src m1 S1 H1 (Ext.refl _) (Keep.refl _) rs1 hc
    exact ⟨k, xs, rfl, hr, h1.here rs1 (ir_src src)⟩
  · exact h1.elim
def enumL : Nat → List D → List D
  | _, [] => []
  | n, d :: ds => .tup [.int (n : Nat), d] :: enumL (n + 1) ds
theorem enumL_len : ∀ (n : Nat) (ds : List D), (enumL n ds).length = ds.length
  | _, [] => rfl
  | n, d :: ds => by simp [enumL, enumL_len (n + 1) ds]
theorem enumL_get : ∀ (n : Nat) (ds : List D) (i : Nat), (enumL n ds)[i]? = (ds[i]?).map fun d => D.tup [.int ((n + i : Nat) : Int), d]
  | _, [], i => by simp [enumL]
  | n, d :: ds, 0 => by simp [enumL]
  | n, d :: ds, i + 1 => by
    simp only [enumL, List.getElem?_cons_succ]
    rw [enumL_get (n + 1) ds i, show n + 1 + i = n + (i + 1) by omega]
def iEnumD (f : Sl → Sto → Res D) : Sl → Sto → Res ItD := fun sd S => (f sd S).bind fun d S1 => match itemsD d S1 with
  | some it => .ok ⟨enumL 0 it.items, it.chk⟩ S1
  | none => .stuck
theorem di_enum {p pos tpos : Pos} {elts : List Expr} {kk : Nat} (hg : Gl X "enumerate") (hm : X.mg "enumerate" = none) (he : DE cl X E e fa) (hs : starEach [e] X.env = [(false, eval e X.env)] := by rfl) :
    DI cl X E (.Tuple elts kk tpos) (.Call (.Name "enumerate" p) [e] [] pos) (iEnumD fa) := by
  obtain ⟨t, q, he⟩ := he
  refine ⟨_, pi_enumS hg hm (pa_cons q pa_nil hs) hs, fun m S H sd σ R rs rl h => ?_⟩
  refine he m S H sd σ _ rs rl (Post.bind h fun d S1 m1 v H1 x1 k1 rs1 rv h1 => ?_)
  split at h1
  · rename_i it e1
    obtain ⟨hc, k, rfl, src⟩ := items_src rs1 rv e1
    obtain ⟨xs, hr, hv⟩ := src m1 S1 H1 (Ext.refl _) (Keep.refl _) rs1 hc
    refine ⟨k, xs, rfl, hr, h1.here rs1 ?_⟩
    intro i m' S' H' x kp rs' hc'
    obtain ⟨ys, hr', hv'⟩ := src m' S' H' x kp rs' hc'
    refine ⟨fun e => ⟨ys, hr', by rw [← hv'.length, e, enumL_len]⟩, fun d' hd => ?_⟩
    have hd1 : (enumL 0 it.items)[i]? = some d' := hd
    rw [enumL_get] at hd1
    obtain ⟨d0, e0, rfl⟩ := Option.map_eq_some_iff.mp hd1
    obtain ⟨w, hw, rw'⟩ := hv'.get e0
    refine ⟨⟨ys, w, hr', hw⟩, ?_⟩
    rintro y H2 ⟨T, w', rfl, hT, rfl, hy⟩
    have := hy ys hr'
    rw [hw] at this; cases this
    have nt := newTup rs' (ds := [.int ((0 + i : Nat) : Int), d0]) (vs := [.int (i : Nat), w]) ⟨_, _, rfl, by show V.int _ = V.int _; rw [Nat.zero_add], _, _, rfl, rw', rfl⟩ hT
    exact ⟨Keep.new hT, nt.1, nt.2⟩
  · exact h1.elim
def zipL : List D → List D → List D
  | a :: as, b :: bs => .tup [a, b] :: zipL as bs
  | _, _ => []
def iZipD (f g : Sl → Sto → Res D) : Sl → Sto → Res ItD := fun sd S => (f sd S).bind fun d S1 => (g sd S1).bind fun e S2 => match itemsD d S2, itemsD e S2 with
  | some it, some jt => .ok ⟨zipL it.items jt.items, fun S => it.chk S && jt.chk S⟩ S2
  | _, _ => .stuck
def rangeL (lo : Int) (n : Nat) : List D := (List.range n).map fun i => D.int (lo + (i : Nat))
theorem rangeL_len (lo : Int) (n : Nat) : (rangeL lo n).length = n := by simp [rangeL]
theorem ir_range {K : PySem.W.Frag} {m : List Addr} {H : Hp} (lo : Int) (n : Nat) : IR cl K m H ⟨rangeL lo n, yes⟩ (Itr lo n) := by
  intro i m' S' H' x kp rs' hc'
  refine ⟨fun e => by show n ≤ i; rw [e]; exact Nat.le_of_eq (rangeL_len lo n).symm, fun d hd => ?_⟩
  have hd1 : (rangeL lo n)[i]? = some d := hd
  have hi : i < n := by have := (List.getElem?_eq_some_iff.mp hd1).1; rw [rangeL_len] at this; exact this
  refine ⟨hi, fun y H2 ⟨e1, e2⟩ => ?_⟩
  subst e1 e2
  refine ⟨Keep.refl _, rs', ?_⟩
  unfold rangeL at hd1
  rw [List.getElem?_map, List.getElem?_range hi] at hd1
  cases hd1
  exact rfl
noncomputable def iRngD1 (f : Sl → Sto → Res D) : Sl → Sto → Res ItD := fun sd S => (f sd S).bind fun d S1 => match d with
  | .int j => if bnd 62 j = true then .ok ⟨rangeL 0 j.toNat, yes⟩ S1 else .stuck
  | _ => .stuck
noncomputable def iRngD2 (f g : Sl → Sto → Res D) : Sl → Sto → Res ItD := fun sd S => (f sd S).bind fun d S1 => (g sd S1).bind fun e S2 => match d, e with
  | .int i, .int j => if bnd 62 i = true ∧ bnd 62 j = true then .ok ⟨rangeL i (j - i).toNat, yes⟩ S2 else .stuck
  | _, _ => .stuck
theorem di_range1 {p pos : Pos} (hg : Gl X "range") (hm : X.mg "range" = none) (he : DE cl X E e fa) (hs : starEach [e] X.env = [(false, eval e X.env)] := by rfl) : DI cl X E tg (.Call (.Name "range" p) [e] [] pos) (iRngD1 fa) := by
  obtain ⟨t, q, he⟩ := he
  refine ⟨_, pi_range1 hg hm (pa_cons q pa_nil hs) hs, fun m S H sd σ R rs rl h => ?_⟩
  refine he m S H sd σ _ rs rl (Post.bind h fun d S1 m1 v H1 x1 k1 rs1 rv h1 => ?_)
  cases d with
  | int j =>
    cases rv
    dsimp only at h1
    split at h1
    · rename_i hz
      exact ⟨j, rfl, (bnd_ok hz).1, (bnd_ok hz).2, h1.here rs1 (ir_range 0 j.toNat)⟩
    · exact h1.elim
  | _ => exact h1.elim
def loopD (chk : Sto → Bool) (ga : D → Sl → Sto → Res Sl) (fb : Sl → Sto → Res Fl) : List D → Sl → Sto → Res Fl
  | [], sd, S => if chk S then .ok (.nx sd) S else .stuck
  | x :: xs, sd, S => if chk S then (ga x sd S).bind fun sd1 S1 => (fb sd1 S1).bind fun fl S2 => match fl with
      | .nx sd2 => loopD chk ga fb xs sd2 S2
      | .cnt sd2 => loopD chk ga fb xs sd2 S2
      | .brk sd2 => .ok (.nx sd2) S2
      | .ret d => .ok (.ret d) S2
    else .stuck
def sFor (fi : Sl → Sto → Res ItD) (ga : D → Sl → Sto → Res Sl) (fb : Sl → Sto → Res Fl) : Sl → Sto → Res Fl := fun sd S => (fi sd S).bind fun it S1 => loopD it.chk ga fb it.items sd S1
theorem ds_for {body : List Stmt} {fi : Sl → Sto → Res ItD} {ga : D → Sl → Sto → Res Sl} {fb : Sl → Sto → Res Fl} {pos : Pos} (hp : PassesOwn (model X.prog X.w) X.A X.env X.xe) (hc : X.calm = true) (hi : DI cl X E tg e fi) (hg : DG cl X E tg ga) (hb : DSs cl X E body fb) (hs : ∀ x, foldedSetIterable e X.env x = pure x := by intro _; rfl) :
    DS cl X E (.For tg e body [] pos) (sFor fi ga fb) := by
  obtain ⟨wi, pi, hi⟩ := hi
  obtain ⟨g, pg, hg⟩ := hg
  obtain ⟨tb, pb, hb⟩ := hb
  refine ⟨_, ps_for hp hc pi pg pb hs, fun m S H sd σ D rs rl h => ?_⟩
  refine hi m S H sd σ _ rs rl (Post.bind h fun it S1 m1 J H1 x1 k1 rs1 ir h1 => ?_)
  refine ⟨fun i n σ' H' => n + i = it.items.length ∧ ∃ m' S' sd', Ext m1 m' ∧ Keep H1 H' ∧ RS cl X.K m' S' H' ∧ RSl X.K m' H' sd' σ' ∧ Post cl X.K (RFl X.K) m' H' E (endQ D) (loopD it.chk ga fb (it.items.drop i) sd' S'), ⟨it.items.length, rfl, m1, S1, sd, Ext.refl _, Keep.refl _, rs1, rl.mono x1 k1, h1⟩, ?_⟩
  rintro i n σ' H' ⟨hn, m', S', sd', x', k', rs', rl', h'⟩
  by_cases hlt : i < it.items.length
  · have e1 : it.items.drop i = it.items[i] :: it.items.drop (i + 1) := by rw [List.drop_eq_getElem_cons hlt]
    rw [e1] at h'
    unfold loopD at h'
    split at h'
    · rename_i hck
      obtain ⟨go, yl⟩ := (ir i m' S' H' x' k' rs' hck).2 it.items[i] (by simp [hlt])
      refine .inr ⟨go, fun σ3 H3 => ∃ m3 S3 sd3, Ext m1 m3 ∧ Keep H1 H3 ∧ RS cl X.K m3 S3 H3 ∧ RSl X.K m3 H3 sd3 σ3 ∧ Post cl X.K (RFl X.K) m3 H3 E (endQ D) (loopD it.chk ga fb (it.items.drop (i + 1)) sd3 S3), fun σ3 H3 z => ⟨n - 1, by omega, by omega, z⟩, fun x H2 hy => ?_⟩
      obtain ⟨ky, rsy, rvy⟩ := yl x H2 hy
      refine hg m' S' H2 sd' σ' _ x _ rsy (rl'.mono (Ext.refl _) ky) rvy (Post.bind (Post.mono (Ext.refl _) ky h') fun sd1 S3 m3 σ3 H3 x3 k3 rs3 rl3 h3 => ?_)
      refine hb m3 S3 H3 sd1 σ3 _ rs3 rl3 (Post.bind h3 fun fl S4 m4 v H4 x4 k4 rs4 rv4 h4 => ?_)
      cases fl with
      | nx sd4 =>
        cases v with
        | nx σ4 => exact ⟨m4, S4, sd4, (x'.trans x3).trans x4, ((k'.trans ky).trans k3).trans k4, rs4, rv4, h4⟩
        | _ => exact rv4.elim
      | cnt sd4 =>
        cases v with
        | cnt σ4 => exact ⟨m4, S4, sd4, (x'.trans x3).trans x4, ((k'.trans ky).trans k3).trans k4, rs4, rv4, h4⟩
        | _ => exact rv4.elim
      | brk sd4 =>
        cases v with
        | brk σ4 => exact h4.toNx rs4 rv4
        | _ => exact rv4.elim
      | ret d =>
        cases v with
        | ret w => exact h4.toRt rs4 rv4
        | _ => exact rv4.elim
    · exact h'.elim
  · have hi' : i = it.items.length := by omega
    have e1 : it.items.drop i = [] := by rw [hi']; simp
    rw [e1] at h'
    unfold loopD at h'
    split at h'
    · rename_i hck
      exact .inl ⟨(ir i m' S' H' x' k' rs' hck).1 hi', h'.toNx rs' rl'⟩
    · exact h'.elim
def whileD (fc : Sl → Sto → Res Bool) (fb : Sl → Sto → Res Fl) : Nat → Sl → Sto → Res Fl
  | 0, _, _ => .stuck
  | n + 1, sd, S => (fc sd S).bind fun b S1 => if b then (fb sd S1).bind fun fl S2 => (match fl with
      | .nx sd2 => whileD fc fb n sd2 S2
      | .cnt sd2 => whileD fc fb n sd2 S2
      | .brk sd2 => .ok (.nx sd2) S2
      | .ret d => .ok (.ret d) S2) else .ok (.nx sd) S1
theorem ds_while {c : Expr} {body : List Stmt} {fc : Sl → Sto → Res Bool} {fb : Sl → Sto → Res Fl} {pos : Pos} (n : Nat) (hp : PassesOwn (model X.prog X.w) X.A X.env X.xe) (hc : DT cl X E c fc) (hb : DSs cl X E body fb) :
    DS cl X E (.While c body [] pos) (whileD fc fb n) := by
  obtain ⟨tc, pc, hc⟩ := hc
  obtain ⟨tb, pb, hb⟩ := hb
  refine ⟨_, ps_while hp pc pb, fun m S H sd σ D rs rl h => ?_⟩
  refine ⟨fun n σ' H' => ∃ m' S' sd', RS cl X.K m' S' H' ∧ RSl X.K m' H' sd' σ' ∧ Post cl X.K (RFl X.K) m' H' E (endQ D) (whileD fc fb n sd' S'), ⟨n, m, S, sd, rs, rl, h⟩, ?_⟩
  rintro n σ' H' ⟨m', S', sd', rs', rl', h'⟩
  cases n with
  | zero => exact h'.elim
  | succ n =>
    unfold whileD at h'
    refine hc m' S' H' sd' σ' _ rs' rl' (Post.bind h' fun b S1 m1 vb H1 x1 k1 rs1 rb h1 => ?_)
    cases rb
    cases b with
    | false => exact iteF (h1.toNx rs1 (rl'.mono x1 k1))
    | true =>
      refine iteT ⟨fun σ3 H3 => ∃ m' S' sd', RS cl X.K m' S' H3 ∧ RSl X.K m' H3 sd' σ3 ∧ Post cl X.K (RFl X.K) m' H3 E (endQ D) (whileD fc fb n sd' S'), fun σ3 H3 z => ⟨n, Nat.lt_succ_self _, z⟩, ?_⟩
      refine hb m1 S1 H1 sd' σ' _ rs1 (rl'.mono x1 k1) (Post.bind h1 fun fl S4 m4 v H4 x4 k4 rs4 rv4 h4 => ?_)
      cases fl with
      | nx sd4 =>
        cases v with
        | nx σ4 => exact ⟨m4, S4, sd4, rs4, rv4, h4⟩
        | _ => exact rv4.elim
      | cnt sd4 =>
        cases v with
        | cnt σ4 => exact ⟨m4, S4, sd4, rs4, rv4, h4⟩
        | _ => exact rv4.elim
      | brk sd4 =>
        cases v with
        | brk σ4 => exact h4.toNx rs4 rv4
        | _ => exact rv4.elim
      | ret d =>
        cases v with
        | ret w => exact h4.toRt rs4 rv4
        | _ => exact rv4.elim
end
end DL

namespace DL
open PySem PySem.Spec PyProof.Rows L2
def wipeD (sd : Sl) : List Nat → Sl
  | [] => sd
  | v :: vs => (wipeD sd vs).set v none
theorem wipe_get (σ : L2.St) : ∀ (vs : List Nat) (j : Nat), j < σ.length → (wipe σ vs)[j]? = if j ∈ vs then some none else σ[j]?
  | [], j, h => by simp [wipe]
  | v :: vs, j, h => by
    unfold wipe
    by_cases e : v = j
    · subst e
      rw [List.getElem?_set_self (by rw [wipe_length]; exact h)]
      simp
    · rw [List.getElem?_set_ne e, wipe_get σ vs j h]
      have : (j ∈ v :: vs) ↔ j ∈ vs := by simp [Ne.symm e]
      simp only [this]
theorem wipe_ext {σ τ : L2.St} {vs : List Nat} (hl : σ.length = τ.length) (h : ∀ j, j ∉ vs → σ[j]? = τ[j]?) : wipe σ vs = wipe τ vs := by
  apply List.ext_getElem?
  intro j
  by_cases hj : j < σ.length
  · rw [wipe_get σ vs j hj, wipe_get τ vs j (by omega)]
    by_cases e : j ∈ vs
    · rw [if_pos e, if_pos e]
    · rw [if_neg e, if_neg e]; exact h j e
  · rw [List.getElem?_eq_none (by rw [wipe_length]; omega), List.getElem?_eq_none (by rw [wipe_length]; omega)]
theorem wipe_set {σ : L2.St} {vs : List Nat} {i : Nat} {x : Option V} (h : i ∈ vs) : wipe (σ.set i x) vs = wipe σ vs :=
  wipe_ext (by simp) fun j hj => List.getElem?_set_ne (fun (e : i = j) => hj (by rw [← e]; exact h))
theorem wipe_wipe (σ : L2.St) (vs : List Nat) : wipe (wipe σ vs) vs = wipe σ vs :=
  wipe_ext (by rw [wipe_length]) fun j hj => wipe_out hj
theorem RSl.wipe {K : PySem.W.Frag} {m : List Addr} {H : Hp} {sd : Sl} {σ : L2.St} (r : RSl K m H sd σ) : ∀ vs : List Nat, RSl K m H (wipeD sd vs) (L2.wipe σ vs)
  | [] => r
  | v :: vs => by
    unfold wipeD L2.wipe
    exact (RSl.wipe r vs).unset v
structure Own (g : TG) (vs : List Nat) : Prop where
  mono : ∀ v σ H (Q Q' : L2.St → Hp → Prop), (∀ σ H, Q σ H → Q' σ H) → g v σ H Q → g v σ H Q'
  own : ∀ v σ H (Q : L2.St → Hp → Prop), g v σ H Q → g v σ H fun σ2 H2 => wipe σ2 vs = wipe σ vs ∧ Q σ2 H2
structure Owns (g : TGs) (vs : List Nat) : Prop where
  mono : ∀ v σ H (Q Q' : L2.St → Hp → Prop), (∀ σ H, Q σ H → Q' σ H) → g v σ H Q → g v σ H Q'
  own : ∀ v σ H (Q : L2.St → Hp → Prop), g v σ H Q → g v σ H fun σ2 H2 => wipe σ2 vs = wipe σ vs ∧ Q σ2 H2
def DGw (cl : Cl) (X : Cx) (E : XK) (vs : List Nat) (tg : Expr) (f : D → Sl → Sto → Res Sl) : Prop :=
  ∃ g, PG X tg g ∧ Own g vs ∧ ∀ m S H sd σ d v Q, RS cl X.K m S H → RSl X.K m H sd σ → RV X.K m H d v → Post cl X.K (RSl X.K) m H E Q (f d sd S) → g v σ H Q
def DGsw (cl : Cl) (X : Cx) (E : XK) (vs : List Nat) (tg : List Expr) (f : List D → Sl → Sto → Res Sl) : Prop :=
  ∃ g, PGs X tg g ∧ Owns g vs ∧ ∀ m S H sd σ d v Q, RS cl X.K m S H → RSl X.K m H sd σ → RVs X.K m H d v → Post cl X.K (RSl X.K) m H E Q (f d sd S) → g v σ H Q
section
variable {cl : Cl} {X : Cx} {E : XK} {vs : List Nat} {pos : Pos}
theorem dgw_name {i : Nat} {x : Str} (hv : i ∈ vs) (hN : X.N.Nodup) (hi : X.N[i]? = some x) (hx : Loc X.env.scope x) (hf : X.fn x = true ∨ X.env.scope.names.lookup x = some .local := by first | exact .inl rfl | exact .inr rfl | assumption) : DGw cl X E vs (.Name x pos) (gVar i) :=
  ⟨_, pg_name hN hi hx hf, ⟨fun v σ H Q Q' hq h => hq _ _ h, fun v σ H Q h => ⟨wipe_set hv, h⟩⟩, fun m S H sd σ d v Q rs rl rv h => h.here rs (rl.set i rv)⟩
theorem dgsw_nil : DGsw cl X E vs [] gsNil := by
  refine ⟨_, pgs_nil, ⟨fun v σ H Q Q' hq h => ⟨h.1, hq _ _ h.2⟩, fun v σ H Q h => ⟨h.1, rfl, h.2⟩⟩, fun m S H sd σ ds vs Q rs rl rv h => ?_⟩
  cases ds with
  | nil => exact ⟨rv, h.here rs rl⟩
  | cons _ _ => exact h.elim
theorem dgsw_cons {e : Expr} {es : List Expr} {g k} (h1 : DGw cl X E vs e g) (h2 : DGsw cl X E vs es k) (hs : (assignEach (e :: es) X.env).map (·.2) = assign e X.env :: (assignEach es X.env).map (·.2) := by rfl) : DGsw cl X E vs (e :: es) (gsCons g k) := by
  obtain ⟨t, p, o1, h1⟩ := h1
  obtain ⟨u, q, o2, h2⟩ := h2
  refine ⟨_, pgs_cons p q hs, ⟨fun v σ H Q Q' hq h => ?_, fun v σ H Q h => ?_⟩, fun m S H sd σ ds vs Q rs rl rv h => ?_⟩
  · obtain ⟨v1, r, e, h⟩ := h
    exact ⟨v1, r, e, o1.mono _ _ _ _ _ (fun σ2 H2 z => o2.mono _ _ _ _ _ hq z) h⟩
  · obtain ⟨v1, r, e, h⟩ := h
    refine ⟨v1, r, e, o1.mono _ _ _ _ _ (fun σ2 H2 z => ?_) (o1.own _ _ _ _ h)⟩
    obtain ⟨z1, z2⟩ := z
    exact o2.mono _ _ _ _ _ (fun σ3 H3 y => ⟨y.1.trans z1, y.2⟩) (o2.own _ _ _ _ z2)
  · cases ds with
    | nil => exact h.elim
    | cons d r =>
      obtain ⟨v, vr, rfl, r1, r2⟩ := rv
      refine ⟨v, vr, rfl, ?_⟩
      refine h1 m S H sd σ d v _ rs rl r1 (Post.bind h fun sd1 S1 m1 σ1 H1 x1 k1 rs1 rl1 h3 => ?_)
      exact h2 m1 S1 H1 sd1 σ1 r vr Q rs1 rl1 (r2.mono x1 k1) h3
theorem dgw_tup {es : List Expr} {k : Nat} {t} {n : Nat} (hc : X.calm = true) (h : DGsw cl X E vs es t)
    (hn : (assignEach es X.env).length = n := by rfl) (hst : (assignEach es X.env).findIdx? (·.1) = none := by rfl) : DGw cl X E vs (.Tuple es k pos) (gTupD n t) := by
  obtain ⟨u, q, o, h⟩ := h
  refine ⟨_, PG.or (pg_tup hc q hn hst) (pg_unl hc q hn hst), ⟨fun v σ H Q Q' hq hh => ?_, fun v σ H Q hh => ?_⟩, fun m S H sd σ d v Q rs rl rv hh => ?_⟩
  · rcases hh with ⟨a, xs, e, s1, hl, hh⟩ | ⟨a, xs, e, s1, hl, hh⟩
    · exact .inl ⟨a, xs, e, s1, hl, o.mono _ _ _ _ _ hq hh⟩
    · exact .inr ⟨a, xs, e, s1, hl, o.mono _ _ _ _ _ hq hh⟩
  · rcases hh with ⟨a, xs, e, s1, hl, hh⟩ | ⟨a, xs, e, s1, hl, hh⟩
    · exact .inl ⟨a, xs, e, s1, hl, o.own _ _ _ _ hh⟩
    · exact .inr ⟨a, xs, e, s1, hl, o.own _ _ _ _ hh⟩
  · unfold gTupD at hh
    split at hh
    · rename_i ds
      split at hh
      · rename_i hl
        obtain ⟨a, vs, rfl, s1, r1⟩ := rv
        exact .inl ⟨a, vs, rfl, s1, by rw [← r1.length]; exact hl, h m S H sd σ ds vs Q rs rl r1 hh⟩
      · exact hh.elim
    · split at hh
      · rename_i ds e1
        split at hh
        · rename_i hl
          obtain ⟨a, vs, rfl, hv, r1⟩ := ls_rv rs rv e1
          exact .inr ⟨a, vs, rfl, hv, by rw [← r1.length]; exact hl, h m S H sd σ ds vs Q rs rl r1 hh⟩
        · exact hh.elim
      · exact hh.elim
end
def Res.noExc {α : Type} : Res α → Res α
  | .exc _ _ => .stuck
  | r => r
theorem Post.noExc {cl : Cl} {K : PySem.W.Frag} {α β : Type} {Rv : List Addr → Hp → α → β → Prop} {m : List Addr} {H : Hp} {E : XK} {Q : β → Hp → Prop} {r : Res α} (h : Post cl K Rv m H E Q r.noExc) : Post cl K Rv m H E0 Q r := by
  cases r with
  | ok a S => exact h
  | exc x S => exact h.elim
  | stuck => exact h
theorem Post.bindN {cl : Cl} {K : PySem.W.Frag} {α β γ δ : Type} {Rv : List Addr → Hp → α → β → Prop} {Rw : List Addr → Hp → γ → δ → Prop} {m : List Addr} {H : Hp} {E : XK} {Q : β → Hp → Prop}
    {r : Res α} {k : α → Sto → Res γ} {Q' : δ → Hp → Prop} (h : Post cl K Rw m H E Q' (r.noExc.bind k))
    (hk : ∀ d S1 m1 v H1, Ext m m1 → Keep H H1 → RS cl K m1 S1 H1 → Rv m1 H1 d v → Post cl K Rw m1 H1 E Q' (k d S1) → Q v H1) : Post cl K Rv m H E0 Q r := by
  cases r with
  | ok d S1 => exact fun m1 v H1 x1 k1 rs rv => hk d S1 m1 v H1 x1 k1 rs rv (Post.mono x1 k1 h)
  | exc x S1 => exact h.elim
  | stuck => exact h.elim
def compD (chk : Sto → Bool) (ga : D → Sl → Sto → Res Sl) (ft : Sl → Sto → Res Bool) (fe : Sl → Sto → Res D) (l : Nat) (sd : Sl) : List D → Sto → Res Unit
  | [], S => if chk S then .ok () S else .stuck
  | x :: xs, S => if chk S then (ga x sd S).noExc.bind fun sd1 S1 => (ft sd1 S1).noExc.bind fun b S2 => if b then (fe sd1 S2).noExc.bind fun y S3 => (match S3[l]? with
      | some (.lst acc) => if acc.length < sizeLine then compD chk ga ft fe l sd xs (S3.set l (.lst (acc ++ [y]))) else .stuck
      | _ => .stuck) else compD chk ga ft fe l sd xs S2
    else .stuck
def dComp (vs : List Nat) (fi : Sl → Sto → Res ItD) (ga : D → Sl → Sto → Res Sl) (ft : Sl → Sto → Res Bool) (fe : Sl → Sto → Res D) : Sl → Sto → Res D := fun sd S =>
  (fi sd S).bind fun it S1 => (compD it.chk ga ft fe S1.length (wipeD sd vs) it.items (S1 ++ [.lst []])).bind fun _ S2 => .ok (.ref S1.length) S2
def tYesD : Sl → Sto → Res Bool := fun _ S => .ok true S
def DTs (cl : Cl) (X : Cx) (E : XK) (ifs : List Expr) (f : Sl → Sto → Res Bool) : Prop :=
  ∃ t, PTs X ifs t ∧ ∀ m S H sd σ Q, RS cl X.K m S H → RSl X.K m H sd σ → Post cl X.K RBool m H E Q (f sd S) → t σ H Q
section
variable {cl : Cl} {X : Cx} {E : XK} {e : Expr} {f : Sl → Sto → Res Bool}
theorem dts_nil : DTs cl X E [] tYesD := ⟨_, pts_nil, fun m S H sd σ Q rs rl h => h.here rs rfl⟩
theorem dts_one (h : DT cl X E e f) : DTs cl X E [e] f := by
  obtain ⟨t, p, h⟩ := h
  exact ⟨_, pts_one p, h⟩
end
section
variable {cl : Cl} {X : Cx} {E : XK} {elt tg iter : Expr} {ifs : List Expr} {scope : Scope} {own : List (Str × Nat)} {pos : Pos} {fi : Sl → Sto → Res ItD} {ga : D → Sl → Sto → Res Sl} {ft : Sl → Sto → Res Bool} {fe : Sl → Sto → Res D}
theorem comp_core {wi : TI} {g : TG} {tt : TT} {te : TE} {vs : List Nat} (X' : Cx) (hK : X'.K = X.K)
    (hi : ∀ m S H sd σ R, RS cl X.K m S H → RSl X.K m H sd σ → Post cl X.K (IR cl X.K) m H E R (fi sd S) → wi σ H R)
    (og : Own g vs) (hg : ∀ m S H sd σ d v Q, RS cl X.K m S H → RSl X.K m H sd σ → RV X.K m H d v → Post cl X.K (RSl X.K) m H E0 Q (ga d sd S) → g v σ H Q)
    (ht : ∀ m S H sd σ Q, RS cl X.K m S H → RSl X.K m H sd σ → Post cl X.K RBool m H E0 Q (ft sd S) → tt σ H Q)
    (he : ∀ m S H sd σ Q, RS cl X.K m S H → RSl X.K m H sd σ → Post cl X.K (RV X.K) m H E0 Q (fe sd S) → te σ H Q) :
    ∀ m S H sd σ Q, RS cl X.K m S H → RSl X.K m H sd σ → Post cl X.K (RV X.K) m H E Q (dComp vs fi ga ft fe sd S) → tLc wi g tt te vs σ H Q := by
  intro m S H sd σ Q rs rl h
  refine hi m S H sd σ _ rs rl (Post.bind h fun it S1 m1 J H1 x1 k1 rs1 ir h1 => ?_)
  intro D hD
  obtain ⟨nl1, nl2⟩ := newLst rs1 (ds := []) (vs := []) rfl hD
  obtain ⟨aD, hmD, eD⟩ := nl2
  cases eD
  have x2 := Ext.snoc m1 D
  have k2 : Keep H1 (upd H1 D (.lst [])) := Keep.new hD
  refine ⟨fun i n H' => n + i = it.items.length ∧ ∃ m' S', Ext (m1 ++ [D]) m' ∧ Keep (upd H1 D (.lst [])) H' ∧ RS cl X.K m' S' H' ∧ Post cl X.K (RV X.K) m' H' E Q ((compD it.chk ga ft fe S1.length (wipeD sd vs) (it.items.drop i) S').bind fun _ S2 => .ok (.ref S1.length) S2),
    ⟨it.items.length, rfl, m1 ++ [D], S1 ++ [.lst []], Ext.refl _, Keep.refl _, nl1, by rw [List.drop_zero]; exact Post.mono x2 k2 h1⟩, ?_⟩
  rintro i n H' ⟨hn, m', S', x', k', rs', h'⟩
  have rlw : RSl X.K m' H' (wipeD sd vs) (wipe σ vs) := ((rl.mono x1 k1).wipe vs).mono (x2.trans x') (k2.trans k')
  by_cases hlt : i < it.items.length
  · have e1 : it.items.drop i = it.items[i] :: it.items.drop (i + 1) := by rw [List.drop_eq_getElem_cons hlt]
    rw [e1] at h'
    unfold compD at h'
    split at h'
    · rename_i hck
      obtain ⟨go, yl⟩ := (ir i m' S' H' (x2.trans x') (k2.trans k') rs' hck).2 it.items[i] (by simp [hlt])
      refine .inr ⟨go, fun H3 => ∃ m3 S3, Ext (m1 ++ [D]) m3 ∧ Keep (upd H1 D (.lst [])) H3 ∧ RS cl X.K m3 S3 H3 ∧ Post cl X.K (RV X.K) m3 H3 E Q ((compD it.chk ga ft fe S1.length (wipeD sd vs) (it.items.drop (i + 1)) S3).bind fun _ S2 => .ok (.ref S1.length) S2), fun H3 z => ⟨n - 1, by omega, by omega, z⟩, fun x H2 hy => ?_⟩
      obtain ⟨ky, rsy, rvy⟩ := yl x H2 hy
      rw [bind_assoc] at h'
      refine og.mono _ _ _ _ _ (fun σ2 H2' z => ⟨z.1.trans (wipe_wipe σ vs), z.2⟩) (og.own _ _ _ _ (hg m' S' H2 (wipeD sd vs) (wipe σ vs) _ x _ rsy (rlw.mono (Ext.refl _) ky) rvy (Post.bindN (Post.mono (Ext.refl _) ky h') fun sd1 S3 m3 σ3 H3 x3 k3 rs3 rl3 h3 => ?_)))
      rw [bind_assoc] at h3
      refine ht m3 S3 H3 sd1 σ3 _ rs3 rl3 (Post.bindN h3 fun b S4 m4 vb H4 x4 k4 rs4 rb h4 => ?_)
      cases rb
      cases b with
      | false => exact iteF ⟨m4, S4, (x'.trans x3).trans x4, ((k'.trans ky).trans k3).trans k4, rs4, h4⟩
      | true =>
        refine iteT ?_
        have h4' : Post cl X.K (RV X.K) m4 H4 E Q (((fe sd1 S4).noExc.bind fun y S3 => (match S3[S1.length]? with
            | some (.lst acc) => if acc.length < sizeLine then compD it.chk ga ft fe S1.length (wipeD sd vs) (it.items.drop (i + 1)) (S3.set S1.length (.lst (acc ++ [y]))) else .stuck
            | _ => .stuck)).bind fun _ S2 => .ok (.ref S1.length) S2) := h4
        rw [bind_assoc] at h4'
        refine he m4 S4 H4 sd1 σ3 _ rs4 (rl3.mono x4 k4) (Post.bindN h4' fun y S5 m5 vy H5 x5 k5 rs5 ry h5 => ?_)
        split at h5
        · rename_i acc ea
          split at h5
          · rename_i hz
            obtain ⟨a, ha, ws, hw, rw'⟩ := rs5.adr ea
            have xx : Ext (m1 ++ [D]) m5 := ((x'.trans x3).trans x4).trans x5
            rw [xx _ _ hmD] at ha; cases ha
            have hk5 := rs5.keepPut (u := .lst (ws ++ [vy])) ea (xx _ _ hmD)
            refine ⟨ws, hw, by rw [← rw'.length]; exact hz, m5, List.set S5 S1.length (.lst (acc ++ [y])), xx, (((k'.trans ky).trans k3).trans k4).trans (k5.trans hk5), rs5.put ea (xx _ _ hmD) ⟨_, upd_same, (rw'.snoc ry).mono (Ext.refl _) hk5⟩, Post.mono (Ext.refl _) hk5 h5⟩
          · exact h5.elim
        · exact h5.elim
    · exact h'.elim
  · have hi' : i = it.items.length := by omega
    have e1 : it.items.drop i = [] := by rw [hi']; simp
    rw [e1] at h'
    unfold compD at h'
    split at h'
    · rename_i hck
      exact .inl ⟨(ir i m' S' H' (x2.trans x') (k2.trans k') rs' hck).1 hi', h' m' (.ref D) H' (Ext.refl _) (Keep.refl _) rs' ⟨D, x' _ _ hmD, rfl⟩⟩
    · exact h'.elim
theorem de_comp (hc : X.calm = true) (hN : X.N.Nodup) (hi : DI cl X E tg iter fi) (ok : BlkOk X.N X.env.scope scope own)
    (hg : ∀ (s : Shared) (H : Hp) (C : Addr) (c : List (Str × Addr)) (fp : List Addr), DGw cl (X.blk s H scope (compEnvC scope c C X.env) fp) E0 (own.map (·.2)) tg ga)
    (ht : ∀ (s : Shared) (H : Hp) (C : Addr) (c : List (Str × Addr)) (fp : List Addr), DTs cl (X.blk s H scope (compEnvC scope c C X.env) fp) E0 ifs ft)
    (he : ∀ (s : Shared) (H : Hp) (C : Addr) (c : List (Str × Addr)) (fp : List Addr), DE cl (X.blk s H scope (compEnvC scope c C X.env) fp) E0 elt fe)
    (hs : ∀ x, foldedSetIterable iter X.env x = pure x := by intro _; rfl) :
    DE cl X E (.ListComp elt [⟨tg, iter, ifs, 0⟩] scope pos) (dComp (own.map (·.2)) fi ga ft fe) := by
  obtain ⟨wi, pi, hi⟩ := hi
  -- one reading for all blocks: every reading that the block's rules allow
  refine ⟨tLc wi (fun v σ H Q => ∃ m S sd d, RS cl X.K m S H ∧ RSl X.K m H sd σ ∧ RV X.K m H d v ∧ Post cl X.K (RSl X.K) m H E0 (fun σ2 H2 => wipe σ2 (own.map (·.2)) = wipe σ (own.map (·.2)) → Q σ2 H2) (ga d sd S))
      (fun σ H Q => ∃ m S sd, RS cl X.K m S H ∧ RSl X.K m H sd σ ∧ Post cl X.K RBool m H E0 Q (ft sd S))
      (fun σ H Q => ∃ m S sd, RS cl X.K m S H ∧ RSl X.K m H sd σ ∧ Post cl X.K (RV X.K) m H E0 Q (fe sd S)) (own.map (·.2)), pe_lc hc hN pi ok (fun s H C c fp => ?_) (fun s H C c fp => ?_) (fun s H C c fp => ?_) hs, ?_⟩
  · obtain ⟨g, pg, og, hg⟩ := hg s H C c fp
    exact ⟨fun pins s σ H v u Q I r ⟨m, S, sd, d, rs, rl, rv, h⟩ => pg.run pins s σ H v u Q I r (og.mono _ _ _ _ _ (fun σ2 H2 z => z.2 z.1) (og.own _ _ _ _ (hg m S H sd σ d v _ rs rl rv h)))⟩
  · obtain ⟨t, p, ht⟩ := ht s H C c fp
    exact ⟨fun pins s σ H Q I ⟨m, S, sd, rs, rl, h⟩ => p.run pins s σ H Q I (ht m S H sd σ Q rs rl h)⟩
  · obtain ⟨t, p, he⟩ := he s H C c fp
    exact ⟨fun pins s σ H Q I ⟨m, S, sd, rs, rl, h⟩ => p.run pins s σ H Q I (he m S H sd σ Q rs rl h)⟩
  · refine comp_core X rfl hi ⟨fun v σ H Q Q' hq ⟨m, S, sd, d, rs, rl, rv, h⟩ => ⟨m, S, sd, d, rs, rl, rv, h.imp fun σ2 H2 z w => hq _ _ (z w)⟩, fun v σ H Q ⟨m, S, sd, d, rs, rl, rv, h⟩ => ⟨m, S, sd, d, rs, rl, rv, h.imp fun σ2 H2 z w => ⟨w, z w⟩⟩⟩
      (fun m S H sd σ d v Q rs rl rv h => ⟨m, S, sd, d, rs, rl, rv, Post.imp (Q' := fun σ2 H2 => wipe σ2 (own.map (·.2)) = wipe σ (own.map (·.2)) → Q σ2 H2) (fun σ2 H2 z _ => z) h⟩) (fun m S H sd σ Q rs rl h => ⟨m, S, sd, rs, rl, h⟩) (fun m S H sd σ Q rs rl h => ⟨m, S, sd, rs, rl, h⟩)
end
end DL

namespace DL
open PySem PySem.Spec PyProof.Rows L2
def ixD : D → D → Sto → Res D
  | .tup ds, .int i, S => match atI ds i with
    | some d => .ok d S
    | none => .stuck
  | .frl ds, .int i, S => match atI ds i with
    | some d => .ok d S
    | none => .stuck
  | .str z, .int i, S => if z.length ≤ sizeLine then match atI z.cps.toList i with
      | some c => .ok (.str ⟨#[c]⟩) S
      | none => .stuck
    else .stuck
  | .ref l, .int i, S => match S[l]? with
    | some (.lst ds) => match atI ds i with
      | some d => .ok d S
      | none => .stuck
    | _ => .stuck
  | _, _, _ => .stuck
section
variable {cl : Cl} {X : Cx} {E : XK} {a b : Expr} {fa fb : Sl → Sto → Res D} {pos : Pos}
theorem atI_rv {K : PySem.W.Frag} {m : List Addr} {H : Hp} {ds : List D} {vs : List V} {i : Int} {d : D} (r : RVs K m H ds vs) (h : atI ds i = some d) : ∃ v, atI vs i = some v ∧ RV K m H d v := by
  unfold atI at h ⊢
  rw [← r.length]
  cases e : ixN ds.length i with
  | none => rw [e] at h; cases h
  | some j =>
    rw [e] at h
    exact r.get h
theorem ix_seqD {m : List Addr} {S : Sto} {H : Hp} {x y : D} {vx vy : V} {Q : VK} {E : XK} (rs : RS cl X.K m S H) (rx : RV X.K m H x vx) (ry : RV X.K m H y vy) (h : Post cl X.K (RV X.K) m H E Q (ixD x y S)) : rIx X.K vx vy H Q := by
  unfold ixD at h
  split at h
  · cases ry
    obtain ⟨a, vs, rfl, s1, r1⟩ := rx
    split at h
    · rename_i d e
      obtain ⟨v, e1, rv⟩ := atI_rv r1 e
      exact .inr (.inl ⟨a, vs, _, v, rfl, rfl, s1, e1, h.here rs rv⟩)
    · exact h.elim
  · cases ry
    obtain ⟨a, vs, rfl, s1, r1⟩ := rx
    split at h
    · rename_i d e
      obtain ⟨v, e1, rv⟩ := atI_rv r1 e
      exact .inl ⟨a, vs, _, v, rfl, rfl, s1.sq, e1, h.here rs rv⟩
    · exact h.elim
  · cases ry; cases rx
    split at h
    · rename_i hz
      split at h
      · rename_i c e
        exact .inr (.inr ⟨_, _, c, rfl, rfl, hz, e, h.here rs rfl⟩)
      · exact h.elim
    · exact h.elim
  · cases ry
    split at h
    · rename_i ds e1
      obtain ⟨a, h1, vs, hv, r1⟩ := rs.adr e1
      obtain ⟨a', h2, rfl⟩ := rx
      rw [h1] at h2; cases h2
      split at h
      · rename_i d e
        obtain ⟨v, e1, rv⟩ := atI_rv r1 e
        exact .inl ⟨a, vs, _, v, rfl, rfl, SqL.of hv, e1, h.here rs rv⟩
      · exact h.elim
    · exact h.elim
  · exact h.elim
theorem de_ix (ha : DE cl X E a fa) (hb : DE cl X E b fb) (hs : PlainIx b := by intro _ _; rfl) : DE cl X E (.Subscript a b pos) (d2 ixD fa fb) := by
  obtain ⟨t, p, ha⟩ := ha
  obtain ⟨u, q, hb⟩ := hb
  refine ⟨_, pe_ix ix_seq p q hs, fun m S H sd σ Q rs rl h => ?_⟩
  refine ha m S H sd σ _ rs rl (Post.bind h fun x S1 m1 vx H1 x1 k1 rs1 rx h1 => ?_)
  refine hb m1 S1 H1 sd σ _ rs1 (rl.mono x1 k1) (Post.bind h1 fun y S2 m2 vy H2 x2 k2 rs2 ry h2 => ?_)
  exact ix_seqD rs2 (RV.mono x2 k2 x rx) ry h2
def setD (o i v : D) (S : Sto) : Res Unit := match o, i with
  | .ref l, .int k => match S[l]? with
    | some (.lst ds) => match ixN ds.length k with
      | some j => .ok () (S.set l (.lst (ds.set j v)))
      | none => .stuck
    | _ => .stuck
  | _, _ => .stuck
def gSubD (set : D → D → D → Sto → Res Unit) (fo fi : Sl → Sto → Res D) : D → Sl → Sto → Res Sl := fun v sd S => (fo sd S).bind fun o S1 => (fi sd S1).bind fun i S2 => (set o i v S2).bind fun _ S3 => .ok sd S3
def SetD (cl : Cl) (X : Cx) (g : D → D → D → Sto → Res Unit) : Prop :=
  ∃ t, PSet X t ∧ ∀ (E : XK) m S H o i v vo vi vv (Q : Hp → Prop), RS cl X.K m S H → RV X.K m H o vo → RV X.K m H i vi → RV X.K m H v vv → Post cl X.K (fun _ _ (_ _ : Unit) => True) m H E (fun _ H => Q H) (g o i v S) → t vo vi vv H Q
theorem set_lstD : SetD cl X setD := by
  refine ⟨_, set_list, fun E m S H o i v vo vi vv Q rs ro ri rv h => ?_⟩
  unfold setD at h
  split at h
  · rename_i l k
    cases ri
    split at h
    · rename_i ds e1
      obtain ⟨a, h1, vs, hv, r1⟩ := rs.adr e1
      obtain ⟨a', h2, rfl⟩ := ro
      rw [h1] at h2; cases h2
      split at h
      · rename_i j ej
        have kp := rs.keepPut (u := .lst (vs.set j vv)) e1 h1
        exact ⟨a, vs, k, j, rfl, rfl, hv, by rw [← r1.length]; exact ej, h m () _ (Ext.refl _) kp (rs.put e1 h1 ⟨_, upd_same, (r1.set rv j).mono (Ext.refl _) kp⟩) trivial⟩
      · exact h.elim
    · exact h.elim
  · exact h.elim
theorem dg_sub {o i : Expr} {fo fi set} (ho : DE cl X E o fo) (hi : DE cl X E i fi) (hs : SetD cl X set)
    (ha : ∀ v, assign (.Subscript o i pos) X.env v = (do
      let ov ← holding [v] (eval o X.env)
      let iv ← holding [v, ov] (eval i X.env)
      standAt pos
      holding [v, ov, iv] (setItem ov iv v)
      release [v, ov, iv] []) := by intro _; rfl) : DG cl X E (.Subscript o i pos) (gSubD set fo fi) := by
  obtain ⟨t, p, ho⟩ := ho
  obtain ⟨u, q, hi⟩ := hi
  obtain ⟨w, ps, hs⟩ := hs
  refine ⟨_, pg_sub p q ps ha, fun m S H sd σ d v Q rs rl rv h => ?_⟩
  refine ho m S H sd σ _ rs rl (Post.bind h fun x S1 m1 vx H1 x1 k1 rs1 rx h1 => ?_)
  refine hi m1 S1 H1 sd σ _ rs1 (rl.mono x1 k1) (Post.bind h1 fun y S2 m2 vy H2 x2 k2 rs2 ry h2 => ?_)
  refine hs E m2 S2 H2 x y d vx vy v _ rs2 (RV.mono x2 k2 x rx) ry (RV.mono (x1.trans x2) (k1.trans k2) d rv) (Post.bind h2 fun _ S3 m3 _ H3 x3 k3 rs3 _ h3 => ?_)
  exact h3.here rs3 (rl.mono ((x1.trans x2).trans x3) ((k1.trans k2).trans k3))
def cutL (ds : List D) (lo hi : Option Int) : List D := (ds.drop (HT.sIx ds.length 0 lo)).take (HT.sIx ds.length ds.length hi - HT.sIx ds.length 0 lo)
def sliceD (x : D) (lo hi : Option Int) (S : Sto) : Res D := match x with
  | .tup ds => .ok (.tup (cutL ds lo hi)) S
  | .frl ds => .ok (.ref S.length) (S ++ [.lst (cutL ds lo hi)])
  | .str z => if z.length ≤ sizeLine then .ok (.str (cutS z lo hi)) S else .stuck
  | .ref l => match S[l]? with
    | some (.lst ds) => .ok (.ref S.length) (S ++ [.lst (cutL ds lo hi)])
    | _ => .stuck
  | _ => .stuck
def DPO (cl : Cl) (X : Cx) (E : XK) (e : Option Expr) (f : Sl → Sto → Res (Option Int)) : Prop :=
  ∃ t, PO X e t ∧ ∀ m S H sd σ Q, RS cl X.K m S H → RSl X.K m H sd σ → Post cl X.K (fun _ _ (a b : Option Int) => a = b) m H E Q (f sd S) → t σ H Q
def oNone : Sl → Sto → Res (Option Int) := fun _ S => .ok none S
def oSome (f : Sl → Sto → Res D) : Sl → Sto → Res (Option Int) := fun sd S => (f sd S).bind fun d S1 => match d with
  | .int i => .ok (some i) S1
  | _ => .stuck
theorem dpo_none : DPO cl X E none oNone := ⟨_, po_none, fun m S H sd σ Q rs rl h => h.here rs rfl⟩
theorem dpo_some (ha : DE cl X E a fa) : DPO cl X E (some a) (oSome fa) := by
  obtain ⟨t, p, ha⟩ := ha
  refine ⟨_, po_some p, fun m S H sd σ Q rs rl h => ?_⟩
  refine ha m S H sd σ _ rs rl (Post.bind h fun x S1 m1 vx H1 x1 k1 rs1 rx h1 => ?_)
  cases x with
  | int i => exact ⟨i, rx, h1.here rs1 rfl⟩
  | _ => exact h1.elim
def dSlice (f : Sl → Sto → Res D) (g h : Sl → Sto → Res (Option Int)) : Sl → Sto → Res D := fun sd S => (f sd S).bind fun x S1 => (g sd S1).bind fun lo S2 => (h sd S2).bind fun hi S3 => sliceD x lo hi S3
theorem cut_rv {K : PySem.W.Frag} {m : List Addr} {H : Hp} {ds : List D} {vs : List V} (r : RVs K m H ds vs) (lo hi : Option Int) : RVs K m H (cutL ds lo hi) (cutV vs lo hi) := by
  unfold cutL cutV
  rw [← r.length]
  exact (r.drop _).take _
theorem sIx_whole {ds : List D} {lo hi : Option Int} (h : HT.sIx ds.length 0 lo = 0 ∧ HT.sIx ds.length ds.length hi = ds.length) : cutL ds lo hi = ds := by
  unfold cutL
  rw [h.1, h.2]
  simp
theorem de_slice {lo hi : Option Expr} {p2 : Pos} {fl fh} (ha : DE cl X E a fa) (hl : DPO cl X E lo fl) (hh : DPO cl X E hi fh) : DE cl X E (.Subscript a (.Slice lo hi none p2) pos) (dSlice fa fl fh) := by
  obtain ⟨t, p, ha⟩ := ha
  obtain ⟨t1, p1, hl⟩ := hl
  obtain ⟨t2, p2', hh⟩ := hh
  refine ⟨_, pe_slice ((sl_list.or sl_tupA).or sl_str) p p1 p2', fun m S H sd σ Q rs rl h => ?_⟩
  refine ha m S H sd σ _ rs rl (Post.bind h fun x S1 m1 vx H1 x1 k1 rs1 rx h1 => ?_)
  refine hl m1 S1 H1 sd σ _ rs1 (rl.mono x1 k1) (Post.bind h1 fun l S2 m2 vl H2 x2 k2 rs2 rll h2 => ?_)
  refine hh m2 S2 H2 sd σ _ rs2 (rl.mono (x1.trans x2) (k1.trans k2)) (Post.bind h2 fun u S3 m3 vu H3 x3 k3 rs3 ru h3 => ?_)
  cases rll; cases ru
  have rx3 := RV.mono (x2.trans x3) (k2.trans k3) x rx
  unfold sliceD at h3
  split at h3
  · obtain ⟨a, vs, rfl, s1, r1⟩ := rx3
    refine .inl (.inr ⟨a, vs, rfl, s1, fun e => ?_, fun e p' hp => ?_⟩)
    · rw [← r1.length] at e
      rw [sIx_whole e] at h3
      exact h3.here rs3 ⟨a, vs, rfl, s1, r1⟩
    · obtain ⟨a1, b1⟩ := newTup rs3 (cut_rv r1 l u) hp
      exact h3 _ _ _ (Ext.refl _) (Keep.new hp) a1 b1
  · obtain ⟨a, vs, rfl, s1, r1⟩ := rx3
    refine .inl (.inl ⟨a, vs, rfl, s1.sq, fun p' hp => ?_⟩)
    obtain ⟨a1, b1⟩ := newLst rs3 (cut_rv r1 l u) hp
    exact h3 _ _ _ (Ext.snoc _ _) (Keep.new hp) a1 b1
  · cases rx3
    split at h3
    · rename_i hz
      exact .inr ⟨_, rfl, hz, h3.here rs3 rfl⟩
    · exact h3.elim
  · split at h3
    · rename_i ds e1
      obtain ⟨a, h1, vs, hv, r1⟩ := rs3.adr e1
      obtain ⟨a', h2, rfl⟩ := rx3
      rw [h1] at h2; cases h2
      refine .inl (.inl ⟨a, vs, rfl, SqL.of hv, fun p' hp => ?_⟩)
      obtain ⟨a1, b1⟩ := newLst rs3 (cut_rv r1 l u) hp
      exact h3 _ _ _ (Ext.snoc _ _) (Keep.new hp) a1 b1
    · exact h3.elim
  · exact h3.elim
def CallD (cl : Cl) (X : Cx) (f : Value) (g : List D → Sto → Res D) : Prop :=
  ∃ r, CallR X f r ∧ ∀ (E : XK) m S H ds vs Q, RS cl X.K m S H → RVs X.K m H ds vs → Post cl X.K (RV X.K) m H E Q (g ds S) → r vs H Q
def dCall (g : List D → Sto → Res D) (f : Sl → Sto → Res (List D)) : Sl → Sto → Res D := fun sd S => (f sd S).bind fun ds S1 => g ds S1
theorem de_callB {x : Str} {p : Pos} {id : String} {e : Expr} {es : List Expr} {g f} (hc : CallD cl X (.builtin id) g) (hg : Gl X x) (hm : X.mg x = none) (hv : bootBuiltins x = some (.builtin id)) (ha : DA cl X E (e :: es) f) (hn : x ≠ "__name__" := by decide) (hdb : (x == ("__debug__" : Str)) = false := by decide)
    (he : starEach (e :: es) X.env = (false, eval e X.env) :: starEach es X.env := by rfl) (hpl : (backTo pos (starEach es X.env)).any (·.1) = false := by rfl) : DE cl X E (.Call (.Name x p) (e :: es) [] pos) (dCall g f) := by
  obtain ⟨r, cr, hr⟩ := hc
  obtain ⟨t, q, ha⟩ := ha
  refine ⟨_, pe_callB cr hg hm hv q hn hdb he hpl, fun m S H sd σ Q rs rl h => ?_⟩
  exact ha m S H sd σ _ rs rl (Post.bind h fun ds S1 m1 vs H1 x1 k1 rs1 rv h1 => hr E m1 S1 H1 ds vs Q rs1 rv h1)
theorem de_callTy {x : Str} {p : Pos} {T : String} {e : Expr} {es : List Expr} {g f} (hc : CallD cl X (.type T) g) (hg : Gl X x) (hm : X.mg x = none) (hv : bootBuiltins x = some (.type T)) (ha : DA cl X E (e :: es) f) (hn : x ≠ "__name__" := by decide) (hdb : (x == ("__debug__" : Str)) = false := by decide)
    (he : starEach (e :: es) X.env = (false, eval e X.env) :: starEach es X.env := by rfl) (hpl : (backTo pos (starEach es X.env)).any (·.1) = false := by rfl) : DE cl X E (.Call (.Name x p) (e :: es) [] pos) (dCall g f) := by
  obtain ⟨r, cr, hr⟩ := hc
  obtain ⟨t, q, ha⟩ := ha
  refine ⟨_, pe_callTy cr hg hm hv q hn hdb he hpl, fun m S H sd σ Q rs rl h => ?_⟩
  exact ha m S H sd σ _ rs rl (Post.bind h fun ds S1 m1 vs H1 x1 k1 rs1 rv h1 => hr E m1 S1 H1 ds vs Q rs1 rv h1)
def lenD : List D → Sto → Res D
  | [.str z], S => if z.length ≤ sizeLine then .ok (.int (z.length : Nat)) S else .stuck
  | [.tup ds], S => .ok (.int (ds.length : Nat)) S
  | [.frl ds], S => .ok (.int (ds.length : Nat)) S
  | [.ref l], S => match S[l]? with
    | some (.lst ds) => .ok (.int (ds.length : Nat)) S
    | _ => .stuck
  | _, _ => .stuck
theorem rvs1 {K : PySem.W.Frag} {m : List Addr} {H : Hp} {d : D} {vs : List V} (r : RVs K m H [d] vs) : ∃ v, vs = [v] ∧ RV K m H d v := by
  obtain ⟨v, vs', rfl, rv, e⟩ := r
  cases e
  exact ⟨v, rfl, rv⟩
theorem rvs2 {K : PySem.W.Frag} {m : List Addr} {H : Hp} {d e : D} {vs : List V} (r : RVs K m H [d, e] vs) : ∃ v w, vs = [v, w] ∧ RV K m H d v ∧ RV K m H e w := by
  obtain ⟨v, vs', rfl, rv, w, vs2, rfl, rw', e⟩ := r
  cases e
  exact ⟨v, w, rfl, rv, rw'⟩
theorem cd_len : CallD cl X (.builtin "len") lenD := by
  refine ⟨_, call_len, fun E m S H ds vs Q rs rv h => ?_⟩
  unfold lenD at h
  split at h
  · obtain ⟨v, rfl, r⟩ := rvs1 rv
    cases r
    split at h
    · rename_i hz
      exact ⟨_, _, rfl, ⟨hz, rfl⟩, h.here rs rfl⟩
    · exact h.elim
  · obtain ⟨v, rfl, a, ws, rfl, s1, r1⟩ := rvs1 rv
    exact ⟨_, _, rfl, .inr ⟨ws, s1, r1.length⟩, h.here rs rfl⟩
  · obtain ⟨v, rfl, a, ws, rfl, s1, r1⟩ := rvs1 rv
    exact ⟨_, _, rfl, .inl ⟨ws, s1.sq, r1.length⟩, h.here rs rfl⟩
  · obtain ⟨v, rfl, r⟩ := rvs1 rv
    split at h
    · rename_i ds e1
      obtain ⟨a, h1, ws, hv, r1⟩ := rs.adr e1
      obtain ⟨a', h2, rfl⟩ := r
      rw [h1] at h2; cases h2
      exact ⟨_, _, rfl, .inl ⟨ws, SqL.of hv, r1.length⟩, h.here rs rfl⟩
    · exact h.elim
  · exact h.elim
def seqD (d : D) (S : Sto) : Option (List D) := match d with
  | .tup ds => some ds
  | .frl ds => some ds
  | .ref l => match S[l]? with
    | some (.lst ds) => some ds
    | _ => none
  | _ => none
theorem seq_rv {K : PySem.W.Frag} {m : List Addr} {S : Sto} {H : Hp} {d : D} {v : V} {ds : List D} (rs : RS cl K m S H) (rv : RV K m H d v) (h : seqD d S = some ds) :
    ∃ a vs, v = .ref a ∧ (SqL K H a vs ∨ SqT K H a vs) ∧ RVs K m H ds vs := by
  unfold seqD at h
  split at h
  · cases h
    obtain ⟨a, vs, rfl, s1, r1⟩ := rv
    exact ⟨a, vs, rfl, .inr s1, r1⟩
  · cases h
    obtain ⟨a, vs, rfl, s1, r1⟩ := rv
    exact ⟨a, vs, rfl, .inl s1.sq, r1⟩
  · split at h
    · rename_i es e1
      cases h
      obtain ⟨a, h1, ws, hv, r1⟩ := rs.adr e1
      obtain ⟨a', h2, rfl⟩ := rv
      rw [h1] at h2; cases h2
      exact ⟨a, ws, rfl, .inl (SqL.of hv), r1⟩
    · cases h
  · cases h
def tupleD : List D → Sto → Res D
  | [d], S => match seqD d S with
    | some ds => .ok (.tup ds) S
    | none => .stuck
  | _, _ => .stuck
theorem cd_tuple : CallD cl X (.type "tuple") tupleD := by
  refine ⟨_, call_tuple_of, fun E m S H ds vs Q rs rv h => ?_⟩
  unfold tupleD at h
  split at h
  · rename_i d
    obtain ⟨v, rfl, r⟩ := rvs1 rv
    split at h
    · rename_i es e1
      obtain ⟨a, ws, rfl, hs, r1⟩ := seq_rv rs r e1
      refine ⟨a, ws, rfl, ?_⟩
      rcases hs with hs | hs
      · refine .inl ⟨hs, fun l hl => ?_⟩
        obtain ⟨a1, b1⟩ := newTup rs r1 hl
        exact h _ _ _ (Ext.refl _) (Keep.new hl) a1 b1
      · exact .inr ⟨hs, h.here rs ⟨a, ws, rfl, hs, r1⟩⟩
    · exact h.elim
  · exact h.elim
def min2D : List D → Sto → Res D
  | [.int i, .int j], S => .ok (.int (if j < i then j else i)) S
  | _, _ => .stuck
theorem cd_min2 (hc : X.calm = true) : CallD cl X (.builtin "min") min2D := by
  refine ⟨_, call_min2 hc, fun E m S H ds vs Q rs rv h => ?_⟩
  unfold min2D at h
  split at h
  · obtain ⟨v, w, rfl, r, r'⟩ := rvs2 rv
    cases r; cases r'
    exact ⟨_, _, rfl, h.here rs rfl⟩
  · exact h.elim
def flatD : D → Bool
  | .non => true
  | .bl _ => true
  | .int _ => true
  | .str _ => true
  | _ => false
def eqF : D → D → Bool
  | .non, .non => true
  | .bl a, .bl b => a == b
  | .bl a, .int b => (if a then 1 else 0) == b
  | .int a, .bl b => a == (if b then 1 else 0)
  | .int a, .int b => a == b
  | .str a, .str b => a == b
  | _, _ => false
def hasD (x y : D) (S : Sto) : Option Bool := match y with
  | .str z => match x with
    | .str w => match w.cps.toList with
      | [c] => some (decide (c ∈ z.cps.toList))
      | _ => none
    | _ => none
  | .tup ds => if flatD x && ds.all flatD then some (ds.any fun d => eqF d x) else none
  | y => match lsD y S with
    | some ds => match toP S 60 x, mapO (toP S 60) ds with
      | some p, some ps => if SeqAt.shaped p && SeqAt.shaped (.list ps) then some (ps.any fun z => PyData.eqv z p) else none
      | _, _ => none
    | _ => none
def inD (x y : D) (S : Sto) : Res D := match hasD x y S with
  | some b => .ok (.bl b) S
  | none => .stuck
def notInD (x y : D) (S : Sto) : Res D := match hasD x y S with
  | some b => .ok (.bl (!b)) S
  | none => .stuck
theorem flat_rv {K : PySem.W.Frag} {m : List Addr} {H : Hp} {d : D} {v : V} (r : RV K m H d v) (f : flatD d = true) : flatV v = true ∧ (∀ e w, RV K m H e w → flatD e = true → eqV w v = eqF e d) := by
  cases d with
  | non => cases r; refine ⟨rfl, fun e w rw' fe => ?_⟩; cases e <;> first | (cases rw'; rfl) | cases fe
  | bl b => cases r; refine ⟨rfl, fun e w rw' fe => ?_⟩; cases e <;> first | (cases rw'; rfl) | cases fe
  | int b => cases r; refine ⟨rfl, fun e w rw' fe => ?_⟩; cases e <;> first | (cases rw'; rfl) | cases fe
  | str b => cases r; refine ⟨rfl, fun e w rw' fe => ?_⟩; cases e <;> first | (cases rw'; rfl) | cases fe
  | _ => cases f
theorem flat_all {K : PySem.W.Frag} {m : List Addr} {H : Hp} {x : D} {vx : V} (rx : RV K m H x vx) (fx : flatD x = true) : ∀ {ds : List D} {vs : List V}, RVs K m H ds vs → ds.all flatD = true → vs.all flatV = true ∧ (vs.any fun y => eqV y vx) = ds.any fun d => eqF d x
  | [], _, r, _ => by cases r; exact ⟨rfl, rfl⟩
  | d :: ds, _, ⟨v, vs', e, r, t⟩, f => by
    subst e
    rw [List.all_cons, Bool.and_eq_true] at f
    obtain ⟨h1, h2⟩ := flat_all rx fx t f.2
    rw [List.all_cons, List.any_cons, List.any_cons, h1, h2, (flat_rv r f.1).1, (flat_rv rx fx).2 d v r f.1]
    exact ⟨rfl, rfl⟩
theorem str_one {w : Str} {c : Nat} (h : w.cps.toList = [c]) : w = ⟨#[c]⟩ := by
  cases w with
  | mk a =>
    congr 1
    exact Array.toList_inj.mp (by simpa using h)
theorem hasD_cases {m : List Addr} {S : Sto} {H : Hp} {x y : D} {vx vy : V} {b : Bool} {K : PySem.W.Frag} (rs : RS cl K m S H) (rx : RV K m H x vx) (ry : RV K m H y vy) (h : hasD x y S = some b) :
    (∃ c z, vx = .str ⟨#[c]⟩ ∧ vy = .str z ∧ b = decide (c ∈ z.cps.toList)) ∨ (∃ p xs, vy = .ref p ∧ (SqL K H p xs ∨ SqT K H p xs) ∧ flatV vx = true ∧ xs.all flatV = true ∧ b = inV vx xs) ∨
    ∃ d ds, Dp K H vx d ∧ Dp K H vy (.list ds) ∧ SeqAt.shaped d = true ∧ SeqAt.shaped (.list ds) = true ∧ b = ds.any fun z => PyData.eqv z d := by
  unfold hasD at h
  split at h
  · cases ry
    split at h
    · cases rx
      split at h
      · rename_i c e
        cases h
        rw [str_one e]
        exact .inl ⟨c, _, rfl, rfl, rfl⟩
      · cases h
    · cases h
  · rename_i ds
    split at h
    · rename_i hf
      cases h
      rw [Bool.and_eq_true] at hf
      obtain ⟨a, vs, rfl, s1, r1⟩ := ry
      obtain ⟨f1, f2⟩ := flat_all rx hf.1 r1 hf.2
      exact .inr (.inl ⟨a, vs, rfl, .inr s1, (flat_rv rx hf.1).1, f1, f2.symm⟩)
    · cases h
  · split at h
    · rename_i ds e1
      obtain ⟨a, vs, rfl, hv, r1⟩ := ls_rv rs ry e1
      split at h
      · rename_i p ps e2 e3
        split at h
        · rename_i hs
          rw [Bool.and_eq_true] at hs
          cases h
          exact .inr (.inr ⟨p, ps, toP_dp rs _ _ _ _ e2 rx, .lst hv (dpAll (toP_dp rs 60) ds ps vs e3 r1), hs.1, hs.2, rfl⟩)
        · cases h
      · cases h
    · cases h
theorem op_inDD (hu : X.A.units + 65 < cLine) : OpD cl X (compareOp .In) inD := by
  refine ⟨_, (op_in_sign.or op_in_seq).or (op_inD hu), fun E m S H x y vx vy Q rs rx ry h => ?_⟩
  unfold inD at h
  split at h
  · rename_i b e
    rcases hasD_cases rs rx ry e with ⟨c, z, rfl, rfl, rfl⟩ | ⟨p, xs, rfl, hs, f1, f2, rfl⟩ | ⟨d, ds, d1, d2, s1, s2, rfl⟩
    · exact .inl (.inl ⟨c, z, rfl, rfl, h.here rs rfl⟩)
    · exact .inl (.inr ⟨p, xs, rfl, hs, f1, f2, h.here rs rfl⟩)
    · exact .inr ⟨d, ds, d1, d2, s1, s2, h.here rs rfl⟩
  · exact h.elim
theorem op_notInDD (hu : X.A.units + 65 < cLine) : OpD cl X (compareOp .NotIn) notInD := by
  refine ⟨_, (op_notIn_sign.or op_notIn_seq).or (op_notInD hu), fun E m S H x y vx vy Q rs rx ry h => ?_⟩
  unfold notInD at h
  split at h
  · rename_i b e
    rcases hasD_cases rs rx ry e with ⟨c, z, rfl, rfl, rfl⟩ | ⟨p, xs, rfl, hs, f1, f2, rfl⟩ | ⟨d, ds, d1, d2, s1, s2, rfl⟩
    · exact .inl (.inl ⟨c, z, rfl, rfl, h.here rs rfl⟩)
    · exact .inl (.inr ⟨p, xs, rfl, hs, f1, f2, h.here rs rfl⟩)
    · exact .inr ⟨d, ds, d1, d2, s1, s2, h.here rs rfl⟩
  · exact h.elim
end
end DL

namespace DL
open PySem PySem.Spec PyProof.Rows L2
structure Cok (X : Cx) (E : XK) (k : Nat) : Prop where
  calm : X.calm = true
  px : Passes (L2.CX X.prog X.w) X E
  tk : Takes X (fun cls d _ H => E cls d H)
  po : PassesOwn (model X.prog X.w) X.A X.env X.xe
  hr : Room k X.A
  nd : X.N.Nodup
theorem Cok.hu {X : Cx} {E : XK} {k : Nat} (c : Cok X E k) : X.A.units + 64 < cLine := c.hr.units
theorem Cok.hu5 {X : Cx} {E : XK} {k : Nat} (c : Cok X E k) : X.A.units + 65 < cLine := by have := c.hr.un; omega
theorem Cok.hu1 {X : Cx} {E : XK} {k : Nat} (c : Cok X E k) : X.A.units + 1 < cLine := by have := c.hr.un; omega
theorem Cok.blk {X : Cx} {E : XK} {k : Nat} (c : Cok X E k) (s : Shared) (H : Hp) (scope : Scope) (cenv : Env) (fp : List Addr) : Cok (X.blk s H scope cenv fp) E0 k :=
  ⟨c.calm, passL, takes0, PassesOwn.never, c.hr, c.nd⟩
section
variable {cl : Cl} {X : Cx} {E : XK} {a b : Expr} {fa fb : Sl → Sto → Res D} {pos : Pos}
theorem de_glob {x : Str} {d : D} {v : V} {u : Value} (hg : Gl X x) (hm : X.mg x = some u) (r : RelV v u) (rv : ∀ m H, RV X.K m H d v) (hd : (x == ("__debug__" : Str)) = false := by decide) : DE cl X E (.Name x pos) (dC d) :=
  ⟨_, pe_glob hg hm r hd, fun m S H sd σ Q rs rl h => h.here rs (rv m H)⟩
def getF (cs : List Nat) (f : Str) (d : D) (S : Sto) : Res D := match d with
  | .ref l => match S[l]? with
    | some (.ins c fs) => if c ∈ cs then (match fs.lookup f with
      | some v => .ok v S
      | none => .stuck) else .stuck
    | _ => .stuck
  | _ => .stuck
def dFld (cs : List Nat) (f : Str) (fo : Sl → Sto → Res D) : Sl → Sto → Res D := fun sd S => (fo sd S).bind fun d S1 => getF cs f d S1
theorem RF.look {K : PySem.W.Frag} {m : List Addr} {H : Hp} {f : Str} : ∀ {fs : List (Str × D)} {gs : List (Str × V)} {d : D}, RF K m H fs gs → fs.lookup f = some d → ∃ v, gs.lookup f = some v ∧ RV K m H d v
  | [], _, _, _, e => by cases e
  | (g, d0) :: fs, _, d, ⟨v, gs', e, r, t⟩, h => by
    subst e
    rw [List.lookup_cons] at h ⊢
    dsimp only at h ⊢
    cases q : (f == g) with
    | true => rw [q] at h; cases h; exact ⟨v, rfl, r⟩
    | false => rw [q] at h; exact RF.look t h
theorem RF.nolook {K : PySem.W.Frag} {m : List Addr} {H : Hp} {f : Str} : ∀ {fs : List (Str × D)} {gs : List (Str × V)}, RF K m H fs gs → fs.lookup f = none → gs.lookup f = none
  | [], _, r, _ => by cases r; rfl
  | (g, d0) :: fs, _, ⟨v, gs', e, r, t⟩, h => by
    subst e
    rw [List.lookup_cons] at h ⊢
    dsimp only at h ⊢
    cases q : (f == g) with
    | true => rw [q] at h; cases h
    | false => rw [q] at h; exact RF.nolook t h
theorem RF.length {K : PySem.W.Frag} {m : List Addr} {H : Hp} : ∀ {fs : List (Str × D)} {gs : List (Str × V)}, RF K m H fs gs → fs.length = gs.length
  | [], _, r => by cases r; rfl
  | _ :: _, _, ⟨v, gs', e, r, t⟩ => by subst e; simp [RF.length t]
theorem de_fld {f : Str} {cs : List Nat} (hc : ∀ c ∈ cs, Cls X.K (cl c) ∧ NoAttr X.K (cl c) f) (ha : DE cl X E a fa) (hb : attributeBase a f X.env (eval a X.env) = eval a X.env := by rfl) : DE cl X E (.Attribute a f pos) (dFld cs f fa) := by
  obtain ⟨t, p, ha⟩ := ha
  refine ⟨_, pe_fld p hb, fun m S H sd σ Q rs rl h => ?_⟩
  refine ha m S H sd σ _ rs rl (Post.bind h fun x S1 m1 vx H1 x1 k1 rs1 rx h1 => ?_)
  unfold getF at h1
  split at h1
  · rename_i l
    split at h1
    · rename_i c fs e1
      split at h1
      · rename_i hcs
        split at h1
        · rename_i d ed
          obtain ⟨p', hm', dx, gs, hv, r1⟩ := rs1.adr e1
          obtain ⟨p2, h2, rfl⟩ := rx
          rw [hm'] at h2; cases h2
          obtain ⟨v, ev, rv⟩ := r1.look ed
          exact ⟨p', _, dx, gs, v, rfl, hv, (hc c hcs).1, (hc c hcs).2, ev, h1.here rs1 rv⟩
        · exact h1.elim
      · exact h1.elim
    · exact h1.elim
  · exact h1.elim
def putFD (f : Str) (v : D) : List (Str × D) → List (Str × D)
  | [] => [(f, v)]
  | (g, u) :: r => if g = f then (g, v) :: r else (g, u) :: putFD f v r
theorem putF_eq (f : Str) (v : V) : ∀ fs : List (Str × V), putF f v fs = match fs with
    | [] => [(f, v)]
    | (g, u) :: r => if g = f then (g, v) :: r else (g, u) :: putF f v r
  | [] => rfl
  | (g, u) :: r => rfl
theorem RF.putF {K : PySem.W.Frag} {m : List Addr} {H : Hp} {f : Str} {d : D} {v : V} (rv : RV K m H d v) : ∀ {fs : List (Str × D)} {gs : List (Str × V)}, RF K m H fs gs → RF K m H (putFD f d fs) (L2.putF f v gs)
  | [], _, r => by cases r; exact ⟨v, [], rfl, rv, rfl⟩
  | (g, d0) :: fs, _, ⟨w, gs', e, r, t⟩ => by
    subst e
    rw [putF_eq]
    unfold putFD
    dsimp only
    split
    · exact ⟨v, gs', rfl, rv, t⟩
    · exact ⟨w, _, rfl, r, RF.putF rv t⟩
def setF (cs : List Nat) (f : Str) (o v : D) (S : Sto) : Res Unit := match o with
  | .ref l => match S[l]? with
    | some (.ins c fs) => if c ∈ cs ∧ fs.length < 1000 then .ok () (S.set l (.ins c (putFD f v fs))) else .stuck
    | _ => .stuck
  | _ => .stuck
theorem setF_ok {f : Str} {cs : List Nat} (hc : ∀ c ∈ cs, Cls X.K (cl c) ∧ NoAttr X.K (cl c) f) {m : List Addr} {S : Sto} {H : Hp} {o v : D} {vo vv : V} {Q : Hp → Prop} (rs : RS cl X.K m S H) (ro : RV X.K m H o vo) (rv : RV X.K m H v vv)
    (h : Post cl X.K (fun _ _ (_ _ : Unit) => True) m H E (fun _ H => Q H) (setF cs f o v S)) :
    ∃ a C dx fs, vo = .ref a ∧ H a = some (.ins C dx fs) ∧ Cls X.K C ∧ NoAttr X.K C f ∧ fs.length < 1000 ∧ Q (upd H a (.ins C dx (putF f vv fs))) := by
  unfold setF at h
  split at h
  · rename_i l
    split at h
    · rename_i c fs e1
      split at h
      · rename_i hz
        obtain ⟨p', hm', dx, gs, hv, r1⟩ := rs.adr e1
        obtain ⟨p2, h2, rfl⟩ := ro
        rw [hm'] at h2; cases h2
        have kp := rs.keepPut (u := .ins (cl c) dx (putF f vv gs)) e1 hm'
        exact ⟨p', _, dx, gs, rfl, hv, (hc c hz.1).1, (hc c hz.1).2, by rw [← r1.length]; exact hz.2, h m () _ (Ext.refl _) kp (rs.put e1 hm' ⟨dx, _, upd_same, (r1.mono (Ext.refl _) kp).putF (RV.mono (Ext.refl _) kp v rv)⟩) trivial⟩
      · exact h.elim
    · exact h.elim
  · exact h.elim
def sFldD (cs : List Nat) (f : Str) (fo fv : Sl → Sto → Res D) : Sl → Sto → Res Fl := fun sd S => (fv sd S).bind fun v S1 => (fo sd S1).bind fun o S2 => (setF cs f o v S2).bind fun _ S3 => .ok (.nx sd) S3
theorem ds_fld {f : Str} {cs : List Nat} {o value : Expr} {fo fv} {pos' : Pos} (hc : ∀ c ∈ cs, Cls X.K (cl c) ∧ NoAttr X.K (cl c) f) (ho : DE cl X E o fo) (hv : DE cl X E value fv) (hs : swapsWith value (some (.Attribute o f pos')) pos.line X.env = pure false := by rfl) :
    DS cl X E (.Assign [.Attribute o f pos'] value pos) (sFldD cs f fo fv) := by
  obtain ⟨t, p, ho⟩ := ho
  obtain ⟨u, q, hv⟩ := hv
  refine ⟨_, ps_fld p q hs, fun m S H sd σ D rs rl h => ?_⟩
  refine hv m S H sd σ _ rs rl (Post.bind h fun v S1 m1 vv H1 x1 k1 rs1 rv h1 => ?_)
  refine ho m1 S1 H1 sd σ _ rs1 (rl.mono x1 k1) (Post.bind h1 fun o S2 m2 vo H2 x2 k2 rs2 ro h2 => ?_)
  refine setF_ok hc rs2 ro (RV.mono x2 k2 v rv) (Post.bind h2 fun _ S3 m3 _ H3 x3 k3 rs3 _ h3 => ?_)
  exact h3.toNx rs3 (rl.mono ((x1.trans x2).trans x3) ((k1.trans k2).trans k3))
def gFldD (cs : List Nat) (f : Str) (fo : Sl → Sto → Res D) : D → Sl → Sto → Res Sl := fun v sd S => (fo sd S).bind fun o S2 => (setF cs f o v S2).bind fun _ S3 => .ok sd S3
end
def spD (cl : Cl) (K : PySem.W.Frag) (n : Nat) (F : List D → Sto → Res D) : Sp := fun vs H Q E => ∃ m S ds, ds.length = n ∧ RS cl K m S H ∧ RVs K m H ds vs ∧ Post cl K (RV K) m H E Q (F ds S)
structure FnD (P : Program) (w : World) (cl : Cl) (K : PySem.W.Frag) (mg : Str → Option Value) (base : Heap) (k : Nat) (f : Addr) (n : Nat) (F : List D → Sto → Res D) : Prop where
  kp : PySem.W.keepIn K (.ref f) = true
  ex : ∃ fd ps, ps.length = n ∧ Binds K fd ps [] ∧ FnOk P w K mg base (L2.CX P w) k f fd ps (spD cl K n F)
def startD (n : Nat) (ds : List D) : Sl := ds.map some ++ List.replicate (n - ds.length) none
def fnRes : Res Fl → Res D
  | .ok (.nx _) S => .ok .non S
  | .ok (.ret d) S => .ok d S
  | .exc x S => .exc x S
  | _ => .stuck
def dFn (n : Nat) (Fb : Sl → Sto → Res Fl) : List D → Sto → Res D := fun ds S => fnRes (Fb (startD n ds) S)
theorem start_rl {K : PySem.W.Frag} {m : List Addr} {H : Hp} {ds : List D} {vs : List V} {N : List Str} (r : RVs K m H ds vs) : RSl K m H (startD N.length ds) (L2.start N vs) := by
  have hl := r.length
  refine ⟨by simp [startD, L2.start, hl], fun i d e => ?_⟩
  unfold startD at e
  unfold L2.start
  by_cases hi : i < ds.length
  · rw [List.getElem?_append_left (by simpa using hi), List.getElem?_map] at e
    obtain ⟨d', e1, e2⟩ := Option.map_eq_some_iff.mp e
    cases e2
    obtain ⟨v, ev, rv⟩ := r.get e1
    exact ⟨v, by rw [List.getElem?_append_left (by simp; omega), List.getElem?_map, ev]; rfl, rv⟩
  · rw [List.getElem?_append_right (by simpa using hi)] at e
    rw [List.getElem?_replicate] at e
    split at e <;> cases e
section
variable {P : Program} {w : World} {cl : Cl} {K : PySem.W.Frag} {mg : Str → Option Value} {base : Heap} {f : Addr} {fd : FuncData}
theorem cok_of {k : Nat} {N : List Str} {ps : List Str} {qual : Str} {scope : Scope} {cdv : Value} {A : Around} {outer : List Env} {s : Shared} {H : Hp} {E : XK} (S : FnScope N ps scope)
    (hr : Room k (A.deeper (envOfC qual scope s.heap.objs.size f cdv))) : Cok (cxOf (L2.CX P w) P w K mg base N qual scope f cdv A outer s H E) E k := by
  have tk : Takes (cxOf (L2.CX P w) P w K mg base N qual scope f cdv A outer s H E) (fun cls d _ H => E cls d H) := takes_of rfl rfl rfl rfl
  exact ⟨rfl, passes_call tk fun _ _ _ _ h => h, tk, passes_of rfl, hr, S.nd⟩
theorem fnD_of {k : Nat} {x qual : Str} {params : Arguments} {body : List Stmt} {scope : Scope} {N ps : List Str} {Fb : Sl → Sto → Res Fl} (Fu : FunD K x qual params body scope [] [] f fd) (S : FnScope N ps scope)
    (hb : ∀ (kV doc pm : Value) (an : Option Addr) (cdv ct : Value) (us : List Value), us.length = ps.length → bindArgs (PySem.W.fnOf x qual params body scope .none kV doc pm an cdv ct) ⟨us, []⟩ = pure (ps.zip us))
    (hbody : ∀ (cdv : Value) (A : Around) (outer : List Env) (s : Shared) (H : Hp) (E : XK), Cok (cxOf (L2.CX P w) P w K mg base N qual scope f cdv A outer s H E) E k → DSs cl (cxOf (L2.CX P w) P w K mg base N qual scope f cdv A outer s H E) E body Fb) :
    FnD P w cl K mg base (k + 1) f ps.length (dFn N.length Fb) := by
  refine ⟨Fu.kp, fd, ps, rfl, Fu.bindsN hb, ?_⟩
  refine Fu.ok S (fun vs H Q E h => ?_) (fun cdv A outer s H vs Q E hr h => ?_)
  · obtain ⟨m, St, ds, hl, rs, rv, _⟩ := h
    rw [← rv.length, hl]
  · obtain ⟨m, St, ds, hl, rs, rv, h⟩ := h
    obtain ⟨t, p, hh⟩ := hbody cdv A outer s H E (cok_of S hr)
    refine ⟨t, p, hh m St H (startD N.length ds) (L2.start N vs) _ rs (start_rl rv) ?_⟩
    unfold dFn at h
    cases hres : Fb (startD N.length ds) St with
    | ok fl S1 =>
      rw [hres] at h
      intro m1 v H1 x1 k1 rs1 rv1
      cases fl with
      | nx sd =>
        cases v with
        | nx σ1 => exact h m1 .non H1 x1 k1 rs1 rfl
        | _ => exact rv1.elim
      | ret d =>
        cases v with
        | ret u => exact h m1 u H1 x1 k1 rs1 rv1
        | _ => exact rv1.elim
      | brk sd => exact h.elim
      | cnt sd => exact h.elim
    | exc x S1 =>
      rw [hres] at h
      exact h
    | stuck =>
      rw [hres] at h
      exact h.elim
theorem FnD.mono {j k n : Nat} {F} (h : FnD P w cl K mg base j f n F) (hk : j ≤ k) : FnD P w cl K mg base k f n F := by
  obtain ⟨kp, fd, ps, hl, hb, F⟩ := h
  exact ⟨kp, fd, ps, hl, hb, F.mono hk⟩
end
section
variable {cl : Cl} {X : Cx} {E : XK} {k n : Nat} {f C : Addr} {x m : Str} {p pos apos : Pos} {e o : Expr} {es : List Expr} {fa fo : Sl → Sto → Res D} {fs : Sl → Sto → Res (List D)} {F : List D → Sto → Res D}
def dCallF (n : Nat) (F : List D → Sto → Res D) (fs : Sl → Sto → Res (List D)) : Sl → Sto → Res D := fun sd S => (fs sd S).bind fun ds S1 => if ds.length = n then F ds S1 else .stuck
theorem de_call (hF : FnD X.prog X.w cl X.K X.mg X.base k f n F) (hr : Room k X.A) (hx : Passes (L2.CX X.prog X.w) X E) (hg : Gl X x) (hm : X.mg x = some (.ref f)) (ha : DA cl X E (e :: es) fs) (hdb : (x == ("__debug__" : Str)) = false := by decide)
    (he : starEach (e :: es) X.env = (false, eval e X.env) :: starEach es X.env := by rfl) (hpl : (backTo pos (starEach es X.env)).any (·.1) = false := by rfl) : DE cl X E (.Call (.Name x p) (e :: es) [] pos) (dCallF n F fs) := by
  obtain ⟨kp, fd, ps, hl, hb, hF⟩ := hF
  obtain ⟨t, q, ha⟩ := ha
  refine ⟨_, pe_call hF hr hg hm kp hb .nil hx q hdb he hpl, fun m S H sd σ Q rs rl h => ?_⟩
  refine ha m S H sd σ _ rs rl (Post.bind h fun ds S1 m1 vs H1 x1 k1 rs1 rv h1 => ?_)
  split at h1
  · rename_i hz
    rw [List.append_nil]
    exact ⟨m1, S1, ds, hz, rs1, rv, h1⟩
  · exact h1.elim
def dMeth (c : Nat) (m : Str) (n : Nat) (F : List D → Sto → Res D) (fo : Sl → Sto → Res D) (fs : Sl → Sto → Res (List D)) : Sl → Sto → Res D := fun sd S => (fo sd S).bind fun d S1 => match d with
  | .ref l => match S1[l]? with
    | some (.ins c' gs) => if c' = c ∧ gs.lookup m = none then (fs sd S1).bind fun ds S2 => if ds.length + 1 = n then F (d :: ds) S2 else .stuck else .stuck
    | _ => .stuck
  | _ => .stuck
theorem de_meth {c : Nat} {pl : Sem Bool} (ho : DE cl X E o fo) (hc : Cls X.K (cl c)) (hm : Meth X.K (cl c) m f) (hF : FnD X.prog X.w cl X.K X.mg X.base k f n F) (hr : Room k X.A) (hx : Passes (L2.CX X.prog X.w) X E) (ha : DA cl X E (e :: es) fs)
    (hst : starEach (e :: es) X.env = (false, eval e X.env) :: starEach es X.env := by rfl) (hpl : (backTo pos (starEach es X.env)).any (·.1) = false := by rfl)
    (ht : eval (.Call (.Attribute o m apos) (e :: es) [] pos) X.env = (do
      let ov ← eval o X.env
      standAt apos.atName
      let (f, first) ← holding [ov] (getMethod ov m pl)
      callWith pos f first (backTo pos (starEach (e :: es) X.env)) (backToKw pos (keywordEach [] X.env))) := by rfl) : DE cl X E (.Call (.Attribute o m apos) (e :: es) [] pos) (dMeth c m n F fo fs) := by
  obtain ⟨kp, fd, ps, hl, hb, hF⟩ := hF
  obtain ⟨t, q, ha⟩ := ha
  obtain ⟨to, po, ho⟩ := ho
  refine ⟨_, pe_meth po hc hm hF hr hb .nil hx q hst hpl ht, fun m0 S H sd σ Q rs rl h => ?_⟩
  refine ho m0 S H sd σ _ rs rl (Post.bind h fun d S1 m1 vd H1 x1 k1 rs1 rd h1 => ?_)
  cases d with
  | ref l =>
    dsimp only at h1
    split at h1
    · rename_i c' gs e1
      split at h1
      · rename_i hz
        obtain ⟨rfl, hno⟩ := hz
        obtain ⟨p', hm', dx, gv, hv, r1⟩ := rs1.adr e1
        obtain ⟨p2, h2, rfl⟩ := id rd
        rw [hm'] at h2; cases h2
        refine ⟨p', dx, gv, rfl, hv, r1.nolook hno, ?_⟩
        refine ha m1 S1 H1 sd σ _ rs1 (rl.mono x1 k1) (Post.bind h1 fun ds S2 m2 vs H2 x2 k2 rs2 rv h3 => ?_)
        split at h3
        · rename_i hn
          have hn' : (DL.D.ref l :: ds).length = n := hn
          have e0 : (V.ref p' :: vs) ++ [] = V.ref p' :: vs := List.append_nil _
          show spD cl X.K n F ((V.ref p' :: vs) ++ []) H2 Q E
          rw [e0]
          exact ⟨m2, S2, .ref l :: ds, hn', rs2, ⟨_, _, rfl, RV.mono x2 k2 (.ref l) rd, rv⟩, h3⟩
        · exact h3.elim
      · exact h1.elim
    · exact h1.elim
  | _ => exact h1.elim
def dMake (c : Nat) (n : Nat) (F : List D → Sto → Res D) (fs : Sl → Sto → Res (List D)) : Sl → Sto → Res D := fun sd S => (fs sd S).bind fun ds S1 => if ds.length + 1 = n then (F (.ref S1.length :: ds) (S1 ++ [.ins c []])).bind fun r S2 => match r with
    | .non => .ok (.ref S1.length) S2
    | _ => .stuck
  else .stuck
theorem make_core {c : Nat} {m0 : List Addr} {S : Sto} {H : Hp} {ds : List D} {vs : List V} {Q : VK} (rs : RS cl X.K m0 S H) (rv : RVs X.K m0 H ds vs) (hn : ds.length + 1 = n)
    (h : Post cl X.K (RV X.K) m0 H E Q ((F (.ref S.length :: ds) (S ++ [.ins c []])).bind fun r S2 => match r with | .non => .ok (.ref S.length) S2 | _ => .stuck)) :
    ∀ x dx, H x = none → H dx = none → dx ≠ x → spD cl X.K n F (.ref x :: (vs ++ [])) (upd (upd H dx (.own x)) x (.ins (cl c) dx [])) (fun v H2 => v = .non ∧ Q (.ref x) H2) E := by
  intro x dx hx hd hne
  have hx2 : (upd H dx (.own x)) x = none := by rw [upd_ne (Ne.symm hne)]; exact hx
  have k2 : Keep H (upd (upd H dx (.own x)) x (.ins (cl c) dx [])) := (Keep.new hd).trans (Keep.new hx2)
  have rs2 := (rs.ext (u := .own x) hd).new (u := .ins (cl c) dx []) (o := .ins c []) hx2 ⟨dx, [], upd_same, rfl⟩
  have x2 := Ext.snoc m0 x
  have em : (m0 ++ [x])[S.length]? = some x := by rw [← rs.len]; simp
  rw [List.append_nil]
  refine ⟨m0 ++ [x], S ++ [.ins c []], .ref S.length :: ds, by simpa using hn, rs2, ⟨_, _, rfl, ⟨x, em, rfl⟩, rv.mono x2 k2⟩, Post.bind (Post.mono x2 k2 h) fun r S3 m3 v H3 x3 k3 rs3 rv3 h3 => ?_⟩
  cases r with
  | non => exact ⟨rv3, h3.here rs3 ⟨x, x3 _ _ em, rfl⟩⟩
  | _ => exact h3.elim
theorem de_make {c : Nat} (M : Mk X.K (cl c) f) (hF : FnD X.prog X.w cl X.K X.mg X.base k f n F) (hr : Room (k + 1) X.A) (hx : Passes (L2.CX X.prog X.w) X E) (hg : Gl X x) (hm : X.mg x = some (.ref (cl c))) (ha : DA cl X E (e :: es) fs) (hdb : (x == ("__debug__" : Str)) = false := by decide)
    (he : starEach (e :: es) X.env = (false, eval e X.env) :: starEach es X.env := by rfl) (hpl : (backTo pos (starEach es X.env)).any (·.1) = false := by rfl) : DE cl X E (.Call (.Name x p) (e :: es) [] pos) (dMake c n F fs) := by
  obtain ⟨kp, fd, ps, hl, hb, hF⟩ := hF
  obtain ⟨t, q, ha⟩ := ha
  refine ⟨_, pe_make M hF hr hg hm hb .nil hx q hdb he hpl, fun m S H sd σ Q rs rl h => ?_⟩
  refine ha m S H sd σ _ rs rl (Post.bind h fun ds S1 m1 vs H1 x1 k1 rs1 rv h1 => ?_)
  split at h1
  · rename_i hz
    exact make_core rs1 rv hz h1
  · exact h1.elim
end
end DL

namespace DL
open PySem PySem.Spec PyProof.Rows L2
section
variable {X : Cx} {o e : Expr} {es : List Expr} {to te : TE} {ta : TA} {f : Str} {p p' p1 p2 pos : Pos}
theorem pe_beinit {B : Str} {C0 : Addr} {pl : Sem Bool} (hg : Gl X B) (hm : X.mg B = some (.ref C0)) (hs1 : PySem.W.specialIn X.K (.ref C0) "__getattribute__" = some (some (.builtin "type.__getattribute__"))) (hrd : PySem.W.readsIn X.K C0 (.type "type") = true)
    (vV : PySem.W.findCls X.K (.ref C0) (.type "type") "__init__" = some (.val (.builtin "ValueError.__init__"))) (ha : PA X (e :: es) ta) (hdb : (B == ("__debug__" : Str)) = false := by decide)
    (hc : eval (.Call (.Attribute (.Name B p1) "__init__" p2) (e :: es) [] pos) X.env = (do
      let ov ← eval (.Name B p1) X.env
      standAt p2.atName
      let (f, first) ← holding [ov] (getMethod ov "__init__" pl)
      callWith pos f first (backTo pos (starEach (e :: es) X.env)) (backToKw pos (keywordEach [] X.env))) := by rfl)
    (he : starEach (e :: es) X.env = (false, eval e X.env) :: starEach es X.env := by rfl) (hpl : (backTo pos (starEach es X.env)).any (·.1) = false := by rfl) :
    PE X (.Call (.Attribute (.Name B p1) "__init__" p2) (e :: es) [] pos) (tVeI X.K ta) := by
  refine ⟨fun pins s σ H Q I h => ?_⟩
  refine PySem.W.methodCall_KW (ld_glob I hg hm ?_ hdb) hc
  refine PySem.W.method_cls I.kIn hs1 (PySem.W.cls_value I.kIn hrd vV (by decide +kernel) ?_)
  show wpAny _ _ (callWith pos (Value.builtin "ValueError.__init__") [] (backTo pos (starEach (e :: es) X.env)) []) _ _ _
  refine PyProof.Rows.callWith_method1 (thn (ha.run pos pins _ σ H _ (I.tok _) h) fun us s1 ⟨vs, H1, I1, r1, a, C, ws, ev, hl, T, ea, q⟩ => ?_) he hpl
  subst ev
  cases r1 with
  | @cons _ u0 _ ur ra rw' =>
    obtain rfl : u0 = Value.ref a := ra
    have hlen : ur.length ≤ sizeLine := by
      rw [← Paired.length rw', sizeLine_eq]
      omega
    exact oinit_ok T I1 ea hlen fun s' J => ⟨.non, H1, J, rfl, q⟩
end
def spEx1 (K : PySem.W.Frag) (C : Addr) (f : Str) : Sp := fun vs H Q _ => ∃ a y, vs = [.ref a, y] ∧ OexC K C ∧ PySem.W.findIn K (.ref C) f = some none ∧ H a = some (exo a C none) ∧
  ∀ dx, H dx = none → dx ≠ a → Q .non (upd (upd H dx (exd dx [(f, y)])) a (exo a C (some dx)))
def spEx2 (K : PySem.W.Frag) (C : Addr) (f g : Str) : Sp := fun vs H Q _ => ∃ a y z, vs = [.ref a, y, z] ∧ OexC K C ∧ PySem.W.findIn K (.ref C) f = some none ∧ PySem.W.findIn K (.ref C) g = some none ∧ H a = some (exo a C none) ∧
  ∀ dx, H dx = none → dx ≠ a → Q .non (upd (upd (upd H dx (exd dx [(f, y)])) a (exo a C (some dx))) dx (exd dx [(g, z), (f, y)]))
structure ExB (K : PySem.W.Frag) (C0 : Addr) : Prop where
  hs1 : PySem.W.specialIn K (.ref C0) "__getattribute__" = some (some (.builtin "type.__getattribute__"))
  hrd : PySem.W.readsIn K C0 (.type "type") = true
  vV : PySem.W.findCls K (.ref C0) (.type "type") "__init__" = some (.val (.builtin "ValueError.__init__"))
structure ExC (P : Program) (w : World) (cl : Cl) (K : PySem.W.Frag) (mg : Str → Option Value) (base : Heap) (c n : Nat) (fs : List Str) : Prop where
  oex : OexC K (cl c)
  nof : ∀ f ∈ fs, PySem.W.findIn K (.ref (cl c)) f = some none
  ex : ∃ fI fd ps sp, PySem.W.findIn K (.ref (cl c)) "__init__" = some (some (.ref fI)) ∧ PySem.W.typeIn K (.ref fI) = some (.type "function") ∧ Binds K fd ps [] ∧ FnOk P w K mg base (L2.CX P w) n fI fd ps sp ∧
    (match fs with
      | [f] => sp = spEx1 K (cl c) f
      | [f, g] => sp = spEx2 K (cl c) f g
      | _ => False)
def sRaise (c : Nat) (fs : List Str) (fa : Sl → Sto → Res (List D)) : Sl → Sto → Res Fl := fun sd S => (fa sd S).bind fun ds S1 => match fs, ds with
  | [f], [d] => .exc ⟨c, some [(f, d)]⟩ S1
  | [f, g], [d, e] => .exc ⟨c, some [(g, e), (f, d)]⟩ S1
  | _, _ => .stuck
def sRaiseT (c : Nat) : Sl → Sto → Res Fl := fun _ S => .exc ⟨c, none⟩ S
section
variable {cl : Cl} {X : Cx} {E : XK} {k : Nat} {x : Str} {e : Expr} {es : List Expr} {fa : Sl → Sto → Res (List D)} {p pos pos' : Pos}
theorem heap_eq {H G : Hp} {a dx : Addr} {u : HO} (ha : H a = none) (hg : ∀ b, b ≠ a → b ≠ dx → G b = H b) : upd (del G a) dx u = upd H dx u := by
  funext b
  by_cases h1 : b = dx
  · subst h1; rw [upd_same, upd_same]
  · rw [upd_ne h1, upd_ne h1]
    by_cases h2 : b = a
    · subst h2; rw [del_same, ha]
    · rw [del_ne h2, hg b h2 h1]
theorem ds_raise {c : Nat} {fs : List Str} (hE : ExC X.prog X.w cl X.K X.mg X.base c k fs) (co : Cok X E (k + 1)) (hg : Gl X x) (hm : X.mg x = some (.ref (cl c))) (ha : DA cl X E (e :: es) fa)
    (hdb : (x == ("__debug__" : Str)) = false := by decide) (he : starEach (e :: es) X.env = (false, eval e X.env) :: starEach es X.env := by rfl) (hpl : (backTo pos (starEach es X.env)).any (·.1) = false := by rfl) :
    DS cl X E (.Raise (some (.Call (.Name x p) (e :: es) [] pos)) none pos') (sRaise c fs fa) := by
  obtain ⟨oex, nof, fI, fd, ps, sp, iC, tI, hb, hF, hsp⟩ := hE
  obtain ⟨t, q, ha⟩ := ha
  have hx : Passes (L2.CX X.prog X.w) X (fun _ _ _ => False) := passL
  refine ⟨_, ps_raise co.calm co.tk (pmk_oex oex iC tI hF co.hr hb .nil hx hg hm q hdb he hpl), fun m S H sd σ D rs rl h => ?_⟩
  refine ha m S H sd σ _ rs rl (Post.bind h fun ds S1 m1 vs H1 x1 k1 rs1 rv h1 => ?_)
  split at h1
  · rename_i f d
    obtain ⟨v, rfl, r1⟩ := rvs1 rv
    have hsp' : sp = spEx1 X.K (cl c) f := hsp
    subst hsp'
    refine ⟨by show 1 ≤ 1000; decide, fun a na => ⟨a, v, rfl, oex, nof f (by simp), upd_same, fun dx hdx hne => ?_⟩⟩
    have hdx1 : H1 dx = none := by rw [upd_ne hne] at hdx; exact hdx
    refine ⟨rfl, dx, [(f, v)], upd_same, ?_, hdx1, ?_⟩
    · rw [upd_ne hne, upd_same]
    · rw [heap_eq na fun b b1 b2 => by rw [upd_ne b1, upd_ne b2, upd_ne b1]]
      exact h1 m1 (some dx) _ (Ext.refl _) (Keep.new hdx1) (rs1.ext hdx1) ⟨dx, _, rfl, upd_same, v, [], rfl, RV.mono (Ext.refl _) (Keep.new hdx1) d r1, rfl⟩
  · rename_i f g d d'
    obtain ⟨v, v', rfl, r1, r2⟩ := rvs2 rv
    have hsp' : sp = spEx2 X.K (cl c) f g := hsp
    subst hsp'
    refine ⟨by show 2 ≤ 1000; decide, fun a na => ⟨a, v, v', rfl, oex, nof f (by simp), nof g (by simp), upd_same, fun dx hdx hne => ?_⟩⟩
    have hdx1 : H1 dx = none := by rw [upd_ne hne] at hdx; exact hdx
    refine ⟨rfl, dx, [(g, v'), (f, v)], ?_, upd_same, hdx1, ?_⟩
    · rw [upd_ne (Ne.symm hne), upd_same]
    · rw [heap_eq na fun b b1 b2 => by rw [upd_ne b2, upd_ne b1, upd_ne b2, upd_ne b1]]
      exact h1 m1 (some dx) _ (Ext.refl _) (Keep.new hdx1) (rs1.ext hdx1) ⟨dx, _, rfl, upd_same, v', _, rfl, RV.mono (Ext.refl _) (Keep.new hdx1) d' r2, v, [], rfl, RV.mono (Ext.refl _) (Keep.new hdx1) d r1, rfl⟩
  · exact h1.elim
structure ExT (K : PySem.W.Frag) (C : Addr) : Prop where
  xP : PySem.W.excIn K C [.type "ValueError", .type "Exception", .type "BaseException", .type "object"] "ValueError.__new__" = true
  kP : PySem.W.keepIn K (.ref C) = true
  bP : PySem.W.subIn K (.ref C) (.type "BaseException") = some true
  tP : PySem.W.typeIn K (.ref C) = some (.type "type")
theorem ds_raiseT {c : Nat} {msg : Str} {j : Nat} {p2 : Pos} (T : ExT X.K (cl c)) (co : Cok X E k) (hg : Gl X x) (hm : X.mg x = some (.ref (cl c))) (hdb : (x == ("__debug__" : Str)) = false := by decide) :
    DS cl X E (.Raise (some (.Call (.Name x p) [.Constant (.str msg) j p2] [] pos)) none pos') (sRaiseT c) := by
  refine ⟨_, ps_raise co.calm co.tk (pmk_own PySem.F.excBase_ValueError T.xP hm T.kP (raises_own T.bP T.tP) hg hdb), fun m S H sd σ D rs rl h => ?_⟩
  exact h m none H (Ext.refl _) (Keep.refl _) rs rfl
end
end DL

namespace DL
open PySem PySem.Spec PyProof.Rows L2
def frE (n : Nat) (g : Addr → Option Obj) : PySem.W.Frag := He.frG g (cStatics :: He.asD g n)
def hookE (n : Nat) (fa : List He.Fa) (fn : List He.DefD) (ex : PySem.W.Frag → Bool) : PySem.W.Hook where
  α := He.AlD × Bool
  obs := fun s => (He.obsD fa fn (frE n s.heap.get?), ex (frE n s.heap.get?))
  val := fun _ => (He.valD fn, true)
  says := fun _ h => ∃ K : PySem.W.Frag, K.In h ∧ He.SaysD fa fn K ∧ ex K = true
  of := fun _ s e => ⟨frE n s.heap.get?, He.frG_in, congrArg (fun z : He.AlD × Bool => z.1) e, congrArg (fun z : He.AlD × Bool => z.2) e⟩
  keeps := fun _ _ _ ⟨K, hK, c⟩ k => ⟨K, PySem.W.Frag.In.keeps hK k, c⟩
def obE (n : Nat) (fa : List He.Fa) (fn : List He.DefD) (ex : PySem.W.Frag → Bool) (g : Addr → Option Obj) : He.AlD × Bool := (He.obsD fa fn (frE n g), ex (frE n g))
theorem obE_eq {n : Nat} {fa : List He.Fa} {fn : List He.DefD} {ex : PySem.W.Frag → Bool} {g : Addr → Option Obj} {s : Shared} (h : ∀ a, g a = s.heap.get? a) : obE n fa fn ex g = (hookE n fa fn ex).obs s := by
  have e : g = s.heap.get? := funext h
  subst e
  rfl
def constB (K : PySem.W.Frag) : Nat → D → Value → Bool
  | _, .non, .none => true
  | _, .bl b, .bool c => b == c
  | _, .int i, .int j _ => decide (i = j)
  | _, .str x, .str y _ => decide (x = y)
  | n + 1, .tup ds, .ref a => match K.lookup a with
    | some o => decide (o.cls = .type "tuple") && (match o.data with
      | .seq its _ => decide (its.size ≤ sizeLine) && allB (constB K n) ds its.toList
      | _ => false)
    | none => false
  | _, _, _ => false
where allB (f : D → Value → Bool) : List D → List Value → Bool
  | [], [] => true
  | d :: ds, u :: us => f d u && allB f ds us
  | _, _ => false
theorem const_all {K : PySem.W.Frag} {f : D → Value → Bool} (hf : ∀ d u, f d u = true → ∃ v, RelV v u ∧ ∀ m H, RV K m H d v) : ∀ (ds : List D) (us : List Value), constB.allB f ds us = true → ∃ vs, Vals vs us ∧ ∀ m H, RVs K m H ds vs
  | [], [], _ => ⟨[], .nil, fun _ _ => rfl⟩
  | [], _ :: _, h => by cases h
  | _ :: _, [], h => by cases h
  | d :: ds, u :: us, h => by
    have h' : (f d u && constB.allB f ds us) = true := h
    rw [Bool.and_eq_true] at h'
    obtain ⟨v, r, rv⟩ := hf d u h'.1
    obtain ⟨vs, r2, rv2⟩ := const_all hf ds us h'.2
    exact ⟨v :: vs, .cons r r2, fun m H => ⟨v, vs, rfl, rv m H, rv2 m H⟩⟩
theorem constB_ok {K : PySem.W.Frag} : ∀ (n : Nat) (d : D) (u : Value), constB K n d u = true → ∃ v, RelV v u ∧ ∀ m H, RV K m H d v := by
  have base : ∀ (n : Nat) (d : D) (u : Value), (∀ ds, d ≠ .tup ds) → constB K n d u = true → ∃ v, RelV v u ∧ ∀ m H, RV K m H d v := by
    intro n d u hd h
    cases d with
    | tup ds => exact absurd rfl (hd ds)
    | non =>
      cases u <;> first | exact ⟨.non, rfl, fun _ _ => rfl⟩ | (cases n <;> cases h)
    | bl b =>
      cases u with
      | bool c =>
        have e : b = c := by
          have : (b == c) = true := by cases n <;> exact h
          exact eq_of_beq this
        subst e
        exact ⟨.bl b, rfl, fun _ _ => rfl⟩
      | _ => cases n <;> cases h
    | int b =>
      cases u with
      | int c t =>
        have e : b = c := by
          have : decide (b = c) = true := by cases n <;> exact h
          exact of_decide_eq_true this
        subst e
        exact ⟨.int b, ⟨t, rfl⟩, fun _ _ => rfl⟩
      | _ => cases n <;> cases h
    | str b =>
      cases u with
      | str c t =>
        have e : b = c := by
          have : decide (b = c) = true := by cases n <;> exact h
          exact of_decide_eq_true this
        subst e
        exact ⟨.str b, ⟨t, rfl⟩, fun _ _ => rfl⟩
      | _ => cases n <;> cases h
    | _ => cases u <;> (cases n <;> cases h)
  intro n
  induction n with
  | zero =>
    intro d u h
    cases d with
    | tup ds => cases u <;> cases h
    | _ => exact base 0 _ u (by intro ds e; cases e) h
  | succ n ih =>
    intro d u h
    cases d with
    | tup ds =>
      cases u with
      | ref a =>
        unfold constB at h
        split at h
        · rename_i o hk
          rw [Bool.and_eq_true] at h
          have hc := of_decide_eq_true h.1
          have h2 := h.2
          split at h2
          · rename_i its nn hd
            rw [Bool.and_eq_true] at h2
            obtain ⟨vs, r, rv⟩ := const_all ih ds its.toList h2.2
            exact ⟨.ref a, rfl, fun m H => ⟨a, vs, rfl, .inr ⟨o, its, nn, hk, hc, hd, of_decide_eq_true h2.1, r⟩, rv m H⟩⟩
          · cases h2
        · cases h
      | _ => cases h
    | _ => exact base (n + 1) _ u (by intro ds e; cases e) h
def globB (K : PySem.W.Frag) (x : Str) (d : D) : Bool := match PySem.W.nsIn K mainGlobals x with
  | some (some u) => constB K 9 d u
  | _ => false
structure Con0 (K : PySem.W.Frag) (mg : Str → Option Value) (x : Str) (d : D) : Prop where
  ex : ∃ u v, mg x = some u ∧ RelV v u ∧ ∀ m H, RV K m H d v
theorem globB_ok {K : PySem.W.Frag} {h : Heap} {mg : Str → Option Value} {x : Str} {d : D} (X : K.In h) (G : h.Ns mainGlobals mg) (c : globB K x d = true) : Con0 K mg x d := by
  unfold globB at c
  split at c
  · rename_i u e
    obtain ⟨v, r, rv⟩ := constB_ok 9 d u c
    exact ⟨u, v, PySem.W.mg_of X G e, r, rv⟩
  · cases c
theorem de_con {cl : Cl} {X : Cx} {E : XK} {pos : Pos} {x : Str} {d : D} (c : Con0 X.K X.mg x d) (hg : Gl X x) (hd : (x == ("__debug__" : Str)) = false := by decide) : DE cl X E (.Name x pos) (dC d) := by
  obtain ⟨u, v, hm, r, rv⟩ := c.ex
  exact de_glob hg hm r rv hd
def oexB (K : PySem.W.Frag) (C : Addr) : Bool := (match K.lookup C with
  | some ⟨c, dd, .cls ⟨nm, bs, mro, ns, qn, hd, sn, sub, ab, col, del⟩, sl⟩ => decide (c = .type "type") && ((match mro with
    | .ref C' :: bm => decide (C' = C) && PySem.HandSPX.refsVE bm
    | _ => false) && (hd && (!del && (match sl.toList with
    | [_, _, _, _, some (.builtin n), _] => decide (n = "ValueError.__new__")
    | _ => false))))
  | _ => false) && (He.eqO (PySem.W.findIn K (.ref C) "__setattr__") (some (some (.builtin "object.__setattr__"))) && (decide (PySem.W.subIn K (.ref C) (.type "BaseException") = some true) && (decide (PySem.W.typeIn K (.ref C) = some (.type "type")) && PySem.W.keepIn K (.ref C))))
theorem oexB_ok {K : PySem.W.Frag} {C : Addr} (h : oexB K C = true) : OexC K C := by
  unfold oexB at h
  obtain ⟨h1, h⟩ := He.ba h
  obtain ⟨h2, h⟩ := He.ba h
  obtain ⟨h3, h⟩ := He.ba h
  obtain ⟨h4, h5⟩ := He.ba h
  refine ⟨?_, He.eqO_ok h2, of_decide_eq_true h3, of_decide_eq_true h4, h5⟩
  split at h1
  · rename_i c dd nm bs mro ns qn hd sn sub ab col del sl hk
    obtain ⟨a1, a⟩ := He.ba h1
    obtain ⟨a2, a⟩ := He.ba a
    obtain ⟨a3, a⟩ := He.ba a
    obtain ⟨a4, a5⟩ := He.ba a
    have a1' := of_decide_eq_true a1
    subst a1'
    split at a2
    · rename_i C' bm
      obtain ⟨b1, b2⟩ := He.ba a2
      have b1' := of_decide_eq_true b1
      subst b1'
      split at a5
      · rename_i k0 k1 k2 k3 n k5 hs
        have a5' := of_decide_eq_true a5
        subst a5'
        have hd' : hd = true := a3
        subst hd'
        have del' : del = false := by simpa using a4
        subst del'
        have hsl : sl = #[k0, k1, k2, k3, some (.builtin "ValueError.__new__"), k5] := by
          obtain ⟨l⟩ := sl
          simp only at hs
          rw [hs]
        subst hsl
        exact ⟨nm, qn, ns, bs, bm, sn, sub, ab, col, dd, k0, k1, k2, k3, k5, hk, b2⟩
      · cases a5
    · cases a2
  · cases h1
def exBB (K : PySem.W.Frag) (C0 : Addr) : Bool := He.eqO (PySem.W.specialIn K (.ref C0) "__getattribute__") (some (some (.builtin "type.__getattribute__"))) && (PySem.W.readsIn K C0 (.type "type") && (match PySem.W.findCls K (.ref C0) (.type "type") "__init__" with
  | some (.val (.builtin n)) => decide (n = "ValueError.__init__")
  | _ => false))
theorem exBB_ok {K : PySem.W.Frag} {C0 : Addr} (h : exBB K C0 = true) : ExB K C0 := by
  unfold exBB at h
  obtain ⟨h1, h⟩ := He.ba h
  obtain ⟨h2, h3⟩ := He.ba h
  refine ⟨He.eqO_ok h1, h2, ?_⟩
  split at h3
  · rename_i n e
    have e' := of_decide_eq_true h3
    subst e'
    exact e
  · cases h3
theorem exT_ok {K : PySem.W.Frag} {x : Str} (c : (He.Fa.exc x).ok K = true) : ExT K (He.ga K x) :=
  let ⟨a, b, d, e⟩ := He.exc_ok c
  ⟨a, b, d, e⟩
def initB (K : PySem.W.Frag) (C : Addr) (fs : List Str) : Bool := (fs.all fun f => He.eqO (PySem.W.findIn K (.ref C) f) (some none)) && (He.eqO (PySem.W.findIn K (.ref C) "__init__") (some (some (.ref (He.ma K C "__init__")))) && decide (PySem.W.typeIn K (.ref (He.ma K C "__init__")) = some (.type "function")))
theorem initB_ok {K : PySem.W.Frag} {C : Addr} {fs : List Str} (h : initB K C fs = true) : (∀ f ∈ fs, PySem.W.findIn K (.ref C) f = some none) ∧ PySem.W.findIn K (.ref C) "__init__" = some (some (.ref (He.ma K C "__init__"))) ∧ PySem.W.typeIn K (.ref (He.ma K C "__init__")) = some (.type "function") := by
  unfold initB at h
  obtain ⟨h1, h⟩ := He.ba h
  obtain ⟨h2, h3⟩ := He.ba h
  exact ⟨fun f hf => He.eqO_ok (List.all_eq_true.mp h1 f hf), He.eqO_ok h2, of_decide_eq_true h3⟩
end DL

namespace DL
open PySem PySem.Spec PyProof.Rows L2
section
variable {cl : Cl} {X : Cx} {E : XK} {pos : Pos}
end
section
variable {P : Program} {w : World} {cl : Cl} {K : PySem.W.Frag} {mg : Str → Option Value} {base : Heap} {f : Addr} {fd : FuncData}
theorem fnD_stuck {k : Nat} {x qual : Str} {params : Arguments} {body : List Stmt} {scope : Scope} {ps : List Str} (Fu : FunD K x qual params body scope [] [] f fd)
    (hb : ∀ (kV doc pm : Value) (an : Option Addr) (cdv ct : Value) (us : List Value), us.length = ps.length → bindArgs (PySem.W.fnOf x qual params body scope .none kV doc pm an cdv ct) ⟨us, []⟩ = pure (ps.zip us)) :
    FnD P w cl K mg base k f ps.length (fun _ _ => .stuck) := by
  refine ⟨Fu.kp, fd, ps, rfl, Fu.bindsN hb, fun vs H Q E h => ?_, fun A outer s H args us vs Q E hr e0 hbb hv h => ?_⟩
  · obtain ⟨m, S, ds, hl, rs, rv, z⟩ := h
    exact z.elim
  · obtain ⟨m, S, ds, hl, rs, rv, z⟩ := h
    exact z.elim
end
theorem only_rv {K : PySem.W.Frag} {H : Hp} {a : Addr} {ns : List Int} (hO : Only H) (hS : SqL K H a (ns.map V.int)) : Fz K H a (ns.map V.int) := by
  rcases hS with (h | h) | h
  · rcases hO a with z | ⟨o, xs, z⟩
    · rw [z] at h; cases h
    · rw [z] at h; cases h
  · exact .inl h
  · exact .inr h
theorem ints_rv {K : PySem.W.Frag} {m : List Addr} {H : Hp} : ∀ ns : List Int, RVs K m H (ns.map D.int) (ns.map V.int)
  | [] => rfl
  | n :: ns => ⟨_, _, rfl, rfl, ints_rv ns⟩
theorem walk_D {l : PySem.W.OpenLaw} {k : Nat} {q : Program} {loose : List Str} {XP : (Str → Option Value) → Heap → Prop} {YP : World → Heap → Prop} {d : DefRec} {x : Str} {Fl : List D → Sto → Res D}
    (hn : l.most = some 63) (hdf : d.params.defaults = []) (hr : Room k callerA) (plain : ∀ ns : List Int, ns.length ≤ 63 → ∃ S', Fl [.frl (ns.map .int)] [] = .ok (.bl true) S')
    (F : ∀ (w : World) (mg : Str → Option Value) (fa : Addr) (h : Heap), YP w h → h.Ns mainGlobals mg → mg d.name = some (.ref fa) →
      ∃ (K : PySem.W.Frag) (cl : Cl) (fd : FuncData), cl.T = [] ∧ K.In h ∧ (∀ (s : Shared) (u : Value), BindsTo s fd ⟨[u], []⟩ [(x, u)]) ∧
        ∀ base : Heap, K.In base → base.Ns mainGlobals mg → FnOk l.prog w K mg base (L2.CX l.prog w) k fa fd [x] (spD cl K 1 Fl)) :
    PySem.W.WalkO q loose XP YP l.row.toRowW d [] (fun f vs => PySem.call f vs) := by
  refine Att.attach_call hn hdf fun w s₀ s₁ mg mb fa o pm cd doc a vs ns G Y ho hd hcd hmg hobj hints hlen hg => ?_
  obtain ⟨K, cl, fd, hT, KX, hb, hF⟩ := F w mg fa _ Y G.T.g hmg
  have h63 : ns.length ≤ 63 := hlen
  refine law_call KX G.T.g G.T.b G.T.builtins G.T.nolimit hg hobj hints (Nat.le_trans hlen (by decide)) hr hF hb (fun H hO hS => ?_) fun H e s' z => ?_
  · obtain ⟨S', e⟩ := plain ns h63
    refine ⟨[], [], [.frl (ns.map .int)], rfl, ⟨rfl, fun i j b hi => by simp at hi, fun l o b hl => by simp at hl, by rw [hT]; exact fun p hp => nomatch hp⟩, ⟨_, _, rfl, ⟨a, _, rfl, only_rv hO hS, ints_rv ns⟩, rfl⟩, ?_⟩
    rw [e]
    exact fun m' v H' _ _ _ rv => rv
  · obtain ⟨_, _, _, _, _, _, _, _, _, _, _, _, z⟩ := z
    exact z
theorem fnD_law {P : Program} {w : World} {cl : Cl} {K : PySem.W.Frag} {mg : Str → Option Value} {f : Addr} {fd : FuncData} {k : Nat} {x qual p : Str} {params : Arguments} {body : List Stmt} {scope : Scope} {N : List Str} {Fb : Sl → Sto → Res Fl}
    (Fu : FunD K x qual params body scope [] [] f fd) (S : FnScope N [p] scope)
    (hb : ∀ (kV doc pm : Value) (an : Option Addr) (cdv ct : Value) (us : List Value), us.length = [p].length → bindArgs (PySem.W.fnOf x qual params body scope .none kV doc pm an cdv ct) ⟨us, []⟩ = pure ([p].zip us))
    (hbody : ∀ (base : Heap) (cdv : Value) (A : Around) (outer : List Env) (s : Shared) (H : Hp) (E : XK), Cok (cxOf (L2.CX P w) P w K mg base N qual scope f cdv A outer s H E) E k → DSs cl (cxOf (L2.CX P w) P w K mg base N qual scope f cdv A outer s H E) E body Fb) :
    (∀ (s : Shared) (u : Value), BindsTo s fd ⟨[u], []⟩ [(p, u)]) ∧ ∀ base : Heap, FnOk P w K mg base (L2.CX P w) (k + 1) f fd [p] (spD cl K 1 (dFn N.length Fb)) := by
  refine ⟨fun s u => Fu.bindsA hb s [u] rfl, fun base => ?_⟩
  refine Fu.ok S (fun vs H Q E h => ?_) (fun cdv A outer s H vs Q E hr h => ?_)
  · obtain ⟨m, St, ds, hl, rs, rv, _⟩ := h
    rw [← rv.length, hl]
    rfl
  · obtain ⟨m, St, ds, hl, rs, rv, h⟩ := h
    obtain ⟨t, p, hh⟩ := hbody base cdv A outer s H E (cok_of S hr)
    refine ⟨t, p, hh m St H (startD N.length ds) (L2.start N vs) _ rs (start_rl rv) ?_⟩
    unfold dFn at h
    cases hres : Fb (startD N.length ds) St with
    | ok fl S1 =>
      rw [hres] at h
      intro m1 v H1 x1 k1 rs1 rv1
      cases fl with
      | nx sd =>
        cases v with
        | nx σ1 => exact h m1 .non H1 x1 k1 rs1 rfl
        | _ => exact rv1.elim
      | ret d =>
        cases v with
        | ret u => exact h m1 u H1 x1 k1 rs1 rv1
        | _ => exact rv1.elim
      | brk sd => exact h.elim
      | cnt sd => exact h.elim
    | exc x S1 =>
      rw [hres] at h
      exact h
    | stuck =>
      rw [hres] at h
      exact h.elim
end DL
namespace DL
open PySem PySem.Spec PyProof.Rows L2
theorem Cok.at {X : Cx} {E : XK} {j k : Nat} (c : Cok X E k) (h : j ≤ k) : Cok X E j := ⟨c.calm, c.px, c.tk, c.po, c.hr.mono h, c.nd⟩
end DL

namespace DL
open PySem PySem.Spec PyProof.Rows L2
theorem RF.split {K : PySem.W.Frag} {m : List Addr} {H : Hp} : ∀ {fs : List (Str × D)} {gs : List (Str × V)}, RF K m H fs gs → ∃ vs, gs = (fs.map Prod.fst).zip vs ∧ RVs K m H (fs.map Prod.snd) vs
  | [], _, r => by cases r; exact ⟨[], rfl, rfl⟩
  | p :: fs, _, ⟨v, gs', e, r, t⟩ => by
    subst e
    obtain ⟨vs, e1, r1⟩ := RF.split t
    exact ⟨v :: vs, by simp [e1], v, vs, rfl, r, r1⟩
def sTry (Fb : Sl → Sto → Res Fl) (Fx : Exc → Sto → Res D) : Sl → Sto → Res Fl := fun sd S => match Fb sd S with
  | .ok fl S1 => .ok fl S1
  | .exc x S1 => (Fx x S1).bind fun d S2 => .ok (.ret d) S2
  | .stuck => .stuck
structure ExAll (K : PySem.W.Frag) (cl : Cl) (n : Nat) : Prop where
  exc : ∀ c, c < n → L2.ExcC K (cl c)
  exm : ∀ c, c < n → PySem.W.exmOne K (.ref (cl c)) (.ref (cl 0)) = some true
  kv : ∀ c, c < n → PySem.W.kitOne K (.ref (cl c)) (.type "ValueError") = some true
  kit : ∀ c c', c < n → c' < n → PySem.W.kitOne K (.ref (cl c)) (.ref (cl c')) = some (c == c' || c' == 0)
def lookN : List Str → List D → Str → Option D
  | n :: ns, d :: ds, f => if f = n then some d else lookN ns ds f
  | _, _, _ => none
def dExF (i : Nat) (a : Addr) (d : Option Addr) (f : Str) : Sl → Sto → Res D := fun sd S => match sd[i]? with
  | some (some (.exn a' dd ns ds)) => if a' = a ∧ d = some dd ∧ ns ≠ [] then (match lookN ns ds f with
    | some v => .ok v S
    | none => .stuck) else .stuck
  | _ => .stuck
def dExI (i : Nat) (a : Addr) (d : Option Addr) (b : Bool) : Sl → Sto → Res D := fun sd S => match sd[i]? with
  | some (some (.exn a' dd ns _)) => if a' = a ∧ (d = none ∨ (d = some dd ∧ ns ≠ [])) then .ok (.bl b) S else .stuck
  | _ => .stuck
section
variable {cl : Cl} {X : Cx} {E : XK} {a C : Addr} {oe : Obj} {d : Option Addr} {pn : List (Addr × Obj)} {i : Nat} {n f : Str} {p p1 p2 p3 pos : Pos}
def dExFc (i : Nat) (c : Nat) (cs : List Nat) (a : Addr) (d : Option Addr) (f : Str) : Sl → Sto → Res D := fun sd S => if c ∈ cs then dExF i a d f sd S else .stuck
end
structure CokS (X : Cx) : Prop where
  nd : X.N.Nodup
  hu : X.A.units + 64 < cLine
  hu5 : X.A.units + 65 < cLine
end DL

namespace DL
open PySem PySem.Spec PyProof.Rows L2
def isTy (T : String) (d : D) (S : Sto) : Bool := match d with
  | .str _ => T == "str"
  | .frl _ => T == "list"
  | .ref l => match S[l]? with
    | some (.lst _) => T == "list"
    | some (.dic 0 _) => T == "dict"
    | some (.dic 1 _) => T == "dict"
    | _ => false
  | _ => false
theorem isTy_tyV {cl : Cl} {K : PySem.W.Frag} {m : List Addr} {S : Sto} {H : Hp} {T : String} {d : D} {v : V} (rs : RS cl K m S H) (rv : RV K m H d v) (h : isTy T d S = true) : tyV K T v H := by
  unfold isTy at h
  split at h
  · cases rv; exact eq_of_beq h
  · obtain ⟨a, vs, rfl, s1, r1⟩ := rv
    exact .inl ⟨eq_of_beq h, vs, s1.sq⟩
  · rename_i l
    split at h
    · rename_i ds e1
      obtain ⟨a, h1, vs, hv, r1⟩ := rs.adr e1
      obtain ⟨a', h2, rfl⟩ := rv
      rw [h1] at h2; cases h2
      exact .inl ⟨eq_of_beq h, vs, SqL.of hv⟩
    · rename_i kvs e1
      obtain ⟨a, h1, gs, hv, r1⟩ := rs.adr e1
      obtain ⟨a', h2, rfl⟩ := rv
      rw [h1] at h2; cases h2
      exact .inr (.inr (.inl ⟨eq_of_beq h, .inl ⟨gs, hv⟩⟩))
    · rename_i kvs e1
      obtain ⟨a, h1, gs, hv, r1⟩ := rs.adr e1
      obtain ⟨a', h2, rfl⟩ := rv
      rw [h1] at h2; cases h2
      exact .inr (.inr (.inl ⟨eq_of_beq h, .inr ⟨gs, hv⟩⟩))
    · cases h
  · cases h
def MthD (cl : Cl) (X : Cx) (id : String) (g : D → List D → Sto → Res D) : Prop :=
  ∃ r, MtR X id r ∧ ∀ (E : XK) m S H d ds v vs Q, RS cl X.K m S H → RV X.K m H d v → RVs X.K m H ds vs → Post cl X.K (RV X.K) m H E Q (g d ds S) → r v vs H Q
def dBm (T : String) (g : D → List D → Sto → Res D) (fo : Sl → Sto → Res D) (fs : Sl → Sto → Res (List D)) : Sl → Sto → Res D := fun sd S => (fo sd S).bind fun d S1 => if isTy T d S1 then (fs sd S1).bind fun ds S2 => g d ds S2 else .stuck
section
variable {cl : Cl} {X : Cx} {E : XK} {o e : Expr} {es : List Expr} {fo : Sl → Sto → Res D} {fs : Sl → Sto → Res (List D)} {name : Str} {apos cpos : Pos} {T id : String} {g : D → List D → Sto → Res D}
theorem de_bm (pa : PlainAttrs T) (slot : Slot T name id) (hty : typeOf (.builtin id) = pure (.type "method_descriptor")) (hm : MthD cl X id g) (ho : DE cl X E o fo) (ha : DA cl X E (e :: es) fs)
    (hbase : attributeBase o name X.env (eval o X.env) = eval o X.env := by rfl)
    (hfew : ((backTo cpos (starEach (e :: es) X.env)).all (fun x => !x.1) && (backToKw cpos (keywordEach [] X.env)).all (fun x => x.1.isSome)
      && decide ((e :: es).length + ([] : List Keyword).length + (if ([] : List Keyword).isEmpty then 0 else 1) < 30)) = true := by rfl)
    (hline : (apos.endLine == cpos.line) = true := by rfl) (hs : starEach (e :: es) X.env = (false, eval e X.env) :: starEach es X.env := by rfl) (hplain : (backTo cpos (starEach es X.env)).any (·.1) = false := by rfl) :
    DE cl X E (.Call (.Attribute o name apos) (e :: es) [] cpos) (dBm T g fo fs) := by
  obtain ⟨r, hm, hr⟩ := hm
  obtain ⟨t, p, ho⟩ := ho
  obtain ⟨u, q, ha⟩ := ha
  refine ⟨_, pe_bm pa slot hty hm p q hbase hfew hline hs hplain, fun m S H sd σ Q rs rl h => ?_⟩
  refine ho m S H sd σ _ rs rl (Post.bind h fun d S1 m1 v H1 x1 k1 rs1 rv h1 => ?_)
  split at h1
  · rename_i ht
    refine ⟨isTy_tyV rs1 rv ht, ?_⟩
    refine ha m1 S1 H1 sd σ _ rs1 (rl.mono x1 k1) (Post.bind h1 fun ds S2 m2 vs H2 x2 k2 rs2 rv2 h2 => ?_)
    exact hr E m2 S2 H2 d ds v vs Q rs2 (RV.mono x2 k2 d rv) rv2 h2
  · exact h1.elim
theorem lst_at {m : List Addr} {S : Sto} {H : Hp} {l : Nat} {xs : List D} {v : V} {K : PySem.W.Frag} (rs : RS cl K m S H) (e : S[l]? = some (.lst xs)) (rv : RV K m H (.ref l) v) : ∃ a vs, m[l]? = some a ∧ v = .ref a ∧ H a = some (.lst vs) ∧ RVs K m H xs vs := by
  obtain ⟨a, h1, vs, hv, r1⟩ := rs.adr e
  obtain ⟨a', h2, rfl⟩ := rv
  rw [h1] at h2; cases h2
  exact ⟨a, vs, h1, rfl, hv, r1⟩
theorem put_lst {m : List Addr} {S : Sto} {H : Hp} {l : Nat} {xs ys : List D} {ws : List V} {a : Addr} {d : D} {v : V} {Q : VK} {K : PySem.W.Frag} (rs : RS cl K m S H) (e : S[l]? = some (.lst xs)) (hm : m[l]? = some a) (r : RVs K m H ys ws) (rv : RV K m H d v)
    (h : Post cl K (RV K) m H E Q (.ok d (S.set l (.lst ys)))) : Q v (upd H a (.lst ws)) := by
  have kp := rs.keepPut (u := .lst ws) e hm
  exact h m _ _ (Ext.refl _) kp (rs.put e hm ⟨ws, upd_same, r.mono (Ext.refl _) kp⟩) (RV.mono (Ext.refl _) kp d rv)
def appendD : D → List D → Sto → Res D
  | .ref l, [y], S => match S[l]? with
    | some (.lst xs) => if xs.length < sizeLine then .ok .non (S.set l (.lst (xs ++ [y]))) else .stuck
    | _ => .stuck
  | _, _, _ => .stuck
theorem md_append : MthD cl X "list.append" appendD := by
  refine ⟨_, mt_append, fun E m S H d ds v vs Q rs rv rvs h => ?_⟩
  unfold appendD at h
  split at h
  · rename_i l y
    obtain ⟨w, rfl, rw'⟩ := rvs1 rvs
    split at h
    · rename_i xs e1
      split at h
      · rename_i hz
        obtain ⟨a, us, hm, rfl, hv, r1⟩ := lst_at rs e1 rv
        exact ⟨a, us, w, rfl, rfl, hv, by rw [← r1.length]; exact hz, put_lst (d := .non) rs e1 hm (r1.snoc rw') rfl h⟩
      · exact h.elim
    · exact h.elim
  · exact h.elim
def extendD : D → List D → Sto → Res D
  | .ref l, [.ref k], S => match S[l]?, S[k]? with
    | some (.lst xs), some (.lst ys) => if xs.length + ys.length ≤ sizeLine then .ok .non (S.set l (.lst (xs ++ ys))) else .stuck
    | _, _ => .stuck
  | _, _, _ => .stuck
theorem md_extend : MthD cl X "list.extend" extendD := by
  refine ⟨_, mt_extend, fun E m S H d ds v vs Q rs rv rvs h => ?_⟩
  unfold extendD at h
  split at h
  · rename_i l k
    obtain ⟨w, rfl, rw'⟩ := rvs1 rvs
    split at h
    · rename_i xs ys e1 e2
      split at h
      · rename_i hz
        obtain ⟨a, us, hm, rfl, hv, r1⟩ := lst_at rs e1 rv
        obtain ⟨b, ws, hm2, rfl, hv2, r2⟩ := lst_at rs e2 rw'
        exact ⟨a, b, us, ws, rfl, rfl, hv, hv2, by rw [← r1.length, ← r2.length]; exact hz, put_lst (d := .non) rs e1 hm (r1.append r2) rfl h⟩
      · exact h.elim
    · exact h.elim
  · exact h.elim
def strsD : List D → Option (List Str)
  | [] => some []
  | .str x :: r => (strsD r).map (x :: ·)
  | _ => none
theorem strsD_rv {K : PySem.W.Frag} {m : List Addr} {H : Hp} : ∀ {ds : List D} {vs : List V} {ys : List Str}, RVs K m H ds vs → strsD ds = some ys → vs = ys.map V.str
  | [], _, _, r, e => by cases r; cases e; rfl
  | .str x :: ds, _, _, ⟨v, vs', e, r, t⟩, h => by
    subst e
    cases r
    obtain ⟨zs, e1, rfl⟩ := Option.map_eq_some_iff.mp h
    rw [strsD_rv t e1]; rfl
  | .non :: _, _, _, _, h => by cases h
  | .bl _ :: _, _, _, _, h => by cases h
  | .int _ :: _, _, _, _, h => by cases h
  | .tup _ :: _, _, _, _, h => by cases h
  | .frl _ :: _, _, _, _, h => by cases h
  | .ref _ :: _, _, _, _, h => by cases h
  | .exn _ _ _ _ :: _, _, _, _, h => by cases h
def joinD : D → List D → Sto → Res D
  | .str a, [d], S => match seqD d S with
    | some ds => match strsD ds with
      | some ys => if (ys.map (·.length)).sum + ys.length * a.length ≤ 16777216 then .ok (.str (Txt.join a ys)) S else .stuck
      | none => .stuck
    | none => .stuck
  | _, _, _ => .stuck
theorem md_join : MthD cl X "str.join" joinD := by
  refine ⟨_, mt_join, fun E m S H d ds v vs Q rs rv rvs h => ?_⟩
  unfold joinD at h
  split at h
  · rename_i a d
    obtain ⟨w, rfl, rw'⟩ := rvs1 rvs
    cases rv
    split at h
    · rename_i es e1
      split at h
      · rename_i ys e2
        split at h
        · rename_i hz
          obtain ⟨p, us, rfl, hs, r1⟩ := seq_rv rs rw' e1
          have e3 := strsD_rv r1 e2
          subst e3
          exact ⟨a, p, ys, rfl, rfl, hs, hz, h.here rs rfl⟩
        · exact h.elim
      · exact h.elim
    · exact h.elim
  · exact h.elim
end
def tyS (d : D) (S : Sto) : Option String := match d with
  | .non => some "NoneType"
  | .bl _ => some "bool"
  | .int _ => some "int"
  | .str _ => some "str"
  | .tup _ => some "tuple"
  | .frl _ => some "list"
  | .ref l => match S[l]? with
    | some (.lst _) => some "list"
    | some (.dic 0 _) => some "dict"
    | some (.dic 1 _) => some "dict"
    | _ => none
  | .exn _ _ _ _ => none
def isT (a b : String) : Bool := a == b || (a == "bool" && b == "int")
def tyOk (t : String) : Bool := ["NoneType", "bool", "int", "str", "tuple", "list", "dict"].contains t
theorem kitB_is {a b : String} (ha : tyOk a = true) (hb : tyOk b = true) : kitB a b = some (isT a b) := by
  have key : ∀ a ∈ ["NoneType", "bool", "int", "str", "tuple", "list", "dict"], ∀ b ∈ ["NoneType", "bool", "int", "str", "tuple", "list", "dict"], kitB a b = some (isT a b) := by decide +kernel
  exact key a (List.contains_iff_mem.mp ha) b (List.contains_iff_mem.mp hb)
theorem tyS_ok {d : D} {S : Sto} {t : String} (h : tyS d S = some t) : tyOk t = true := by
  unfold tyS at h
  split at h
  all_goals first | (cases h; decide) | skip
  split at h
  all_goals first | (cases h; decide) | cases h
theorem tyS_rv {cl : Cl} {K : PySem.W.Frag} {m : List Addr} {S : Sto} {H : Hp} {d : D} {v : V} {t : String} (rs : RS cl K m S H) (rv : RV K m H d v) (h : tyS d S = some t) : TyX K H v (.type t) := by
  unfold tyS at h
  split at h
  · cases h; cases rv; exact .base .non
  · cases h; cases rv; exact .base (.bl _)
  · cases h; cases rv; exact .base (.int _)
  · cases h; cases rv; exact .base (.str _)
  · cases h
    obtain ⟨a, vs, rfl, s1, r1⟩ := rv
    rcases s1 with (s1 | ⟨o, s1⟩) | ⟨o, its, n, h1, h2, h3⟩
    · exact .base (.tup s1)
    · exact .fTuple s1
    · exact .kTuple h1 h2
  · cases h
    obtain ⟨a, vs, rfl, s1, r1⟩ := rv
    rcases s1 with ⟨o, s1⟩ | ⟨o, its, n, h1, h2, h3⟩
    · exact .base (.frz s1)
    · exact .kList h1 h2
  · rename_i l
    split at h
    · rename_i xs e1
      cases h
      obtain ⟨a, us, hm, rfl, hv, r1⟩ := lst_at rs e1 rv
      exact .base (.lst hv)
    · rename_i kvs e1
      cases h
      obtain ⟨a, h1, gs, hv, r1⟩ := rs.adr e1
      obtain ⟨a', h2, rfl⟩ := rv
      rw [h1] at h2; cases h2
      exact .base (.dK hv)
    · rename_i kvs e1
      cases h
      obtain ⟨a, h1, gs, hv, r1⟩ := rs.adr e1
      obtain ⟨a', h2, rfl⟩ := rv
      rw [h1] at h2; cases h2
      exact .base (.dT hv)
    · cases h
  · cases h
def dIsi (ts : List String) (f : Sl → Sto → Res D) : Sl → Sto → Res D := fun sd S => (f sd S).bind fun d S1 => match tyS d S1 with
  | some t => .ok (.bl (ts.any fun b => isT t b)) S1
  | none => .stuck
section
variable {cl : Cl} {X : Cx} {E : XK} {e : Expr} {f : Sl → Sto → Res D} {p p1 p2 p3 p4 pos : Pos}
theorem de_isi {T : String} {n : Str} (hi : Gl X "isinstance") (mi : X.mg "isinstance" = none) (he : DE cl X E e f) (hg : Gl X n) (hm : X.mg n = none) (hv : bootBuiltins n = some (.type T)) (hT : tyOk T = true)
    (hn : n ≠ "__name__" := by decide) (hd : (n == ("__debug__" : Str)) = false := by decide) (hs : starEach [e, .Name n p2] X.env = (false, eval e X.env) :: starEach [.Name n p2] X.env := by rfl) :
    DE cl X E (.Call (.Name "isinstance" p) [e, .Name n p2] [] pos) (dIsi [T] f) := by
  obtain ⟨t, q, he⟩ := he
  have pa := pa_cons q (pa_cons (pe_bltn (v := .ty T) (pos := p2) hg hm hv rfl hn hd) pa_nil) hs
  refine ⟨_, pe_callB call_isi hi mi (by rfl) pa (he := hs), fun m S H sd σ Q rs rl h => ?_⟩
  refine he m S H sd σ _ rs rl (Post.bind h fun d S1 m1 v H1 x1 k1 rs1 rv h1 => ?_)
  split at h1
  · rename_i ty ht
    have h1' : Post cl X.K (RV X.K) m1 H1 E Q (.ok (.bl (isT ty T)) S1) := by
      have e : ([T].any fun b => isT ty b) = isT ty T := by simp
      rw [← e]; exact h1
    exact ⟨v, .ty T, .type ty, .type T, isT ty T, rfl, .ty T, tyS_rv rs1 rv ht, kit_ty (kitB_is (tyS_ok ht) hT), h1'.here rs1 rfl⟩
  · exact h1.elim
theorem de_isi2 {T U : String} {n n' : Str} {k : Nat} (hi : Gl X "isinstance") (mi : X.mg "isinstance" = none) (he : DE cl X E e f) (hg : Gl X n) (hm : X.mg n = none) (hv : bootBuiltins n = some (.type T)) (hT : tyOk T = true)
    (hg' : Gl X n') (hm' : X.mg n' = none) (hv' : bootBuiltins n' = some (.type U)) (hU : tyOk U = true)
    (hn : n ≠ "__name__" := by decide) (hd : (n == ("__debug__" : Str)) = false := by decide) (hn' : n' ≠ "__name__" := by decide) (hd' : (n' == ("__debug__" : Str)) = false := by decide)
    (hs : starEach [e, .Tuple [.Name n p2, .Name n' p3] k p4] X.env = (false, eval e X.env) :: starEach [.Tuple [.Name n p2, .Name n' p3] k p4] X.env := by rfl) :
    DE cl X E (.Call (.Name "isinstance" p) [e, .Tuple [.Name n p2, .Name n' p3] k p4] [] pos) (dIsi [T, U] f) := by
  obtain ⟨t, q, he⟩ := he
  have pt := pe_tup (x1 := k) (pos := p4) (pa_cons (pe_bltn (v := .ty T) (pos := p2) hg hm hv rfl hn hd) (pa_cons (pe_bltn (v := .ty U) (pos := p3) hg' hm' hv' rfl hn' hd') pa_nil))
  have pa := pa_cons q (pa_cons pt pa_nil) hs
  refine ⟨_, pe_callB call_isiT hi mi (by rfl) pa (he := hs), fun m S H sd σ Q rs rl h => ?_⟩
  refine he m S H sd σ _ rs rl (Post.bind h fun d S1 m1 v H1 x1 k1 rs1 rv h1 => ?_)
  split at h1
  · rename_i ty ht
    have hk : PySem.W.kitAny X.K (.type ty) [.type T, .type U] = some ([T, U].any fun b => isT ty b) := by
      refine kitAny_cons (kit_ty (kitB_is (tyS_ok ht) hT)) (fun hb => kitAny_cons (kit_ty (kitB_is (tyS_ok ht) hU)) (fun hc => ?_) (fun hc => ?_)) (fun hb => ?_)
      · rw [kitAny_nil]; simp [hb, hc]
      · simp [hc]
      · simp [hb]
    refine ⟨by rw [sizeLine_eq]; show 2 ≤ _; decide, fun a na => ?_⟩
    have hk2 := Keep.new (H := H1) (o := .tup [V.ty T, V.ty U]) na
    exact ⟨v, a, [.ty T, .ty U], .type ty, [.type T, .type U], _, rfl, upd_same, .cons (.ty T) (.cons (.ty U) .nil), tyS_rv (rs1.ext na) (RV.mono (Ext.refl _) hk2 d rv) ht, hk, h1 m1 _ _ (Ext.refl _) hk2 (rs1.ext na) rfl⟩
  · exact h1.elim
end
end DL

namespace DL
open PySem PySem.Spec PyProof.Rows L2
structure TabF (K : PySem.W.Frag) (h : Heap) (tf : List He.Defn) : Prop where
  hd : ∀ p ∈ tf, PySem.W.codeHdIn K (He.cT K p).1 (He.cT K p).2 = true
  out : ∀ p ∈ tf, K.lookup (He.cT K p).2 = none
  empty : ∀ p ∈ tf, h.get? (He.cT K p).2 = some { cls := .none, data := .fields #[] }
def dKind (Fx : Exc → Sto → Res D) (fb : Sl → Sto → Res D) : Sl → Sto → Res D := fun sd S => match fb sd S with
  | .ok d S1 => .ok d S1
  | .exc x S1 => (match Fx x S1 with
    | .ok d S2 => .ok d S2
    | _ => .stuck)
  | .stuck => .stuck
def tabsQ (K : PySem.W.Frag) (tq : List (He.Defn × Str)) : List (Addr × Str) := tq.map fun p => ((He.cT K p.1).2, p.2 ++ ".<locals>." ++ "<lambda>")
end DL

namespace DL
open PySem PySem.Spec PyProof.Rows L2
mutual
def D.blw (n : Nat) : D → Bool
  | .tup ds => D.blws n ds
  | .frl ds => D.blws n ds
  | .ref l => decide (l < n)
  | .exn _ _ _ ds => D.blws n ds
  | .non => true
  | .bl _ => true
  | .int _ => true
  | .str _ => true
def D.blws (n : Nat) : List D → Bool
  | [] => true
  | d :: ds => D.blw n d && D.blws n ds
end
def DO.blw (n : Nat) : DO → Bool
  | .lst ds => D.blws n ds
  | .dic _ kvs => kvs.all fun p => p.2.blw n
  | .ins _ fs => fs.all fun p => p.2.blw n
  | .dead => true
section
variable {cl : Cl} {K : PySem.W.Frag} {m : List Addr} {H : Hp} {n : Nat}
mutual
theorem RV.cut : ∀ (d : D) {v : V}, RV K m H d v → d.blw n = true → RV K (m.take n) H d v
  | .non, _, h, _ => h
  | .bl _, _, h, _ => h
  | .int _, _, h, _ => h
  | .str _, _, h, _ => h
  | .tup ds, _, ⟨a, vs, e, s, r⟩, b => ⟨a, vs, e, s, RVs.cut ds r b⟩
  | .frl ds, _, ⟨a, vs, e, s, r⟩, b => ⟨a, vs, e, s, RVs.cut ds r b⟩
  | .ref l, _, ⟨a, e, r⟩, b => ⟨a, by rw [List.getElem?_take_of_lt (of_decide_eq_true b)]; exact e, r⟩
  | .exn a dd ns ds, _, ⟨e, vs, r, h⟩, b => ⟨e, vs, RVs.cut ds r b, h⟩
theorem RVs.cut : ∀ (ds : List D) {vs : List V}, RVs K m H ds vs → D.blws n ds = true → RVs K (m.take n) H ds vs
  | [], _, h, _ => h
  | d :: ds, _, ⟨v, vs', e, r, t⟩, b => by
    have b' : (D.blw n d && D.blws n ds) = true := b
    rw [Bool.and_eq_true] at b'
    exact ⟨v, vs', e, RV.cut d r b'.1, RVs.cut ds t b'.2⟩
end
mutual
theorem RV.isBelow : ∀ (d : D) {v : V}, RV K m H d v → d.blw m.length = true
  | .non, _, _ => rfl
  | .bl _, _, _ => rfl
  | .int _, _, _ => rfl
  | .str _, _, _ => rfl
  | .tup ds, _, ⟨_, _, _, _, r⟩ => RVs.isBelow ds r
  | .frl ds, _, ⟨_, _, _, _, r⟩ => RVs.isBelow ds r
  | .ref l, _, ⟨a, e, _⟩ => decide_eq_true (List.getElem?_eq_some_iff.mp e).1
  | .exn a dd ns ds, _, ⟨_, _, r, _⟩ => RVs.isBelow ds r
theorem RVs.isBelow : ∀ (ds : List D) {vs : List V}, RVs K m H ds vs → D.blws m.length ds = true
  | [], _, _ => rfl
  | d :: ds, _, ⟨v, vs', e, r, t⟩ => by
    show (D.blw m.length d && D.blws m.length ds) = true
    rw [RV.isBelow d r, RVs.isBelow ds t]; rfl
end
theorem RF.cut : ∀ {fs : List (Str × D)} {gs : List (Str × V)}, RF K m H fs gs → (fs.all fun p => p.2.blw n) = true → RF K (m.take n) H fs gs
  | [], _, h, _ => h
  | p :: fs, _, ⟨v, gs', e, r, t⟩, b => by
    rw [List.all_cons, Bool.and_eq_true] at b
    exact ⟨v, gs', e, RV.cut _ r b.1, RF.cut t b.2⟩
theorem RD0.cut : ∀ {fs : List (D × D)} {gs : List (Key × V)}, RD0 K m H fs gs → (fs.all fun p => p.2.blw n) = true → RD0 K (m.take n) H fs gs
  | [], _, h, _ => h
  | p :: fs, _, ⟨q, v, gs', e, hk, r, t⟩, b => by
    rw [List.all_cons, Bool.and_eq_true] at b
    exact ⟨q, v, gs', e, hk, RV.cut _ r b.1, RD0.cut t b.2⟩
theorem RD1.cut : ∀ {fs : List (D × D)} {gs : List (List Key × V)}, RD1 K m H fs gs → (fs.all fun p => p.2.blw n) = true → RD1 K (m.take n) H fs gs
  | [], _, h, _ => h
  | p :: fs, _, ⟨q, v, gs', e, hk, r, t⟩, b => by
    rw [List.all_cons, Bool.and_eq_true] at b
    exact ⟨q, v, gs', e, hk, RV.cut _ r b.1, RD1.cut t b.2⟩
mutual
theorem nkey_blw {n : Nat} : ∀ (d : D) {k : NestedKey}, nkey d = some k → d.blw n = true
  | .non, _, _ => rfl
  | .int _, _, _ => rfl
  | .str _, _, _ => rfl
  | .tup ds, _, h => by
    unfold nkey at h
    cases e : nkeys ds with
    | none => rw [e] at h; cases h
    | some ks => exact nkeys_blw ds e
  | .bl _, _, h => by cases h
  | .frl _, _, h => by cases h
  | .ref _, _, h => by cases h
  | .exn _ _ _ _, _, h => by cases h
theorem nkeys_blw {n : Nat} : ∀ (ds : List D) {ks : List NestedKey}, nkeys ds = some ks → D.blws n ds = true
  | [], _, _ => rfl
  | d :: ds, _, h => by
    unfold nkeys at h
    cases e : nkey d with
    | none => rw [e] at h; cases h
    | some k =>
      cases e2 : nkeys ds with
      | none => rw [e, e2] at h; cases h
      | some ks =>
        show (D.blw n d && D.blws n ds) = true
        rw [nkey_blw d e, nkeys_blw ds e2]; rfl
end
theorem RD2.cut : ∀ {fs : List (D × D)} {xs : List (NestedKey × Addr × Value)}, RD2 K m H fs xs → (fs.all fun p => p.2.blw n) = true → RD2 K (m.take n) H fs xs
  | [], _, h, _ => h
  | p :: fs, _, ⟨q, b, v, u, xs', e, hk, hd, r1, r2, r3, t⟩, bb => by
    rw [List.all_cons, Bool.and_eq_true] at bb
    exact ⟨q, b, v, u, xs', e, hk, hd, RV.cut _ r1 (nkey_blw _ hk), RV.cut _ r2 bb.1, r3, RD2.cut t bb.2⟩
theorem RD2.isBelow : ∀ {fs : List (D × D)} {xs : List (NestedKey × Addr × Value)}, RD2 K m H fs xs → (fs.all fun p => p.2.blw m.length) = true
  | [], _, _ => rfl
  | p :: fs, _, ⟨q, b, v, u, xs', e, hk, hd, r1, r2, r3, t⟩ => by rw [List.all_cons, RV.isBelow _ r2, RD2.isBelow t]; rfl
theorem RF.isBelow : ∀ {fs : List (Str × D)} {gs : List (Str × V)}, RF K m H fs gs → (fs.all fun p => p.2.blw m.length) = true
  | [], _, _ => rfl
  | p :: fs, _, ⟨v, gs', e, r, t⟩ => by rw [List.all_cons, RV.isBelow _ r, RF.isBelow t]; rfl
theorem RD0.isBelow : ∀ {fs : List (D × D)} {gs : List (Key × V)}, RD0 K m H fs gs → (fs.all fun p => p.2.blw m.length) = true
  | [], _, _ => rfl
  | p :: fs, _, ⟨q, v, gs', e, hk, r, t⟩ => by rw [List.all_cons, RV.isBelow _ r, RD0.isBelow t]; rfl
theorem RD1.isBelow : ∀ {fs : List (D × D)} {gs : List (List Key × V)}, RD1 K m H fs gs → (fs.all fun p => p.2.blw m.length) = true
  | [], _, _ => rfl
  | p :: fs, _, ⟨q, v, gs', e, hk, r, t⟩ => by rw [List.all_cons, RV.isBelow _ r, RD1.isBelow t]; rfl
theorem RO.cut {a : Addr} : ∀ {o : DO}, RO cl K m H o a → o.blw n = true → RO cl K (m.take n) H o a
  | .lst ds, ⟨vs, e, r⟩, b => ⟨vs, e, RVs.cut ds r b⟩
  | .dic 0 kvs, ⟨gs, e, r⟩, b => ⟨gs, e, r.cut b⟩
  | .dic 1 kvs, ⟨gs, e, r⟩, b => ⟨gs, e, r.cut b⟩
  | .dic 2 kvs, ⟨xs, es, ep, e, e1, e2, e3, r⟩, b => ⟨xs, es, ep, e, e1, e2, e3, r.cut b⟩
  | .dic 3 kvs, ⟨gs, o, e, r⟩, b => ⟨gs, o, e, r.cut b⟩
  | .dic 4 kvs, ⟨ds, o, vs, e0, e, e1, e2, r⟩, b => by
    subst e0
    have b' : D.blws n ds = true := by simpa [DO.blw, D.blw] using b
    exact ⟨ds, o, vs, rfl, e, e1, e2, RVs.cut ds r b'⟩
  | .dic 5 kvs, ⟨i, o, u, e0, e, r⟩, _ => ⟨i, o, u, e0, e, r⟩
  | .dic (_ + 6) kvs, h, _ => h.elim
  | .ins c fs, ⟨dx, gs, e, r⟩, b => ⟨dx, gs, e, r.cut b⟩
  | .dead, h, _ => h
theorem RO.isBelow {a : Addr} : ∀ {o : DO}, RO cl K m H o a → o.blw m.length = true
  | .lst ds, ⟨vs, e, r⟩ => RVs.isBelow ds r
  | .dic 0 kvs, ⟨gs, e, r⟩ => r.isBelow
  | .dic 1 kvs, ⟨gs, e, r⟩ => r.isBelow
  | .dic 2 kvs, ⟨xs, es, ep, e, e1, e2, e3, r⟩ => r.isBelow
  | .dic 3 kvs, ⟨gs, o, e, r⟩ => r.isBelow
  | .dic 4 kvs, ⟨ds, o, vs, e0, e, e1, e2, r⟩ => by
    subst e0
    have := RVs.isBelow ds r
    simpa [DO.blw, D.blw] using this
  | .dic 5 kvs, ⟨i, o, u, e0, e, r⟩ => by
    subst e0
    rfl
  | .dic (_ + 6) kvs, h => h.elim
  | .ins c fs, ⟨dx, gs, e, r⟩ => r.isBelow
  | .dead, h => rfl
end
def sameO (n : Nat) (a b : Option DO) : Bool := decide (b = a) || (match b with
  | some o => o.blw n
  | none => true)
def cutOk (S S' : Sto) : Bool := decide (S.length ≤ S'.length) && (List.range S.length).all fun i => sameO S.length S[i]? S'[i]?
section
variable {cl : Cl} {K : PySem.W.Frag} {m m' : List Addr} {S S' : Sto} {H H' : Hp}
theorem cutOk_below (rs : RS cl K m S H) (h : cutOk S S' = true) : S.length ≤ S'.length ∧ ∀ (i : Nat) (o : DO), i < S.length → S'[i]? = some o → o.blw S.length = true := by
  unfold cutOk at h
  rw [Bool.and_eq_true] at h
  refine ⟨of_decide_eq_true h.1, fun i o hi e => ?_⟩
  have z := List.all_eq_true.mp h.2 i (List.mem_range.mpr hi)
  unfold sameO at z
  rw [e] at z
  rw [Bool.or_eq_true] at z
  rcases z with z | z
  · have z' := of_decide_eq_true z
    obtain ⟨a, _, ro⟩ := rs.adr z'.symm
    have := ro.isBelow
    rw [rs.len] at this
    exact this
  · exact z
theorem RS.cut {n : Nat} (rs : RS cl K m S H) (hn : n ≤ S.length) (hb : ∀ (i : Nat) (o : DO), i < n → S[i]? = some o → o.blw n = true) : RS cl K (m.take n) (S.take n) H := by
  have hl := rs.len
  refine ⟨by simp; omega, fun i j a hi hj => ?_, fun l o a hs hm => ?_, rs.tb⟩
  · rw [List.getElem?_take] at hi hj
    split at hi <;> split at hj
    · exact rs.nd i j a hi hj
    all_goals simp_all
  · rw [List.getElem?_take] at hs hm
    split at hs
    · rename_i hlt
      rw [if_pos hlt] at hm
      exact (rs.obj l o a hs hm).cut (hb l o hlt hs)
    · cases hs
theorem Ext.cut (rs : RS cl K m S H) (x : Ext m m') : Ext m (m'.take S.length) := fun l a e => by
  have hl : l < S.length := by rw [← rs.len]; exact (List.getElem?_eq_some_iff.mp e).1
  rw [List.getElem?_take_of_lt hl]
  exact x l a e
end
def Exc.blw (n : Nat) (x : Exc) : Bool := match x.fs with
  | none => true
  | some fs => fs.all fun p => p.2.blw n
theorem RX.cut {K : PySem.W.Frag} {m : List Addr} {H : Hp} {n : Nat} {x : Exc} {dd : Option Addr} (r : RX K m H x dd) (b : x.blw n = true) : RX K (m.take n) H x dd := by
  unfold RX at r ⊢
  unfold Exc.blw at b
  cases e : x.fs with
  | none => rw [e] at r; exact r
  | some fs =>
    rw [e] at r b
    obtain ⟨d, gs, e1, e2, r⟩ := r
    exact ⟨d, gs, e1, e2, r.cut b⟩
def cutR (S : Sto) : Res D → Res D
  | .ok d S' => if cutOk S S' = true then (if d.blw S.length = true then .ok d (S'.take S.length) else match d with
      | .ref l => match S'[l]? with
        | some (.lst xs) => if D.blws S.length xs = true ∧ S.length ≤ l then .ok (.ref S.length) (S'.take S.length ++ [.lst xs]) else .ok d S'
        | _ => .ok d S'
      | _ => .ok d S') else .ok d S'
  | .exc x S' => if cutOk S S' = true ∧ x.blw S.length = true then .exc x (S'.take S.length) else .exc x S'
  | .stuck => .stuck
def cutF (F : List D → Sto → Res D) : List D → Sto → Res D := fun ds S => cutR S (F ds S)
section
variable {cl : Cl} {K : PySem.W.Frag} {m m' : List Addr} {S S' : Sto} {H H' : Hp} {E : XK} {Q : VK}
theorem RS.cut1 {l : Nat} {xs : List D} {a : Addr} (rs0 : RS cl K m S H) (rs : RS cl K m' S' H') (h : cutOk S S' = true) (hl : S.length ≤ l) (e : S'[l]? = some (.lst xs)) (hm : m'[l]? = some a) (hb : D.blws S.length xs = true) :
    RS cl K (m'.take S.length ++ [a]) (S'.take S.length ++ [.lst xs]) H' := by
  obtain ⟨h1, h2⟩ := cutOk_below rs0 h
  have c := rs.cut h1 h2
  have hlen : (m'.take S.length).length = S.length := by rw [c.len]; simp; omega
  have hlS : (S'.take S.length).length = S.length := by simp; omega
  have na : ∀ i : Nat, (m'.take S.length)[i]? = some a → False := fun i hi => by
    rw [List.getElem?_take] at hi
    split at hi
    · rename_i hlt
      have := rs.nd i l a hi hm
      omega
    · cases hi
  refine ⟨by simp [hlen, hlS], fun i j b hi hj => ?_, fun k o b hs hk => ?_, rs.tb⟩
  · rw [List.getElem?_append] at hi hj
    split at hi <;> split at hj
    · exact c.nd i j b hi hj
    · rename_i q1 q2
      have : b = a := by
        cases hz : j - (m'.take S.length).length with
        | zero => rw [hz] at hj; simp at hj; exact hj.symm
        | succ n => rw [hz] at hj; simp at hj
      subst this; exact (na i hi).elim
    · have : b = a := by
        cases hz : i - (m'.take S.length).length with
        | zero => rw [hz] at hi; simp at hi; exact hi.symm
        | succ n => rw [hz] at hi; simp at hi
      subst this; exact (na j hj).elim
    · have e1 : i - (m'.take S.length).length = 0 := by
        cases hz : i - (m'.take S.length).length with
        | zero => rfl
        | succ n => rw [hz] at hi; simp at hi
      have e2 : j - (m'.take S.length).length = 0 := by
        cases hz : j - (m'.take S.length).length with
        | zero => rfl
        | succ n => rw [hz] at hj; simp at hj
      omega
  · rw [List.getElem?_append] at hs hk
    rw [hlS] at hs
    rw [hlen] at hk
    have xx : Ext (m'.take S.length) (m'.take S.length ++ [a]) := Ext.snoc _ _
    split at hs
    · rename_i q1
      rw [if_pos q1] at hk
      exact (c.obj k o b hs hk).mono xx (Keep.refl _) rfl
    · rename_i q1
      rw [if_neg q1] at hk
      have e1 : k - S.length = 0 := by
        cases hz : k - S.length with
        | zero => rfl
        | succ n => rw [hz] at hs; simp at hs
      rw [e1] at hs hk
      simp at hs hk
      subst hs hk
      obtain ⟨vs, hv, r⟩ := rs.obj l _ _ e hm
      exact ⟨vs, hv, (RVs.cut xs r hb).mono xx (Keep.refl _)⟩
theorem cutR_post (rs : RS cl K m S H) {r : Res D} (h : Post cl K (RV K) m H E Q (cutR S r)) : Post cl K (RV K) m H E Q r := by
  cases r with
  | stuck => exact h
  | exc x S1 =>
    simp only [cutR] at h
    split at h
    · rename_i hc
      intro m' dd H' x' k' rs' rx
      obtain ⟨h1, h2⟩ := cutOk_below rs hc.1
      exact h _ dd H' (Ext.cut rs x') k' (rs'.cut h1 h2) (rx.cut hc.2)
    · exact h
  | ok d S1 =>
    simp only [cutR] at h
    split at h
    · rename_i hc
      split at h
      · rename_i hb
        intro m' v H' x' k' rs' rv
        obtain ⟨h1, h2⟩ := cutOk_below rs hc
        exact h _ v H' (Ext.cut rs x') k' (rs'.cut h1 h2) (RV.cut d rv hb)
      · split at h
        · rename_i l hb
          split at h
          · rename_i xs e
            split at h
            · rename_i hz
              intro m' v H' x' k' rs' rv
              obtain ⟨a, hm, rfl⟩ := rv
              have hlen : (m'.take S.length).length = S.length := by
                obtain ⟨h1, h2⟩ := cutOk_below rs hc
                rw [(rs'.cut h1 h2).len]; simp; omega
              exact h _ (.ref a) H' ((Ext.cut rs x').trans (Ext.snoc _ _)) k' (RS.cut1 rs rs' hc hz.2 e hm hz.1) ⟨a, by rw [List.getElem?_append_right (by omega), hlen]; simp, rfl⟩
            · exact h
          · exact h
        · exact h
    · exact h
end
theorem FnD.cut {P : Program} {w : World} {cl : Cl} {K : PySem.W.Frag} {mg : Str → Option Value} {base : Heap} {k n : Nat} {f : Addr} {F} (h : FnD P w cl K mg base k f n F) : FnD P w cl K mg base k f n (cutF F) := by
  obtain ⟨kp, fd, ps, hl, hb, F0⟩ := h
  have imp : ∀ vs H Q E, spD cl K n (cutF F) vs H Q E → spD cl K n F vs H Q E := fun vs H Q E ⟨m, S, ds, hl, rs, rv, h⟩ => ⟨m, S, ds, hl, rs, rv, cutR_post rs h⟩
  exact ⟨kp, fd, ps, hl, hb, fun vs H Q E h => F0.len vs H Q E (imp _ _ _ _ h), fun A outer s H args us vs Q E hr e0 hbb hv h => F0.run A outer s H args us vs Q E hr e0 hbb hv (imp _ _ _ _ h)⟩
theorem pe_frz {X : Cx} {e : Expr} {t : TE} (p : PE X e t) : PE X e (fun σ H Q => t σ H fun v H1 => Q v H1 ∨ ∃ a u, v = .ref a ∧ H1 a = some u ∧ Mut (some u) ∧ ∀ od, Q v (upd H1 a (.frz od u))) := by
  refine ⟨fun pins s σ H Q I h => ?_⟩
  refine thn (p.run pins s σ H _ I h) fun u s1 ⟨v, H1, I1, r1, q1⟩ => ?_
  rcases q1 with q | ⟨a, w, rfl, ha, mu, q⟩
  · exact ⟨v, H1, I1, r1, q⟩
  · obtain ⟨od, I2⟩ := I1.lock ha mu
    exact ⟨.ref a, _, I2, r1, q od⟩
def frzD (S0 : Sto) (d : D) (S1 : Sto) : Res D := match d with
  | .ref l => match S1[l]? with
    | some (.lst xs) => if S0.length ≤ l ∧ cutOk S0 S1 = true ∧ D.blws S0.length xs = true then .ok (.frl xs) (S1.take S0.length) else .ok (.frl xs) (S1.set l .dead)
    | _ => .ok d S1
  | _ => .ok d S1
def dFrz (f : Sl → Sto → Res D) : Sl → Sto → Res D := fun sd S => (f sd S).bind fun d S1 => frzD S d S1
theorem frz_post {cl : Cl} {K : PySem.W.Frag} {m m1 : List Addr} {S S1 : Sto} {H H1 : Hp} {E : XK} {Q : VK} {d : D} {v : V} (rs : RS cl K m S H) (h : Post cl K (RV K) m H E Q (frzD S d S1)) (x1 : Ext m m1) (k1 : Keep H H1) (rs1 : RS cl K m1 S1 H1) (rv : RV K m1 H1 d v) :
    Q v H1 ∨ ∃ a u, v = .ref a ∧ H1 a = some u ∧ Mut (some u) ∧ ∀ od, Q v (upd H1 a (.frz od u)) := by
  unfold frzD at h
  split at h
  · rename_i l
    split at h
    · rename_i xs e1
      obtain ⟨a, hm, vs, hv, r1⟩ := rs1.adr e1
      obtain ⟨a', hm', rfl⟩ := rv
      rw [hm] at hm'; cases hm'
      refine .inr ⟨a, .lst vs, rfl, hv, trivial, fun od => ?_⟩
      have kp : Keep H1 (upd H1 a (.frz od (.lst vs))) := rs1.keepPut e1 hm
      have rs2 : RS cl K m1 (S1.set l .dead) (upd H1 a (.frz od (.lst vs))) := rs1.put e1 hm ⟨od, .lst vs, upd_same⟩
      have r2 := r1.mono (Ext.refl m1) kp
      split at h
      · rename_i hc
        obtain ⟨c1, c2, c3⟩ := hc
        obtain ⟨h3, h4⟩ := cutOk_below rs c2
        have et : (S1.set l .dead).take S.length = S1.take S.length := by
          apply List.ext_getElem?
          intro i
          rw [List.getElem?_take, List.getElem?_take]
          split
          · rw [List.getElem?_set_ne (by omega)]
          · rfl
        have rs3 := rs2.cut (n := S.length) (by simp; exact h3) (fun i o hi ho => by
          rw [List.getElem?_set_ne (by omega)] at ho
          exact h4 i o hi ho)
        rw [et] at rs3
        exact h _ _ _ (Ext.cut rs x1) (k1.trans kp) rs3 ⟨a, vs, rfl, .inl ⟨od, upd_same⟩, RVs.cut xs r2 c3⟩
      · exact h m1 _ _ x1 (k1.trans kp) rs2 ⟨a, vs, rfl, .inl ⟨od, upd_same⟩, r2⟩
    · exact .inl (h m1 v H1 x1 k1 rs1 rv)
  · exact .inl (h m1 v H1 x1 k1 rs1 rv)
theorem de_frz {cl : Cl} {X : Cx} {E : XK} {e : Expr} {f} (h : DE cl X E e f) : DE cl X E e (dFrz f) := by
  obtain ⟨t, p, he⟩ := h
  refine ⟨_, pe_frz p, fun m S H sd σ Q rs rl h => ?_⟩
  refine he m S H sd σ _ rs rl ?_
  unfold dFrz at h
  cases hr : f sd S with
  | ok d S1 => rw [hr] at h; exact fun m1 v H1 x1 k1 rs1 rv => frz_post rs h x1 k1 rs1 rv
  | exc x S1 => rw [hr] at h; exact h
  | stuck => rw [hr] at h; exact h
theorem ps_frz {X : Cx} {st : Stmt} {t : TS} (p : PS X st t) : PS X st (fun D σ H => t { D with nx := fun σ' H' => D.nx σ' H' ∨ ∃ a u, H' a = some u ∧ Mut (some u) ∧ ∀ od, D.nx σ' (upd H' a (.frz od u)) } σ H) := by
  refine ⟨fun pins s σ H D I h => ?_⟩
  refine thn (p.run pins s σ H _ I h) fun f s1 q => ?_
  cases f with
  | next =>
    obtain ⟨σ', H', I', q⟩ := q
    rcases q with q | ⟨a, u, ha, mu, q⟩
    · exact ⟨σ', H', I', q⟩
    · obtain ⟨od, I2⟩ := I'.lock ha mu
      exact ⟨σ', _, I2, q od⟩
  | _ => exact q
section
variable {cl : Cl} {X : Cx} {E : XK} {elt tg iter : Expr} {ifs : List Expr} {scope : Scope} {own : List (Str × Nat)} {pos : Pos} {fi : Sl → Sto → Res ItD} {ga : D → Sl → Sto → Res Sl} {ft : Sl → Sto → Res Bool} {fe : Sl → Sto → Res D}
theorem ds_compF {i : Nat} {y : Str} {py spos : Pos} (hc : X.calm = true) (hN : X.N.Nodup) (hy : X.N[i]? = some y) (hyl : X.env.scope.names.lookup y = some .local)
    (hsw : swapsWith (.ListComp elt [⟨tg, iter, ifs, 0⟩] scope pos) (some (.Name y py)) spos.line X.env = pure true) (hi : DI cl X E tg iter fi) (ok : BlkOk X.N X.env.scope scope own)
    (hg : ∀ (s : Shared) (H : Hp) (C : Addr) (c : List (Str × Addr)) (fp : List Addr), DGw cl (X.blk s H scope (compEnvC scope c C X.env) fp) E0 (own.map (·.2)) tg ga)
    (ht : ∀ (s : Shared) (H : Hp) (C : Addr) (c : List (Str × Addr)) (fp : List Addr), DTs cl (X.blk s H scope (compEnvC scope c C X.env) fp) E0 ifs ft)
    (he : ∀ (s : Shared) (H : Hp) (C : Addr) (c : List (Str × Addr)) (fp : List Addr), DE cl (X.blk s H scope (compEnvC scope c C X.env) fp) E0 elt fe)
    (hs : ∀ x, foldedSetIterable iter X.env x = pure x := by intro _; rfl) :
    DS cl X E (.Assign [.Name y py] (.ListComp elt [⟨tg, iter, ifs, 0⟩] scope pos) spos) (sAsg (dFrz (dComp (own.map (·.2)) fi ga ft fe)) (gVar i)) := by
  obtain ⟨wi, pi, hi⟩ := hi
  refine ⟨_, ps_frz (t := tAsg (tLc wi (fun v σ H Q => ∃ m S sd d, RS cl X.K m S H ∧ RSl X.K m H sd σ ∧ RV X.K m H d v ∧ Post cl X.K (RSl X.K) m H E0 (fun σ2 H2 => wipe σ2 (own.map (·.2)) = wipe σ (own.map (·.2)) → Q σ2 H2) (ga d sd S))
      (fun σ H Q => ∃ m S sd, RS cl X.K m S H ∧ RSl X.K m H sd σ ∧ Post cl X.K RBool m H E0 Q (ft sd S))
      (fun σ H Q => ∃ m S sd, RS cl X.K m S H ∧ RSl X.K m H sd σ ∧ Post cl X.K (RV X.K) m H E0 Q (fe sd S)) (own.map (·.2))) (gName i)) (ps_setLc hc hN hy hyl hsw pi ok (fun s H C c fp => ?_) (fun s H C c fp => ?_) (fun s H C c fp => ?_) hs), ?_⟩
  · obtain ⟨g, pg, og, hg⟩ := hg s H C c fp
    exact ⟨fun pins s σ H v u Q I r ⟨m, S, sd, d, rs, rl, rv, h⟩ => pg.run pins s σ H v u Q I r (og.mono _ _ _ _ _ (fun σ2 H2 z => z.2 z.1) (og.own _ _ _ _ (hg m S H sd σ d v _ rs rl rv h)))⟩
  · obtain ⟨t, p, ht⟩ := ht s H C c fp
    exact ⟨fun pins s σ H Q I ⟨m, S, sd, rs, rl, h⟩ => p.run pins s σ H Q I (ht m S H sd σ Q rs rl h)⟩
  · obtain ⟨t, p, he⟩ := he s H C c fp
    exact ⟨fun pins s σ H Q I ⟨m, S, sd, rs, rl, h⟩ => p.run pins s σ H Q I (he m S H sd σ Q rs rl h)⟩
  · intro m S H sd σ D rs rl h
    have key : Post cl X.K (RV X.K) m H E (fun v H1 => (fun σ' H' => D.nx σ' H' ∨ ∃ a u, H' a = some u ∧ Mut (some u) ∧ ∀ od, D.nx σ' (upd H' a (.frz od u))) (σ.set i (some v)) H1) (dComp (own.map (·.2)) fi ga ft fe sd S) := by
      unfold sAsg dFrz at h
      cases hr : dComp (own.map (·.2)) fi ga ft fe sd S with
      | stuck => rw [hr] at h; exact h
      | exc x S1 => rw [hr] at h; exact h
      | ok d S1 =>
        rw [hr] at h
        intro m1 v H1 x1 k1 rs1 rv
        have h2 : Post cl X.K (RV X.K) m H E (fun v H1 => D.nx (σ.set i (some v)) H1) (frzD S d S1) := by
          have h' : Post cl X.K (RFl X.K) m H E (endQ D) ((frzD S d S1).bind fun d S1 => .ok (.nx (sd.set i (some d))) S1) := h
          cases hf : frzD S d S1 with
          | stuck => rw [hf] at h'; exact h'
          | exc x S2 => rw [hf] at h'; exact h'
          | ok d2 S2 =>
            rw [hf] at h'
            intro m2 v2 H2 x2 k2 rs2 rv2
            exact h' m2 (.nx (σ.set i (some v2))) H2 x2 k2 rs2 ((rl.mono x2 k2).set i rv2)
        rcases frz_post rs h2 x1 k1 rs1 rv with z | ⟨a, u, e, ha, mu, z⟩
        · exact .inl z
        · exact .inr ⟨a, u, ha, mu, z⟩
    exact comp_core X rfl hi ⟨fun v σ H Q Q' hq ⟨m, S, sd, d, rs, rl, rv, h⟩ => ⟨m, S, sd, d, rs, rl, rv, h.imp fun σ2 H2 z w => hq _ _ (z w)⟩, fun v σ H Q ⟨m, S, sd, d, rs, rl, rv, h⟩ => ⟨m, S, sd, d, rs, rl, rv, h.imp fun σ2 H2 z w => ⟨w, z w⟩⟩⟩
      (fun m S H sd σ d v Q rs rl rv h => ⟨m, S, sd, d, rs, rl, rv, Post.imp (Q' := fun σ2 H2 => wipe σ2 (own.map (·.2)) = wipe σ (own.map (·.2)) → Q σ2 H2) (fun σ2 H2 z _ => z) h⟩) (fun m S H sd σ Q rs rl h => ⟨m, S, sd, rs, rl, h⟩) (fun m S H sd σ Q rs rl h => ⟨m, S, sd, rs, rl, h⟩) m S H sd σ _ rs rl key
end
end DL

namespace DL
open PySem PySem.Spec PyProof.Rows L2
section
variable {cl : Cl} {K : PySem.W.Frag} {m : List Addr} {S : Sto} {H : Hp} {ds : List D} {vs : List V} {p : Addr} {E : XK} {Q : VK}
theorem newFrl (rs : RS cl K m S H) (r : RVs K m H ds vs) (hp : H p = none) (h : Post cl K (RV K) m H E Q (.ok (.frl ds) S)) :
    Q (.ref p) (upd H p (.lst vs)) ∨ ∃ a u, V.ref p = .ref a ∧ (upd H p (.lst vs)) a = some u ∧ Mut (some u) ∧ ∀ od, Q (.ref p) (upd (upd H p (.lst vs)) a (.frz od u)) :=
  .inr ⟨p, .lst vs, rfl, upd_same, trivial, fun od => by
    rw [upd_upd]
    exact h m _ _ (Ext.refl m) (Keep.new hp) (rs.ext hp) ⟨p, vs, rfl, .inl ⟨od, upd_same⟩, r.mono (Ext.refl m) (Keep.new hp)⟩⟩
end
def dLstF (f : Sl → Sto → Res (List D)) : Sl → Sto → Res D := fun sd S => (f sd S).bind fun ds S1 => if ds.length ≤ sizeLine then .ok (.frl ds) S1 else .stuck
theorem opr_frz {X : Cx} {f : Value → Value → Sem Value} {r : R2} (h : OpR X f r) : OpR X f (fun x y H Q => r x y H fun v H1 => Q v H1 ∨ ∃ a u, v = .ref a ∧ H1 a = some u ∧ Mut (some u) ∧ ∀ od, Q v (upd H1 a (.frz od u))) := by
  intro pins s σ H x y v u Q I rx ry hh
  refine thn (h pins s σ H x y v u _ I rx ry hh) fun u s1 ⟨v, H1, I1, r1, q1⟩ => ?_
  rcases q1 with q | ⟨a, w, rfl, ha, mu, q⟩
  · exact ⟨v, H1, I1, r1, q⟩
  · obtain ⟨od, I2⟩ := I1.lock ha mu
    exact ⟨.ref a, _, I2, r1, q od⟩
theorem callr_frz {X : Cx} {f : Value} {r} (h : CallR X f r) : CallR X f (fun xs H Q => r xs H fun v H1 => Q v H1 ∨ ∃ a u, v = .ref a ∧ H1 a = some u ∧ Mut (some u) ∧ ∀ od, Q v (upd H1 a (.frz od u))) := by
  intro pins s σ H xs us Q I rx hh
  refine thn (h pins s σ H xs us _ I rx hh) fun u s1 ⟨v, H1, I1, r1, q1⟩ => ?_
  rcases q1 with q | ⟨a, w, rfl, ha, mu, q⟩
  · exact ⟨v, H1, I1, r1, q⟩
  · obtain ⟨od, I2⟩ := I1.lock ha mu
    exact ⟨.ref a, _, I2, r1, q od⟩
def addF : D → D → Sto → Res D
  | .int a, .int b, S => .ok (.int (a + b)) S
  | .str a, .str b, S => if a.length + b.length ≤ sizeLine then .ok (.str (a ++ b)) S else .stuck
  | .tup a, .tup b, S => if a.length + b.length ≤ sizeLine then .ok (.tup (a ++ b)) S else .stuck
  | a, b, S => match lsD a S, lsD b S with
    | some x, some y => if x.length + y.length ≤ sizeLine then .ok (.frl (x ++ y)) S else .stuck
    | _, _ => .stuck
def sliceF (x : D) (lo hi : Option Int) (S : Sto) : Res D := match x with
  | .tup ds => .ok (.tup (cutL ds lo hi)) S
  | .str z => if z.length ≤ sizeLine then .ok (.str (cutS z lo hi)) S else .stuck
  | x => match lsD x S with
    | some ds => .ok (.frl (cutL ds lo hi)) S
    | _ => .stuck
def dSliceF (f : Sl → Sto → Res D) (g h : Sl → Sto → Res (Option Int)) : Sl → Sto → Res D := fun sd S => (f sd S).bind fun x S1 => (g sd S1).bind fun lo S2 => (h sd S2).bind fun hi S3 => sliceF x lo hi S3
def listF : List D → Sto → Res D
  | [d], S => match seqD d S with
    | some ds => .ok (.frl ds) S
    | none => .stuck
  | _, _ => .stuck
section
variable {cl : Cl} {X : Cx} {E : XK} {a b : Expr} {fa fb : Sl → Sto → Res D} {pos : Pos}
theorem de_lstF {es : List Expr} {f pos} (h : DA cl X E es f) : DE cl X E (.List es pos) (dLstF f) := by
  obtain ⟨t, p, h⟩ := h
  refine ⟨_, pe_frz (pe_lst p), fun m S H sd σ Q rs rl hh => ?_⟩
  refine h m S H sd σ _ rs rl (Post.bind hh fun ds S1 m1 vs H1 x1 k1 rs1 rv1 h1 => ?_)
  split at h1
  · rename_i hz
    exact ⟨by rw [← rv1.length]; exact hz, fun p hp => newFrl rs1 rv1 hp h1⟩
  · exact h1.elim
theorem op_addF : OpD cl X (binaryOp .Add) addF := by
  refine ⟨_, opr_frz (((op_add.or op_add_str).or op_catA).or op_catS), fun E m S H x y vx vy Q rs rx ry h => ?_⟩
  unfold addF at h
  split at h
  · rename_i a b
    cases rx; cases ry
    exact .inl (.inl (.inl ⟨_, _, rfl, rfl, .inl (h.here rs rfl)⟩))
  · rename_i a b
    cases rx; cases ry
    split at h
    · rename_i hz
      exact .inl (.inl (.inr ⟨_, _, rfl, rfl, hz, .inl (h.here rs rfl)⟩))
    · exact h.elim
  · rename_i a b
    split at h
    · rename_i hz
      obtain ⟨p, vs, rfl, s1, r1⟩ := rx
      obtain ⟨q, ws, rfl, s2, r2⟩ := ry
      refine .inl (.inr ⟨p, q, vs, ws, rfl, rfl, s1, s2, by rw [← r1.length, ← r2.length]; exact hz, fun e => ?_, fun e1 e2 => ?_, fun e1 e2 p' hp => ?_⟩)
      · subst e
        have : a = [] := List.eq_nil_of_length_eq_zero r1.length
        subst this
        exact .inl (h.here rs ⟨q, ws, rfl, s2, r2⟩)
      · subst e2
        have : b = [] := List.eq_nil_of_length_eq_zero r2.length
        subst this
        exact .inl (h.here rs ⟨p, vs, rfl, s1, by rw [List.append_nil]; exact r1⟩)
      · obtain ⟨a1, b1⟩ := newTup rs (r1.append r2) hp
        exact .inl (h _ _ _ (Ext.refl m) (Keep.new hp) a1 b1)
    · exact h.elim
  · rename_i a b _ _ _
    split at h
    · rename_i x y e1 e2
      split at h
      · rename_i hz
        obtain ⟨p, vs, rfl, hv, r1⟩ := ls_rv rs rx e1
        obtain ⟨q, ws, rfl, hw, r2⟩ := ls_rv rs ry e2
        exact .inr ⟨p, q, vs, ws, rfl, rfl, hv, hw, by rw [← r1.length, ← r2.length]; exact hz, fun p' hp => newFrl rs (r1.append r2) hp h⟩
      · exact h.elim
    · exact h.elim
theorem cd_listF : CallD cl X (.type "list") listF := by
  refine ⟨_, callr_frz call_list_of, fun E m S H ds vs Q rs rv h => ?_⟩
  unfold listF at h
  split at h
  · rename_i d
    obtain ⟨v, rfl, r⟩ := rvs1 rv
    split at h
    · rename_i es e1
      obtain ⟨a, ws, rfl, hs, r1⟩ := seq_rv rs r e1
      exact ⟨a, ws, rfl, hs, fun l hl => newFrl rs r1 hl h⟩
    · exact h.elim
  · exact h.elim
end
end DL

namespace DL
open PySem PySem.Spec PyProof.Rows L2
section
variable {X : Cx} {pins : List (Addr × Obj)} {σ : L2.St} {H : Hp} {s : Shared}
end
theorem key0_rv {K : PySem.W.Frag} {m : List Addr} {H : Hp} {d : D} {v : V} {k : Key} (h : key0 d = some k) (r : RV K m H d v) : v = kV k := by
  cases d <;> simp only [key0] at h <;> cases h <;> exact r
theorem key0_eq {a b : D} {j k : Key} (ha : key0 a = some j) (hb : key0 b = some k) : a = b ↔ j = k := by
  constructor
  · intro e; subst e; rw [ha] at hb; cases hb; rfl
  · intro e; subst e
    cases a <;> simp only [key0] at ha <;> cases ha <;> cases b <;> simp only [key0] at hb <;> cases hb <;> rfl
def RVp (K : PySem.W.Frag) (m : List Addr) (H : Hp) : List (D × D) → List (V × V) → Prop
  | [], vs => vs = []
  | p :: ps, vs => ∃ a b vs', vs = (a, b) :: vs' ∧ RV K m H p.1 a ∧ RV K m H p.2 b ∧ RVp K m H ps vs'
def RVo (K : PySem.W.Frag) (m : List Addr) (H : Hp) : Option D → Option V → Prop
  | none, o => o = none
  | some d, o => ∃ v, o = some v ∧ RV K m H d v
def keysOk (ps : List (D × D)) : Bool := ps.all fun p => (key0 p.1).isSome
def dgl (y : D) : List (D × D) → Option D → Option D
  | [], acc => acc
  | p :: r, acc => dgl y r (if p.1 = y then some p.2 else acc)
def putD (kvs : List (D × D)) (k v : D) : List (D × D) := if kvs.any (fun p => decide (p.1 = k)) then kvs.map fun p => if p.1 = k then (p.1, v) else p else kvs ++ [(k, v)]
def mergeD (kvs more : List (D × D)) : List (D × D) := more.foldl (fun acc p => putD acc p.1 p.2) kvs
def getK (kvs : List (D × D)) (k : D) : Option D := (kvs.find? fun p => decide (p.1 = k)).map (·.2)
section
variable {K : PySem.W.Frag} {m m' : List Addr} {H H' : Hp}
theorem RVp.mono (x : Ext m m') (k : Keep H H') : ∀ {ps : List (D × D)} {vs : List (V × V)}, RVp K m H ps vs → RVp K m' H' ps vs
  | [], _, h => h
  | _ :: _, _, ⟨a, b, vs', e, r1, r2, t⟩ => ⟨a, b, vs', e, RV.mono x k _ r1, RV.mono x k _ r2, RVp.mono x k t⟩
theorem RVp.keys : ∀ {ps : List (D × D)} {vs : List (V × V)}, RVp K m H ps vs → keysOk ps = true → ∃ kvs : List (Key × V), vs = kvs.map (fun kv => (kV kv.1, kv.2)) ∧ RD0 K m H ps kvs ∧ kvs.length = ps.length
  | [], _, h, _ => by cases h; exact ⟨[], rfl, rfl, rfl⟩
  | p :: ps, _, ⟨a, b, vs', e, r1, r2, t⟩, h => by
    unfold keysOk at h
    rw [List.all_cons, Bool.and_eq_true] at h
    obtain ⟨kvs, e1, r, l⟩ := RVp.keys t h.2
    obtain ⟨k, hk⟩ := Option.isSome_iff_exists.mp h.1
    have := key0_rv hk r1
    subst this e e1
    exact ⟨(k, b) :: kvs, rfl, ⟨k, b, kvs, rfl, hk, r2, r⟩, by simp [l]⟩
theorem RD0.any : ∀ {ps : List (D × D)} {gs : List (Key × V)} {d : D} {k : Key}, RD0 K m H ps gs → key0 d = some k → (ps.any fun p => decide (p.1 = d)) = gs.any fun kv => decide (kv.1 = k)
  | [], _, _, _, h, _ => by cases h; rfl
  | p :: ps, _, d, k, ⟨j, v, gs', e, hj, r, t⟩, hk => by
    subst e
    rw [List.any_cons, List.any_cons, RD0.any t hk]
    congr 1
    exact decide_eq_decide.mpr (key0_eq hj hk)
theorem RD0.repl {d x : D} {k : Key} {v : V} (hk : key0 d = some k) (rx : RV K m H x v) : ∀ {ps : List (D × D)} {gs : List (Key × V)}, RD0 K m H ps gs → RD0 K m H (ps.map fun p => if p.1 = d then (p.1, x) else p) (gs.map fun kv => if kv.1 = k then (kv.1, v) else kv)
  | [], _, h => by cases h; exact rfl
  | p :: ps, _, ⟨j, u, gs', e, hj, r, t⟩ => by
    subst e
    rw [List.map_cons, List.map_cons]
    by_cases z : p.1 = d
    · rw [if_pos z, if_pos ((key0_eq hj hk).mp z)]
      exact ⟨j, v, _, rfl, hj, rx, RD0.repl hk rx t⟩
    · rw [if_neg z, if_neg (fun q => z ((key0_eq hj hk).mpr q))]
      exact ⟨j, u, _, rfl, hj, r, RD0.repl hk rx t⟩
theorem RD0.snoc {d x : D} {k : Key} {v : V} (hk : key0 d = some k) (rx : RV K m H x v) : ∀ {ps : List (D × D)} {gs : List (Key × V)}, RD0 K m H ps gs → RD0 K m H (ps ++ [(d, x)]) (gs ++ [(k, v)])
  | [], _, h => by cases h; exact ⟨k, v, [], rfl, hk, rx, rfl⟩
  | p :: ps, _, ⟨j, u, gs', e, hj, r, t⟩ => by subst e; exact ⟨j, u, _, rfl, hj, r, RD0.snoc hk rx t⟩
theorem RD0.put {d x : D} {k : Key} {v : V} {ps : List (D × D)} {gs : List (Key × V)} (r : RD0 K m H ps gs) (hk : key0 d = some k) (rx : RV K m H x v) : RD0 K m H (putD ps d x) (putK gs k v) := by
  unfold putD putK
  rw [RD0.any r hk]
  split
  · exact RD0.repl hk rx r
  · exact RD0.snoc hk rx r
theorem RD0.len : ∀ {ps : List (D × D)} {gs : List (Key × V)}, RD0 K m H ps gs → gs.length = ps.length
  | [], _, h => by cases h; rfl
  | p :: ps, _, ⟨j, u, gs', e, hj, r, t⟩ => by subst e; simp [RD0.len t]
theorem RD0.get : ∀ {ps : List (D × D)} {gs : List (Key × V)} {d : D} {k : Key}, RD0 K m H ps gs → key0 d = some k → RVo K m H (getK ps d) (valV gs k)
  | [], _, _, _, h, _ => by cases h; exact rfl
  | p :: ps, _, d, k, ⟨j, v, gs', e, hj, r, t⟩, hk => by
    subst e
    by_cases z : p.1 = d
    · rw [valV_pos ((key0_eq hj hk).mp z)]
      simp only [getK, List.find?_cons, z, decide_true, Option.map_some]
      exact ⟨v, rfl, r⟩
    · rw [valV_neg (fun q => z ((key0_eq hj hk).mpr q))]
      have := RD0.get t hk
      simp only [getK, List.find?_cons, z, decide_false] at this ⊢
      exact this
theorem RD0.dgl {d : D} {k : Key} (hk : key0 d = some k) : ∀ {ps : List (D × D)} {gs : List (Key × V)} {o : Option D} {u : Option V}, RD0 K m H ps gs → RVo K m H o u → RVo K m H (DL.dgl d ps o) (gs.foldl (fun acc kv => if kv.1 = k then some kv.2 else acc) u)
  | [], _, _, _, h, r => by cases h; exact r
  | p :: ps, _, o, u, ⟨j, v, gs', e, hj, r1, t⟩, r => by
    subst e
    show RVo K m H (DL.dgl d ps (if p.1 = d then some p.2 else o)) _
    rw [List.foldl_cons]
    refine RD0.dgl hk t ?_
    by_cases z : p.1 = d
    · rw [if_pos z, if_pos ((key0_eq hj hk).mp z)]
      exact ⟨v, rfl, r1⟩
    · rw [if_neg z, if_neg (fun q => z ((key0_eq hj hk).mpr q))]
      exact r
theorem RVo.mono (x : Ext m m') (k : Keep H H') : ∀ {o : Option D} {u : Option V}, RVo K m H o u → RVo K m' H' o u
  | none, _, h => h
  | some _, _, ⟨v, e, r⟩ => ⟨v, e, RV.mono x k _ r⟩
theorem RVo.getD {d : D} {v : V} (r : RV K m H d v) : ∀ {o : Option D} {u : Option V}, RVo K m H o u → RV K m H (o.getD d) (u.getD v)
  | none, _, h => by cases h; exact r
  | some _, _, ⟨v, e, q⟩ => by subst e; exact q
theorem RVo.isSome : ∀ {o : Option D} {u : Option V}, RVo K m H o u → o.isSome = u.isSome
  | none, _, h => by cases h; rfl
  | some _, _, ⟨v, e, q⟩ => by subst e; rfl
end
def pNil : Sl → Sto → Res (List (D × D)) := fun _ S => .ok [] S
def pCons (fk fv : Sl → Sto → Res D) (g : Sl → Sto → Res (List (D × D))) : Sl → Sto → Res (List (D × D)) := fun sd S =>
  (fk sd S).bind fun k S1 => (fv sd S1).bind fun v S2 => (g sd S2).bind fun ds S3 => .ok ((k, v) :: ds) S3
section
variable {cl : Cl} {X : Cx} {E : XK} {dpos apos cpos pos : Pos} {o e f : Expr} {fo fe ff : Sl → Sto → Res D} {fp : Sl → Sto → Res (List (D × D))} {keys : List (Option Expr)} {values : List Expr}
def dDispGet (fp : Sl → Sto → Res (List (D × D))) (fe ff : Sl → Sto → Res D) : Sl → Sto → Res D := fun sd S => (fp sd S).bind fun ps S1 => match keysOk ps with
  | false => .stuck
  | true => (fe sd S1).bind fun y S2 => match (key0 y).isSome with
    | false => .stuck
    | true => (ff sd S2).bind fun z S3 => .ok ((dgl y ps none).getD z) S3
def dDisp (fp : Sl → Sto → Res (List (D × D))) : Sl → Sto → Res D := fun sd S => (fp sd S).bind fun ps S1 => match keysOk ps && decide (ps.length ≤ 15) with
  | false => .stuck
  | true => .ok (.ref S1.length) (S1 ++ [.dic 0 (mergeD [] ps)])
theorem newDic {m : List Addr} {S : Sto} {H : Hp} {ds : List (D × D)} {vs : List (Key × V)} {p : Addr} {K : PySem.W.Frag} (rs : RS cl K m S H) (r : RD0 K m H ds vs) (hp : H p = none) :
    RS cl K (m ++ [p]) (S ++ [.dic 0 ds]) (upd H p (.dK vs)) ∧ RV K (m ++ [p]) (upd H p (.dK vs)) (.ref S.length) (.ref p) :=
  ⟨rs.new hp ⟨vs, upd_same, r.mono (Ext.snoc m p) (Keep.new hp)⟩, p, by rw [← rs.len]; simp, rfl⟩
def dDisp0 : Sl → Sto → Res D := fun _ S => .ok (.ref S.length) (S ++ [.dic 0 []])
theorem de_disp0 : DE cl X E (.Dict [] [] dpos) dDisp0 :=
  ⟨_, pe_dnewK, fun m S H sd σ Q rs rl h p hp => by
    obtain ⟨a, b⟩ := newDic rs (ds := []) (vs := []) rfl hp
    exact h _ _ _ (Ext.snoc m p) (Keep.new hp) a b⟩
def dicD (d k : D) (S : Sto) : Option (Option D) := match d with
  | .ref l => match S[l]? with
    | some (.dic 0 kvs) => match (key0 k).isSome with
      | true => some (getK kvs k)
      | false => none
    | _ => none
  | _ => none
def dDget (fo fe ff : Sl → Sto → Res D) : Sl → Sto → Res D := fun sd S => (fo sd S).bind fun x S1 => match dicD x (.int 0) S1 with
  | none => .stuck
  | some _ => (fe sd S1).bind fun y S2 => (ff sd S2).bind fun z S3 => match dicD x y S3 with
    | some r => .ok (r.getD z) S3
    | none => .stuck
end
end DL

namespace DL
open PySem PySem.Spec PyProof.Rows L2
structure KDg (K : PySem.W.Frag) (w : World) (mg : Str → Option Value) (x : Str) (kvs : List (Str × D)) : Prop where
  g : mg x = some (.ref (He.ga K x))
  d : ∃ es n, KDict K w (He.ga K x) es n
  hit : ∀ z c, kvs.lookup z = some c → ∃ u v, PySem.W.nsIn K (He.ga K x) z = some (some u) ∧ RelV v u ∧ ∀ m H, RV K m H c v
  miss : ∀ z, kvs.lookup z = none → PySem.W.nsIn K (He.ga K x) z = some none
section
variable {cl : Cl} {X : Cx} {E : XK} {apos cpos pos : Pos} {o e f : Expr} {fe ff : Sl → Sto → Res D} {td ty tx : TE}
def kdGet (kvs : List (Str × D)) : D → Option (Option D)
  | .str z => some (kvs.lookup z)
  | .int _ => some none
  | _ => none
def dKget (kvs : List (Str × D)) (fe ff : Sl → Sto → Res D) : Sl → Sto → Res D := fun sd S => (fe sd S).bind fun y S1 => match kdGet kvs y with
  | some r => (ff sd S1).bind fun x S2 => .ok (r.getD x) S2
  | none => .stuck
end
end DL

namespace DL
open PySem PySem.Spec PyProof.Rows L2
def setDic (o i v : D) (S : Sto) : Res Unit := match o with
  | .ref l => match S[l]? with
    | some (.dic 0 kvs) => match (key0 i).isSome && decide (kvs.length < sizeLine) with
      | true => .ok () (S.set l (.dic 0 (putD kvs i v)))
      | false => .stuck
    | _ => .stuck
  | _ => .stuck
section
variable {cl : Cl} {X : Cx}
theorem set_dicD (hu : X.A.units + 65 < cLine) : SetD cl X setDic := by
  refine ⟨_, set_dict (by omega), fun E m S H o i v vo vi vv Q rs ro ri rv h => ?_⟩
  unfold setDic at h
  split at h
  · rename_i l
    split at h
    · rename_i kvs e1
      obtain ⟨a, h1, gs, hv, r1⟩ := rs.adr e1
      obtain ⟨a', h2, rfl⟩ := ro
      rw [h1] at h2; cases h2
      split at h
      · rename_i hk
        rw [Bool.and_eq_true] at hk
        obtain ⟨j, hj⟩ := Option.isSome_iff_exists.mp hk.1
        have hl : gs.length < sizeLine := by rw [RD0.len r1]; exact of_decide_eq_true hk.2
        have := key0_rv hj ri
        subst this
        have kp := rs.keepPut (u := .dK (putK gs j vv)) e1 h1
        refine ⟨a, _, rfl, DPut.k hv hl, h m () _ (Ext.refl _) kp (rs.put e1 h1 ⟨_, upd_same, (r1.put hj rv).mono (Ext.refl _) kp⟩) trivial⟩
      · exact h.elim
    · exact h.elim
  · exact h.elim
end
end DL

namespace DL
open PySem PySem.Spec PyProof.Rows L2
mutual
def NKey (K : PySem.W.Frag) (H : Hp) : NestedKey → V → Prop
  | .none, v => v = .non
  | .num i, v => v = .int i
  | .text x, v => v = .str x
  | .tup ks, v => ∃ a vs, v = .ref a ∧ SqT K H a vs ∧ NKeys K H ks vs
def NKeys (K : PySem.W.Frag) (H : Hp) : List NestedKey → List V → Prop
  | [], vs => vs = []
  | k :: ks, vs => ∃ v vs', vs = v :: vs' ∧ NKey K H k v ∧ NKeys K H ks vs'
end
section
variable {K : PySem.W.Frag} {m : List Addr} {H : Hp}
mutual
theorem nkey_rv : ∀ (d : D) {k : NestedKey} {v : V}, nkey d = some k → RV K m H d v → NKey K H k v
  | .non, _, _, h, r => by cases h; exact r
  | .int _, _, _, h, r => by cases h; exact r
  | .str _, _, _, h, r => by cases h; exact r
  | .tup ds, _, _, h, ⟨a, vs, e, s, r⟩ => by
    unfold nkey at h
    cases e2 : nkeys ds with
    | none => rw [e2] at h; cases h
    | some ks =>
      rw [e2] at h
      cases h
      exact ⟨a, vs, e, s, nkeys_rv ds e2 r⟩
  | .bl _, _, _, h, _ => by cases h
  | .frl _, _, _, h, _ => by cases h
  | .ref _, _, _, h, _ => by cases h
  | .exn _ _ _ _, _, _, h, _ => by cases h
theorem nkeys_rv : ∀ (ds : List D) {ks : List NestedKey} {vs : List V}, nkeys ds = some ks → RVs K m H ds vs → NKeys K H ks vs
  | [], _, _, h, r => by cases h; exact r
  | d :: ds, _, _, h, ⟨v, vs', e, r, t⟩ => by
    unfold nkeys at h
    cases e1 : nkey d with
    | none => rw [e1] at h; cases h
    | some k =>
      cases e2 : nkeys ds with
      | none => rw [e1, e2] at h; cases h
      | some ks =>
        rw [e1, e2] at h
        cases h
        exact ⟨v, vs', e, nkey_rv d e1 r, nkeys_rv ds e2 t⟩
end
mutual
theorem nkey_inj : ∀ (a b : D) {k : NestedKey}, nkey a = some k → nkey b = some k → a = b
  | .non, b, _, h, g => by
    cases h
    cases b <;> first | (cases g <;> rfl) | (unfold nkey at g; split at g <;> cases g)
  | .int i, b, _, h, g => by
    cases h
    cases b <;> first | (cases g <;> rfl) | (unfold nkey at g; split at g <;> cases g)
  | .str x, b, _, h, g => by
    cases h
    cases b <;> first | (cases g <;> rfl) | (unfold nkey at g; split at g <;> cases g)
  | .tup ds, b, k, h, g => by
    unfold nkey at h
    cases e2 : nkeys ds with
    | none => rw [e2] at h; cases h
    | some ks =>
      rw [e2] at h
      cases h
      cases b with
      | tup es =>
        unfold nkey at g
        cases e3 : nkeys es with
        | none => rw [e3] at g; cases g
        | some js =>
          rw [e3] at g
          cases g
          rw [nkeys_inj ds es e2 e3]
      | _ => cases g
  | .bl _, _, _, h, _ => by cases h
  | .frl _, _, _, h, _ => by cases h
  | .ref _, _, _, h, _ => by cases h
  | .exn _ _ _ _, _, _, h, _ => by cases h
theorem nkeys_inj : ∀ (as bs : List D) {ks : List NestedKey}, nkeys as = some ks → nkeys bs = some ks → as = bs
  | [], bs, _, h, g => by
    cases h
    cases bs with
    | nil => rfl
    | cons b bs =>
      unfold nkeys at g
      split at g <;> cases g
  | a :: as, bs, _, h, g => by
    unfold nkeys at h
    cases e1 : nkey a with
    | none => rw [e1] at h; cases h
    | some k =>
      cases e2 : nkeys as with
      | none => rw [e1, e2] at h; cases h
      | some ks =>
        rw [e1, e2] at h
        cases h
        cases bs with
        | nil => cases g
        | cons b bs =>
          unfold nkeys at g
          cases e3 : nkey b with
          | none => rw [e3] at g; cases g
          | some j =>
            cases e4 : nkeys bs with
            | none => rw [e3, e4] at g; cases g
            | some js =>
              rw [e3, e4] at g
              cases g
              rw [nkey_inj a b e1 e3, nkeys_inj as bs e2 e4]
end
end
section
variable {X : Cx} {pins : List (Addr × Obj)} {σ : L2.St} {H : Hp} {s : Shared}
mutual
theorem NKey.is (I : Inv X pins σ H s) : ∀ (k : NestedKey) {v : V} {u : Value}, NKey X.K H k v → RelV v u → NestedIs s.heap k u
  | .none, _, _, h, r => by cases h; cases r; exact .none
  | .num i, _, _, h, r => by cases h; obtain ⟨t, rfl⟩ := r; exact .int i t
  | .text x, _, _, h, r => by cases h; obtain ⟨t, rfl⟩ := r; exact .text x t
  | .tup ks, _, _, ⟨a, vs, e, sq, hk⟩, r => by
    subst e
    cases (show _ = Value.ref a from r)
    obtain ⟨its, rv, ⟨o, ho, hc, n, hd⟩, _⟩ := I.tuple sq
    exact .tup ho hc hd (by simpa using NKeys.is I ks hk rv)
theorem NKeys.is (I : Inv X pins σ H s) : ∀ (ks : List NestedKey) {vs : List V} {us : List Value}, NKeys X.K H ks vs → Vals vs us → NestedAll s.heap ks us
  | [], _, _, h, r => by cases h; cases r; exact .nil
  | k :: ks, _, _, ⟨v, vs', e, hk, t⟩, r => by
    subst e
    cases r with
    | cons r1 r2 => exact .cons (NKey.is I k hk r1) (NKeys.is I ks t r2)
end
def entN (X : Cx) (x : NestedKey × Addr × Value) : DictEntry := ⟨x.1.hash X.w, .ref x.2.1, x.2.2⟩
def NAt (X : Cx) (H : Hp) (a : Addr) (xs : List (NestedKey × Addr × Value)) : Prop :=
  ∃ es ep, H a = some (RawO a es ep) ∧ es.toList = xs.map (entN X) ∧ (xs.map (·.1)).Nodup ∧ (a == sysModules) = false ∧ ∀ x ∈ xs, NKey X.K H x.1 (.ref x.2.1) ∧ x.1.depth ≤ 8
theorem NAt.dict {a : Addr} {xs : List (NestedKey × Addr × Value)} (I : Inv X pins σ H s) (h : NAt X H a xs) : s.heap.DictOfH (nestedKind X.prog X.w) a xs := by
  obtain ⟨es, ep, e, he, hn, _, hk⟩ := h
  obtain ⟨⟨o, ho, hc, hd⟩, _, _⟩ := (show ObjOk X.prog X.w H s.heap a (RawO a es ep) from I.hok a _ e)
  exact ⟨o, es, ep, ho, hc, hd, he, fun x hx => ⟨NKey.is I _ (hk x hx).1 rfl, (hk x hx).2⟩, hn⟩
theorem NAt.sys {a : Addr} {xs : List (NestedKey × Addr × Value)} (h : NAt X H a xs) : (a == sysModules) = false := let ⟨_, _, _, _, _, hs, _⟩ := h; hs
theorem rawO_ok {P : Program} {w : World} {H' : Hp} {h' : Heap} {a : Addr} {o : Obj} {es : Array DictEntry} {ep : Nat} (ho : h'.get? a = some o) (hc : o.ExactDict) (hd : o.data = .dict es ep) : ObjOk P w H' h' a (RawO a es ep) :=
  ⟨⟨o, ho, hc, hd⟩, ⟨o, ho⟩, fun h1 h2 ⟨q, e1, e2, e3⟩ k => ⟨q, k q e1, e2, e3⟩⟩
end
def nokD : D → Bool
  | .tup ds => match nkey (.tup ds) with
    | some k => decide (k.depth ≤ 8)
    | none => false
  | _ => false
theorem nokD_key {d : D} (h : nokD d = true) : ∃ ds k, d = .tup ds ∧ nkey d = some k ∧ k.depth ≤ 8 := by
  unfold nokD at h
  split at h
  · rename_i ds
    split at h
    · rename_i k e
      exact ⟨ds, k, rfl, e, of_decide_eq_true h⟩
    · cases h
  · cases h
def dicN (d k : D) (S : Sto) : Option (Option D) := match d with
  | .ref l => match S[l]? with
    | some (.dic 2 kvs) => match nokD k with
      | true => some (getK kvs k)
      | false => none
    | _ => none
  | _ => none
def RVn (K : PySem.W.Frag) (m : List Addr) (H : Hp) : Option D → Option (Addr × Value) → Prop
  | none, o => o = none
  | some d, o => ∃ p v, o = some p ∧ RV K m H d v ∧ RelV v p.2
section
variable {K : PySem.W.Frag} {m : List Addr} {H : Hp}
theorem RD2.get {d : D} {k : NestedKey} (hk : nkey d = some k) : ∀ {ps : List (D × D)} {xs : List (NestedKey × Addr × Value)}, RD2 K m H ps xs → RVn K m H (getK ps d) (atKey xs k)
  | [], _, h => by cases h; exact rfl
  | p :: ps, _, ⟨j, b, v, u, xs', e, hj, hd, r1, r2, r3, t⟩ => by
    subst e
    have ih := RD2.get hk t
    by_cases z : p.1 = d
    · have zk : j = k := by rw [z] at hj; rw [hj] at hk; exact Option.some.inj hk
      simp only [getK, List.find?_cons, z, decide_true, Option.map_some, atKey, zk]
      exact ⟨(b, u), v, rfl, r2, r3⟩
    · have zk : ¬ j = k := fun q => z (nkey_inj _ _ hj (q ▸ hk))
      simp only [getK, List.find?_cons, z, decide_false, atKey, zk] at ih ⊢
      exact ih
theorem RD2.keys : ∀ {ps : List (D × D)} {xs : List (NestedKey × Addr × Value)}, RD2 K m H ps xs → ∀ x ∈ xs, NKey K H x.1 (.ref x.2.1) ∧ x.1.depth ≤ 8
  | [], _, h, x, hx => by cases h; cases hx
  | p :: ps, _, ⟨j, b, v, u, xs', e, hj, hd, r1, r2, r3, t⟩, x, hx => by
    subst e
    rcases List.mem_cons.mp hx with rfl | hx
    · exact ⟨nkey_rv _ hj r1, hd⟩
    · exact RD2.keys t x hx
theorem RD2.len : ∀ {ps : List (D × D)} {xs : List (NestedKey × Addr × Value)}, RD2 K m H ps xs → xs.length = ps.length
  | [], _, h => by cases h; rfl
  | p :: ps, _, ⟨j, b, v, u, xs', e, hj, hd, r1, r2, r3, t⟩ => by subst e; simp [RD2.len t]
theorem RD2.any {d : D} {k : NestedKey} (hk : nkey d = some k) : ∀ {ps : List (D × D)} {xs : List (NestedKey × Addr × Value)}, RD2 K m H ps xs → (ps.any fun p => decide (p.1 = d)) = (atKey xs k).isSome
  | [], _, h => by cases h; rfl
  | p :: ps, _, ⟨j, b, v, u, xs', e, hj, hd, r1, r2, r3, t⟩ => by
    subst e
    have ih := RD2.any hk t
    by_cases z : p.1 = d
    · have zk : j = k := by rw [z] at hj; rw [hj] at hk; exact Option.some.inj hk
      simp [z, atKey, zk]
    · have zk : ¬ j = k := fun q => z (nkey_inj _ _ hj (q ▸ hk))
      simp only [List.any_cons, z, decide_false, Bool.false_or, atKey, List.find?_cons, zk] at ih ⊢
      exact ih
theorem RD2.repl {d x : D} {k : NestedKey} {v : V} {u : Value} (hk : nkey d = some k) (rx : RV K m H x v) (ru : RelV v u) : ∀ {ps : List (D × D)} {xs : List (NestedKey × Addr × Value)}, RD2 K m H ps xs → RD2 K m H (ps.map fun p => if p.1 = d then (p.1, x) else p) (xs.map (putAt k u))
  | [], _, h => by cases h; exact rfl
  | p :: ps, _, ⟨j, b, w, u', xs', e, hj, hd, r1, r2, r3, t⟩ => by
    subst e
    by_cases z : p.1 = d
    · have zk : j = k := by rw [z] at hj; rw [hj] at hk; exact Option.some.inj hk
      simp only [List.map_cons, z, if_true, putAt, zk]
      exact ⟨k, b, v, u, _, rfl, hk, zk ▸ hd, z ▸ r1, rx, ru, RD2.repl hk rx ru t⟩
    · have zk : ¬ j = k := fun q => z (nkey_inj _ _ hj (q ▸ hk))
      simp only [List.map_cons, z, if_false, putAt, zk]
      exact ⟨j, b, w, u', _, rfl, hj, hd, r1, r2, r3, RD2.repl hk rx ru t⟩
theorem RD2.snoc {d x : D} {k : NestedKey} {b : Addr} {v : V} {u : Value} (hk : nkey d = some k) (hd : k.depth ≤ 8) (rd : RV K m H d (.ref b)) (rx : RV K m H x v) (ru : RelV v u) : ∀ {ps : List (D × D)} {xs : List (NestedKey × Addr × Value)}, RD2 K m H ps xs → RD2 K m H (ps ++ [(d, x)]) (xs ++ [(k, b, u)])
  | [], _, h => by cases h; exact ⟨k, b, v, u, [], rfl, hk, hd, rd, rx, ru, rfl⟩
  | p :: ps, _, ⟨j, c, w, u', xs', e, hj, hd', r1, r2, r3, t⟩ => by
    subst e
    exact ⟨j, c, w, u', _, rfl, hj, hd', r1, r2, r3, RD2.snoc hk hd rd rx ru t⟩
theorem RD2.put {d x : D} {k : NestedKey} {b : Addr} {v : V} {u : Value} {ps : List (D × D)} {xs : List (NestedKey × Addr × Value)} (r : RD2 K m H ps xs) (hk : nkey d = some k) (hd : k.depth ≤ 8) (rd : RV K m H d (.ref b)) (rx : RV K m H x v) (ru : RelV v u) : RD2 K m H (putD ps d x) (storedH xs k b u) := by
  unfold putD storedH
  rw [RD2.any hk r]
  split
  · exact RD2.repl hk rx ru r
  · exact RD2.snoc hk hd rd rx ru r
end
section
variable {cl : Cl} {X : Cx} {E : XK}
abbrev HashOk (cl : Cl) (X : Cx) : Prop := cl.hh = fun k => k.hash X.w
theorem dicN_rv {m : List Addr} {S : Sto} {H : Hp} {d k : D} {v vk : V} {r : Option D} (hc : HashOk cl X) (rs : RS cl X.K m S H) (rv : RV X.K m H d v) (rk : RV X.K m H k vk) (h : dicN d k S = some r) :
    ∃ a b xs q, v = .ref a ∧ vk = .ref b ∧ NAt X H a xs ∧ NKey X.K H q (.ref b) ∧ q.depth ≤ 8 ∧ RVn X.K m H r (atKey xs q) := by
  unfold dicN at h
  split at h
  · split at h
    · rename_i kvs e1
      split at h
      · rename_i hk
        cases h
        obtain ⟨ds, q, ek, hq, hd⟩ := nokD_key hk
        obtain ⟨a, h1, xs, es, ep, hv, he, hn, hs, r1⟩ := rs.adr e1
        obtain ⟨a', h2, rfl⟩ := rv
        rw [h1] at h2; cases h2
        have rk' := rk
        rw [ek] at rk'
        obtain ⟨b, vs, rfl, _⟩ := rk'
        refine ⟨a, b, xs, q, rfl, rfl, ⟨es, ep, hv, ?_, hn, hs, RD2.keys r1⟩, nkey_rv _ hq rk, hd, RD2.get hq r1⟩
        rw [he]
        unfold HashOk at hc
        rw [hc]
        rfl
      · cases h
    · cases h
  · cases h
theorem RVn.isSome {K : PySem.W.Frag} {m : List Addr} {H : Hp} : ∀ {o : Option D} {u : Option (Addr × Value)}, RVn K m H o u → o.isSome = u.isSome
  | none, _, h => by cases h; rfl
  | some _, _, ⟨p, v, e, _⟩ => by subst e; rfl
def notInDicN (k d : D) (S : Sto) : Res D := match dicN d k S with
  | some r => .ok (.bl (!r.isSome)) S
  | none => .stuck
theorem nroom (hu : X.A.units + 65 < cLine) : (nestedKind X.prog X.w).room X.A.in1 := by
  show X.A.units + 1 + 8 < cLine
  omega
theorem op_notInDicN (hu : X.A.units + 65 < cLine) (hc : HashOk cl X) : OpD cl X (compareOp .NotIn) notInDicN := by
  refine ⟨fun x y H Q => ∃ a b xs q, y = .ref a ∧ x = .ref b ∧ NAt X H a xs ∧ NKey X.K H q (.ref b) ∧ q.depth ≤ 8 ∧ Q (.bl (!(atKey xs q).isSome)) H, fun pins s σ H x y v u Q I rx ry ⟨a, b, xs, q, ey, ex, hn, hk, hd, hq⟩ => ?_, fun E m S H x y vx vy Q rs rx ry h => ?_⟩
  · subst ey ex
    cases (show u = Value.ref a from ry)
    cases (show v = Value.ref b from rx)
    refine notIn_keyed (nroom hu) ⟨NKey.is I _ hk rfl, hd⟩ hn.sys ⟨xs, hn.dict I, rfl⟩ ⟨.bl (!(atKey xs q).isSome), H, I.tok _, ?_, hq⟩
    rw [valueAt_pairsH, Option.isSome_map]
    rfl
  · unfold notInDicN at h
    split at h
    · rename_i r e
      obtain ⟨a, b, xs, q, e1, e2, hn, hk, hd, ro⟩ := dicN_rv hc rs ry rx e
      exact ⟨a, b, xs, q, e1, e2, hn, hk, hd, by rw [← ro.isSome]; exact h.here rs rfl⟩
    · exact h.elim
def setDicN (o i v : D) (S : Sto) : Res Unit := match o with
  | .ref l => match S[l]? with
    | some (.dic 2 kvs) => match nokD i && decide (kvs.length ≤ sizeLine) with
      | true => .ok () (S.set l (.dic 2 (putD kvs i v)))
      | false => .stuck
    | _ => .stuck
  | _ => .stuck
def rSetN (X : Cx) : TSet := fun o i v H Q => ∃ a b xs q, o = .ref a ∧ i = .ref b ∧ NAt X H a xs ∧ NKey X.K H q (.ref b) ∧ q.depth ≤ 8 ∧ xs.length ≤ sizeLine ∧
  ∀ u es ep, RelV v u → es.toList = (storedH xs q b u).map (entN X) → ((storedH xs q b u).map (·.1)).Nodup → Q (upd H a (RawO a es ep))
theorem set_dictN (hu : X.A.units + 65 < cLine) : PSet X (rSetN X) := by
  intro pins s σ H o i v ov iv u Q I ro ri rv h
  obtain ⟨a, b, xs, q, eo, ei, hn, hk, hd, hz, hq⟩ := h
  subst eo ei
  cases (show ov = Value.ref a from ro)
  cases (show iv = Value.ref b from ri)
  obtain ⟨es0, ep0, e0, _⟩ := id hn
  refine wpAny_setItem_heap (hsz := hz) (nroom hu) ⟨NKey.is I _ hk rfl, hd⟩ (hn.dict I) fun h' dd' hs => ?_
  obtain ⟨o2, es, ep, ho, h2, h3, h4, _, h5⟩ := dd'
  exact ⟨_, d_write I (by rw [e0]; exact True.intro) hs ⟨o2, ho⟩ (rawO_ok ho h2 h3), hq u es ep rv h4 h5⟩
theorem set_dicN (hu : X.A.units + 65 < cLine) (hc : HashOk cl X) : SetD cl X setDicN := by
  refine ⟨_, set_dictN hu, fun E m S H o i v vo vi vv Q rs ro ri rv h => ?_⟩
  unfold setDicN at h
  split at h
  · rename_i l
    split at h
    · rename_i kvs e1
      obtain ⟨a, h1, xs, es, ep, hv, he, hn, hs, r1⟩ := rs.adr e1
      obtain ⟨a', h2, rfl⟩ := ro
      rw [h1] at h2; cases h2
      split at h
      · rename_i hk
        rw [Bool.and_eq_true] at hk
        obtain ⟨ds, q, ek, hq, hd⟩ := nokD_key hk.1
        have hl : xs.length ≤ sizeLine := by rw [RD2.len r1]; exact of_decide_eq_true hk.2
        have ri' := ri
        rw [ek] at ri'
        obtain ⟨b, vs, rfl, _⟩ := ri'
        have hce : cl.hh = fun k => k.hash X.w := hc
        refine ⟨a, b, xs, q, rfl, rfl, ⟨es, ep, hv, by rw [he, hce]; rfl, hn, hs, RD2.keys r1⟩, nkey_rv _ hq ri, hd, hl, fun u es' ep' ru he' hn' => ?_⟩
        have kp := rs.keepPut (u := RawO a es' ep') e1 h1
        refine h m () _ (Ext.refl _) kp (rs.put e1 h1 ⟨storedH xs q b u, es', ep', upd_same, by rw [he', hce]; rfl, hn', hs, (r1.put hq hd ri rv ru).mono (Ext.refl _) kp⟩) trivial
      · exact h.elim
    · exact h.elim
  · exact h.elim
end
end DL

namespace DL
open PySem PySem.Spec PyProof.Rows L2
theorem Dict_walkH {prog : Program} {w : World} {K : Type} [DecidableEq K] {knd : HeapKind prog w K} {A : Around} {E : Value → Shared → Prop} {s : Shared} {env : Env} {keys : List (Option Expr)} {values : List Expr} {pos : Pos} {Q : Value → Shared → Prop}
    (hu : knd.room A) (hall : keys.all (·.isSome) = true) (hl : keys.length = values.length) (h0 : keys ≠ []) (hlen : keys.length ≤ 15)
    (h : wpAny (model prog w) A (evalPairs (pairTrees keys values env pos)) (fun vs s₁ => ∃ ps, CarriesH knd s₁.heap vs ps ∧ s₁.heap.DictOfH knd s.heap.objs.size [] ∧
      ∀ h' tk, h'.DictOfH knd s.heap.objs.size (storedAllH [] ps) → Heap.SameBut s.heap.objs.size s₁.heap h' → Q (.ref s.heap.objs.size) { s₁ with heap := h', toks := tk }) E
      { s with heap := s.heap.push { cls := .type "dict", data := .dict #[] } }) :
    wpAny (model prog w) A (eval (.Dict keys values pos) env) Q E s := by
  have hn := pairTrees_length keys values env pos hall hl
  have hne : pairTrees keys values env pos ≠ [] := by
    intro he
    rw [he] at hn
    exact h0 (List.length_eq_zero_iff.mp hn.symm)
  rw [arm_eval_Dict, zip_pairTrees keys values env pos hall hl, dictDisplay_pairs _ hne (by omega)]
  exact wpAny_bind (wpAny_standAt (wpAny_bind (wpAny_subDictH (knd := knd) (Q := fun d s' => wpAny (model prog w) A (pure (Value.ref d)) Q E s') hu (by omega)
    (wpAny_mono h (fun vs s₁ h₁ => by obtain ⟨ps, hc, hm, hq⟩ := h₁; exact ⟨ps, hc, hm, fun h' tk a b => wpAny_pure (hq h' tk a b)⟩) fun _ _ e => e))))
section
variable {X : Cx}
def tDispN (X : Cx) (tk tv : TE) : TE := fun σ H Q => tPairs [(tk, tv)] σ H fun ps H2 => ∃ y v, ps = [(y, v)] ∧ ∃ b q, y = .ref b ∧ NKey X.K H2 q (.ref b) ∧ q.depth ≤ 8 ∧
  ∀ p u es ep, H2 p = none → (p == sysModules) = false → RelV v u → es.toList = [entN X (q, b, u)] → Q (.ref p) (upd H2 p (RawO p es ep))
theorem pe_dispN {dpos : Pos} {ke ve : Expr} {tk tv : TE} (hu : X.A.units + 65 < cLine) (hk : PE X ke tk) (hv : PE X ve tv) : PE X (.Dict [some ke] [ve] dpos) (tDispN X tk tv) := by
  refine ⟨fun pins s σ H Q I q => ?_⟩
  have h : PPs X dpos [some ke] [ve] [(tk, tv)] := pps_cons hk hv pps_nil
  have hn := I.hok.fresh (Nat.le_refl s.heap.objs.size)
  have hks : ∀ b u, s.heap.get? b = some u → (s.heap.push { cls := .type "dict", data := .dict #[] }).get? b = some u := fun _ _ q => Heap.get?_push_of_some _ q
  have I0 : Inv X pins σ H { s with heap := s.heap.push { cls := .type "dict", data := .dict #[] } } := I.kept (t' := s.toks) hks
  have hnew : (s.heap.push { cls := .type "dict", data := .dict #[] }).get? s.heap.objs.size = some { cls := .type "dict", data := .dict #[] } := Heap.get?_push_size _ rfl
  have hL : s.heap.objs.size ≠ X.env.locals := Nat.ne_of_gt I.lt
  have hC : ∀ x c, X.env.cells.lookup x = some c → c ≠ s.heap.objs.size := fun x c e => by
    obtain ⟨v, o, ho, _⟩ := I.cell x c e
    exact Nat.ne_of_lt (Heap.lt_size ho)
  have hP : ∀ p ∈ X.pn ++ pins, p.1 ≠ s.heap.objs.size := fun p hp => Nat.ne_of_lt (Heap.lt_size (I.pin p hp).1)
  have I1 : Inv X ((s.heap.objs.size, { cls := .type "dict", data := .dict #[] }) :: pins) σ H { s with heap := s.heap.push { cls := .type "dict", data := .dict #[] } } := I0.pins_of fun p hp => by
    rcases List.mem_cons.mp hp with rfl | hp
    · exact ⟨hnew, hn, hL, I.nofs (Nat.le_refl _), fun v e => by cases e⟩
    · exact I0.pin p (List.mem_append_right _ hp)
  have hbig : (s.heap.objs.size == sysModules) = false := by
    have h1 := I.big
    cases z : s.heap.objs.size == sysModules with
    | false => rfl
    | true => exact absurd (eq_of_beq z) (Nat.ne_of_gt h1)
  have hroom : (nestedKind X.prog X.w).room X.A := by
    show X.A.units + 8 < cLine
    omega
  refine Dict_walkH (knd := nestedKind X.prog X.w) hroom rfl rfl (by nofun) (by simp) (thn (h.run _ _ σ H _ I1 q) fun ws s2 ⟨ps, H2, I2, rel, y, v, ep0, b, nk, ey, hnk, hnd, q2⟩ => ?_)
  subst ep0 ey
  obtain ⟨uy, uv, hws, r1, r1'⟩ : ∃ uy uv, ws = [(uy, uv)] ∧ RelV (.ref b) uy ∧ RelV v uv := by
    cases rel with
    | cons r1 r2 =>
      cases r2
      exact ⟨_, _, rfl, r1.1, r1.2⟩
  subst hws
  cases (show uy = Value.ref b from r1)
  · skip
    obtain ⟨e2, n2, _, f2, _⟩ := I2.pin _ (List.mem_append_right _ (List.mem_cons_self ..))
    have dd0 : s2.heap.DictOfH (nestedKind X.prog X.w) s.heap.objs.size [] := ⟨_, #[], 0, e2, ⟨rfl, rfl, rfl⟩, rfl, rfl, fun x hx => (nomatch hx), List.nodup_nil⟩
    have I3 : Inv X pins σ H2 s2 := I2.pins_of fun p hp => I2.pin p (List.mem_append_right _ (List.mem_cons_of_mem _ hp))
    refine ⟨[(nk, b, uv)], ⟨rfl, rfl, ⟨NKey.is I3 _ hnk rfl, hnd⟩, trivial⟩, dd0, fun h' tk dd' hs => ?_⟩
    have I4 : Inv X pins σ H2 { s2 with heap := h', toks := tk } := I3.turned (it := s.heap.objs.size) (fun b o nb e => (hs.2 b nb).trans e) n2 hL (.inr I.sz) hC hP
    obtain ⟨o, es, ep, ho, hc, hd, he, _, _⟩ := dd'
    generalize hs3 : ({ s2 with heap := h', toks := tk } : Shared) = s3 at I4 ⊢
    have ho : s3.heap.get? s.heap.objs.size = some o := by rw [← hs3]; exact ho
    refine ⟨.ref s.heap.objs.size, _, ?_, rfl, q2 s.heap.objs.size uv es ep n2 hbig r1' he⟩
    have nit : ∀ b u, H2 b = some u → b ≠ s.heap.objs.size := fun b u e z => by rw [z, n2] at e; cases e
    refine I4.step (g' := s3.gens) (d' := s3.drawn) (t' := s3.toks) (h' := s3.heap) (H' := upd H2 s.heap.objs.size (RawO s.heap.objs.size es ep)) (ch := [s.heap.objs.size]) (fun b hb => ?_) (fun b o _ _ hc e _ => e) (fun b o _ _ hc e _ => ⟨o.slots, e⟩) (fun b o hc e n => ?_)
      (fun b o hc e => ⟨o, e⟩) (fun b xs e => ?_) (fun b o u e => ?_) (fun b ps e => ⟨#[], ?_⟩) (fun m hm => hm) (fun b u e => ?_) I4.bare
    · have e : b = s.heap.objs.size := by simpa using hb
      subst e
      exact ⟨.inr I.sz, hL, hC, hP⟩
    · rw [upd_ne (fun z => hc (by simp [z]))]; exact n
    · rw [upd_ne (nit _ _ e)]; exact e
    · rw [upd_ne (nit _ _ e)]; exact e
    · rw [upd_ne (nit _ _ e), e]; simp
    · by_cases z : b = s.heap.objs.size
      · subst z
        rw [upd_same] at e; cases e
        exact rawO_ok ho hc hd
      · rw [upd_ne z] at e
        refine (I4.hok b u e).stay (fun c v hc q => q) (fun _ q => ?_) fun _ _ q => ?_
        · rw [upd_ne (nit _ _ q)]; exact q
        · rw [upd_ne (nit _ _ q)]; exact q
def dDispN (fk fv : Sl → Sto → Res D) : Sl → Sto → Res D := fun sd S => (fk sd S).bind fun k S1 => (fv sd S1).bind fun v S2 => match nokD k with
  | true => .ok (.ref S2.length) (S2 ++ [.dic 2 [(k, v)]])
  | false => .stuck
theorem de_dispN {cl : Cl} {E : XK} {dpos : Pos} {ke ve : Expr} {fk fv : Sl → Sto → Res D} (hu : X.A.units + 65 < cLine) (hc : HashOk cl X) (hk : DE cl X E ke fk) (hv : DE cl X E ve fv) : DE cl X E (.Dict [some ke] [ve] dpos) (dDispN fk fv) := by
  obtain ⟨t, p, hk⟩ := hk
  obtain ⟨u, q, hv⟩ := hv
  refine ⟨_, pe_dispN hu p q, fun m S H sd σ Q rs rl h => ?_⟩
  refine hk m S H sd σ _ rs rl (Post.bind h fun x S1 m1 vx H1 x1 k1 rs1 rx h1 => ?_)
  refine hv m1 S1 H1 sd σ _ rs1 (rl.mono x1 k1) (Post.bind h1 fun y S2 m2 vy H2 x2 k2 rs2 ry h2 => ?_)
  split at h2
  · rename_i hn
    obtain ⟨ds, nk, ek, hnk, hd⟩ := nokD_key hn
    have rx2 := RV.mono x2 k2 x rx
    have rx' := rx2
    rw [ek] at rx'
    obtain ⟨b, vs, rfl, _⟩ := rx'
    have hce : cl.hh = fun k => k.hash X.w := hc
    refine ⟨_, _, rfl, b, nk, rfl, nkey_rv _ hnk rx2, hd, fun p u es ep hp hsys ru he => ?_⟩
    have kp : Keep H2 (upd H2 p (RawO p es ep)) := Keep.new hp
    refine h2 _ _ _ (Ext.snoc m2 p) kp (rs2.new hp ⟨[(nk, b, u)], es, ep, upd_same, by rw [he, hce]; rfl, by simp, hsys, nk, b, vy, u, [], rfl, hnk, hd, RV.mono (Ext.snoc m2 p) kp _ rx2, RV.mono (Ext.snoc m2 p) kp _ ry, ru, rfl⟩) ⟨p, by rw [← rs2.len]; simp, rfl⟩
  · exact h2.elim
end
end DL

namespace DL
open PySem PySem.Spec PyProof.Rows L2
section
variable {cl : Cl} {X : Cx} {E : XK}
end
end DL

namespace DL
open PySem PySem.Spec PyProof.Rows L2
section
variable {cl : Cl} {X : Cx} {E : XK}
end
end DL

namespace DL
open PySem PySem.Spec PyProof.Rows L2
section
variable {cl : Cl} {X : Cx} {E : XK}
def ixDicN (d k : D) (S : Sto) : Res D := match dicN d k S with
  | some (some r) => .ok r S
  | _ => .stuck
def tIxN (X : Cx) (td ty : TE) : TE := fun σ H Q => td σ H fun x H1 => ty σ H1 fun y H2 => ∃ a b xs q p v, x = .ref a ∧ y = .ref b ∧ NAt X H2 a xs ∧ NKey X.K H2 q (.ref b) ∧ q.depth ≤ 8 ∧ atKey xs q = some p ∧ RelV v p.2 ∧ Q v H2
theorem pe_ixN {o i : Expr} {td ty : TE} {pos : Pos} (hu : X.A.units + 65 < cLine) (ho : PE X o td) (hi : PE X i ty) (hs : NoSl i) : PE X (.Subscript o i pos) (tIxN X td ty) := by
  refine ⟨fun pins s σ H Q I h => ?_⟩
  refine subD_of PySem.F.slot_dict_getitem.lookup hs (thn (ho.run pins s σ H _ I h) fun u s1 ⟨x, H1, I1, rx, q1⟩ => thn (hi.run pins s1 σ H1 _ I1 q1) fun iv s2 ⟨y, H2, I2, ry, a, b, xs, q, p, v, ex, ey, hn, hk, hd, hp, rv, q2⟩ => ?_)
  subst ex ey
  obtain rfl : u = Value.ref a := rx
  obtain rfl : iv = Value.ref b := ry
  exact ⟨(hn.dict I2).typeIs, wpAny_getItem_heap (nroom hu) ⟨NKey.is I2 _ hk rfl, hd⟩ (hn.dict I2) hp ⟨v, H2, I2.tok _, rv, q2⟩⟩
theorem de_ixDicN {o e : Expr} {fo fe : Sl → Sto → Res D} {pos : Pos} (hu : X.A.units + 65 < cLine) (hc : HashOk cl X) (ha : DE cl X E o fo) (hb : DE cl X E e fe) (hs : NoSl e := by intro _ _; rfl) : DE cl X E (.Subscript o e pos) (d2 ixDicN fo fe) := by
  obtain ⟨t, p, ha⟩ := ha
  obtain ⟨u, q, hb⟩ := hb
  refine ⟨_, pe_ixN hu p q hs, fun m S H sd σ Q rs rl h => ?_⟩
  refine ha m S H sd σ _ rs rl (Post.bind h fun x S1 m1 vx H1 x1 k1 rs1 rx h1 => ?_)
  refine hb m1 S1 H1 sd σ _ rs1 (rl.mono x1 k1) (Post.bind h1 fun y S2 m2 vy H2 x2 k2 rs2 ry h2 => ?_)
  unfold ixDicN at h2
  split at h2
  · rename_i r e
    obtain ⟨a, b, xs, q, e1, e2, hn, hk, hd, ro⟩ := dicN_rv hc rs2 (RV.mono x2 k2 x rx) ry e
    obtain ⟨p, v, ep, rv, ru⟩ := ro
    exact ⟨a, b, xs, q, p, v, e1, e2, hn, hk, hd, ep, ru, h2.here rs2 rv⟩
  · exact h2.elim
end
end DL

namespace DL
open PySem PySem.Spec PyProof.Rows L2
section
variable {cl : Cl} {X : Cx} {E : XK}
def dDispN0 : Sl → Sto → Res D := fun _ S => .ok (.ref S.length) (S ++ [.dic 2 []])
def tDNewN : TE := fun _ H Q => ∀ p, H p = none → (p == sysModules) = false → Q (.ref p) (upd H p (RawO p #[] 0))
theorem pe_dnewN {pos : Pos} : PE X (.Dict [] [] pos) tDNewN := ⟨fun pins s σ H Q I h => by
  have hnew : (s.heap.push { cls := .type "dict", data := .dict #[] }).get? s.heap.objs.size = some { cls := .type "dict", data := .dict #[] } := Heap.get?_push_size _ rfl
  have hbig : (s.heap.objs.size == sysModules) = false := by
    have h1 := I.big
    cases z : s.heap.objs.size == sysModules with
    | false => rfl
    | true => exact absurd (eq_of_beq z) (Nat.ne_of_gt h1)
  exact wpAny_Dict_empty ⟨.ref s.heap.objs.size, _, I.laid (a := s.heap.objs.size) (o := RawO s.heap.objs.size #[] 0) (t' := s.toks) (fun _ _ q => Heap.get?_push_of_some _ q) (Nat.le_refl _) (rawO_ok hnew ⟨rfl, rfl, rfl⟩ rfl), rfl, h _ (I.hok.fresh (Nat.le_refl _)) hbig⟩⟩
theorem de_dispN0 {pos : Pos} : DE cl X E (.Dict [] [] pos) dDispN0 := by
  refine ⟨_, pe_dnewN, fun m S H sd σ Q rs rl h => fun p hp hs => ?_⟩
  exact h _ _ _ (Ext.snoc m p) (Keep.new hp) (rs.new hp ⟨[], #[], 0, upd_same, rfl, List.nodup_nil, hs, rfl⟩) ⟨p, by rw [← rs.len]; simp, rfl⟩
def intsD : List D → Option (List Int)
  | [] => some []
  | .int i :: ds => (intsD ds).map (i :: ·)
  | _ :: _ => none
theorem intsD_rv {K : PySem.W.Frag} {m : List Addr} {H : Hp} : ∀ {ds : List D} {vs : List V} {ns : List Int}, intsD ds = some ns → RVs K m H ds vs → vs = ns.map V.int
  | [], vs, ns, e, r => by cases e; cases r; rfl
  | .int i :: ds, vs, ns, e, ⟨v, vs', ev, rv, rt⟩ => by
    simp only [intsD] at e
    cases h : intsD ds with
    | none => rw [h] at e; cases e
    | some ms =>
      rw [h] at e; cases e
      rw [ev, intsD_rv h rt, show v = .int i from rv]
      rfl
  | .non :: _, _, _, e, _ => by cases e
  | .bl _ :: _, _, _, e, _ => by cases e
  | .str _ :: _, _, _, e, _ => by cases e
  | .tup _ :: _, _, _, e, _ => by cases e
  | .frl _ :: _, _, _, e, _ => by cases e
  | .ref _ :: _, _, _, e, _ => by cases e
  | .exn _ _ _ _ :: _, _, _, e, _ => by cases e
end
end DL

namespace DL
open PySem PySem.Spec PyProof.Rows L2
section
variable {prog : Program} {w : World} {A : Around} {E : Value → Shared → Prop} {s : Shared} {z TI TO T i1 i2 : Addr} {fp1 fp2 : List Addr} {n1 n2 i : Nat} {P1 P2 : Nat → Value → Prop} {St1 St2 : Nat → Heap → Prop} {f : Bool} {oT : Obj}
end
section
variable {prog : Program} {w : World}
end
end DL

namespace DL
open PySem PySem.Spec PyProof.Rows L2
section
variable {cl : Cl} {X : Cx} {E : XK}
end
end DL

namespace DL
open PySem PySem.Spec PyProof.Rows L2
section
variable {cl : Cl} {X : Cx} {E : XK}
def ixDic3 (d k : D) (S : Sto) : Res D := match d with
  | .ref l => match S[l]? with
    | some (.dic 3 kvs) => match (key0 k).isSome with
      | true => match getK kvs k with
        | some r => .ok r S
        | none => .stuck
      | false => .stuck
    | _ => .stuck
  | _ => .stuck
theorem de_ixDic3 {o e : Expr} {fo fe : Sl → Sto → Res D} {pos : Pos} (hu : X.A.units + 1 < cLine) (ha : DE cl X E o fo) (hb : DE cl X E e fe) (hs : NoSl e := by intro _ _; rfl) : DE cl X E (.Subscript o e pos) (d2 ixDic3 fo fe) := by
  obtain ⟨t, p, ha⟩ := ha
  obtain ⟨u, q, hb⟩ := hb
  refine ⟨_, pe_dget hu p q hs, fun m S H sd σ Q rs rl h => ?_⟩
  refine ha m S H sd σ _ rs rl (Post.bind h fun x S1 m1 vx H1 x1 k1 rs1 rx h1 => ?_)
  refine hb m1 S1 H1 sd σ _ rs1 (rl.mono x1 k1) (Post.bind h1 fun y S2 m2 vy H2 x2 k2 rs2 ry h2 => ?_)
  unfold ixDic3 at h2
  split at h2
  · rename_i l
    split at h2
    · rename_i kvs e1
      split at h2
      · rename_i hk
        split at h2
        · rename_i r e2
          obtain ⟨j, hj⟩ := Option.isSome_iff_exists.mp hk
          obtain ⟨a, g1, gs, o, hv, r1⟩ := rs2.adr e1
          obtain ⟨a', g2, rfl⟩ := RV.mono x2 k2 _ rx
          rw [g1] at g2; cases g2
          have := key0_rv hj ry
          subst this
          have hg := RD0.get r1 hj
          rw [e2] at hg
          obtain ⟨v, e3, rv⟩ := hg
          exact ⟨a, v, rfl, .inl ⟨gs, j, .inr ⟨o, hv⟩, rfl, e3.symm⟩, h2.here rs2 rv⟩
        · exact h2.elim
      · exact h2.elim
    · exact h2.elim
  · exact h2.elim
def chk3 (l : Nat) (kvs : List (D × D)) : Sto → Bool := fun S => decide (S[l]? = some (.dic 3 kvs))
def iKeysD (f : Sl → Sto → Res D) : Sl → Sto → Res ItD := fun sd S => (f sd S).bind fun d S1 => match d with
  | .ref l => match S1[l]? with
    | some (.dic 3 kvs) => .ok ⟨kvs.map (·.1), chk3 l kvs⟩ S1
    | _ => .stuck
  | _ => .stuck
theorem key0_mk {K : PySem.W.Frag} {m : List Addr} {H : Hp} {d : D} {k : Key} (h : key0 d = some k) : RV K m H d (kV k) := by
  cases d <;> simp only [key0] at h <;> cases h <;> rfl
theorem rd0_key {K : PySem.W.Frag} {m : List Addr} {H : Hp} : ∀ {fs : List (D × D)} {gs : List (Key × V)} {i : Nat} {k : Key} {v : V}, RD0 K m H fs gs → gs[i]? = some (k, v) → ∃ d, (fs.map (·.1))[i]? = some d ∧ key0 d = some k
  | [], gs, i, k, v, h, e => by
    cases (show gs = [] from h)
    simp at e
  | p :: fs, gs, i, k, v, ⟨j, u, gs', eg, hk, r, t⟩, e => by
    subst eg
    cases i with
    | zero =>
      simp only [List.getElem?_cons_zero, Option.some.injEq, Prod.mk.injEq] at e
      exact ⟨p.1, rfl, by rw [hk, e.1]⟩
    | succ i =>
      obtain ⟨d, h1, h2⟩ := rd0_key t (show gs'[i]? = some (k, v) from e)
      exact ⟨d, h1, h2⟩
theorem di_keys {tg e : Expr} {fa : Sl → Sto → Res D} (he : DE cl X E e fa) : DI cl X E tg e (iKeysD fa) := by
  obtain ⟨t, p, he⟩ := he
  refine ⟨_, pi_keys p, fun m S H sd σ R rs rl h => ?_⟩
  refine he m S H sd σ _ rs rl (Post.bind h fun d S1 m1 v H1 x1 k1 rs1 rv h1 => ?_)
  split at h1
  · rename_i l
    split at h1
    · rename_i kvs e1
      obtain ⟨a, g1, gs, o, hv, r1⟩ := rs1.adr e1
      obtain ⟨a', g2, rfl⟩ := rv
      rw [g1] at g2; cases g2
      refine ⟨a, o, rfl, .inl ⟨gs, hv, h1.here rs1 fun i m' S' H' x kp rs' hc' => ?_⟩⟩
      have hv' : H' a = some (.frz o (.dK gs)) := kp _ _ hv trivial
      have hl : (kvs.map (·.1)).length = gs.length := by rw [List.length_map]; exact (RD0.len r1).symm
      refine ⟨fun e => ⟨hv', by rw [e, hl]; exact Nat.le_refl _⟩, fun d hd => ⟨⟨hv', by rw [← hl]; exact (List.getElem?_eq_some_iff.mp hd).1⟩, ?_⟩⟩
      rintro y H2 ⟨rfl, k, v, hkv, rfl⟩
      obtain ⟨d', hd', hk'⟩ := rd0_key r1 hkv
      rw [hd] at hd'; cases hd'
      exact ⟨Keep.refl _, rs', key0_mk hk'⟩
    · exact h1.elim
  · exact h1.elim
end
end DL

namespace DL
open PySem PySem.Spec PyProof.Rows L2
section
variable {prog : Program} {w : World} {A : Around} {R : Result → Shared → Prop} {I : Addr} {fp wr : List Addr} {n : Nat} {P : Nat → Value → Prop} {St : Nat → Heap → Prop} {h0 : Heap}
end
section
variable {cl : Cl} {X : Cx} {E : XK}
end
end DL

namespace DL
open PySem PySem.Spec PyProof.Rows L2
section
variable {cl : Cl} {X : Cx} {E : XK}
end
end DL
namespace DL
open PySem PySem.Spec PyProof.Rows L2
section
variable {cl : Cl} {X : Cx} {E : XK}
end
end DL

namespace DL
open PySem PySem.Spec PyProof.Rows L2
def Wp {α : Type} (r : Res α) (Q : α → Sto → Prop) (X : Exc → Sto → Prop) : Prop := match r with
  | .ok a S => Q a S
  | .exc x S => X x S
  | .stuck => False
def kB {α β : Type} (k : α → Sto → Res β) (Q : β → Sto → Prop) (X : Exc → Sto → Prop) (a : α) (S : Sto) : Prop := Wp (k a S) Q X
theorem z2K {α β : Type} {k : α → Sto → Res β} {Q : β → Sto → Prop} {X : Exc → Sto → Prop} {a : α} {S : Sto} : kB k Q X a S = Wp (k a S) Q X := rfl
theorem z1F {α β : Type} {r : Res α} {k : α → Sto → Res β} {Q : β → Sto → Prop} {X : Exc → Sto → Prop} : Wp (r.bind k) Q X = Wp r (kB k Q X) X := by cases r <;> rfl
theorem w_ok {α : Type} {a : α} {S : Sto} {Q : α → Sto → Prop} {X : Exc → Sto → Prop} : Wp (.ok a S) Q X = Q a S := rfl
theorem z2v {α : Type} {x : Exc} {S : Sto} {Q : α → Sto → Prop} {X : Exc → Sto → Prop} : Wp (.exc x S) Q X = X x S := rfl
theorem z1x {α : Type} {Q : α → Sto → Prop} {X : Exc → Sto → Prop} : Wp .stuck Q X = False := rfl
theorem w_ite {α : Type} {c : Prop} [Decidable c] {r s : Res α} {Q : α → Sto → Prop} {X : Exc → Sto → Prop} (h : c) : Wp (if c then r else s) Q X = Wp r Q X := by rw [if_pos h]
theorem Wp.mono {α : Type} {r : Res α} {Q Q' : α → Sto → Prop} {X X' : Exc → Sto → Prop} (h : Wp r Q X) (hq : ∀ a S, Q a S → Q' a S) (hx : ∀ x S, X x S → X' x S) : Wp r Q' X' := by
  cases r with
  | ok a S => exact hq a S h
  | exc x S => exact hx x S h
  | stuck => exact h
theorem Wp.ok {α : Type} {r : Res α} {Q : α → Sto → Prop} (h : Wp r Q (fun _ _ => False)) : ∃ a S, r = .ok a S ∧ Q a S := by
  cases r with
  | ok a S => exact ⟨a, S, rfl, h⟩
  | exc x S => exact h.elim
  | stuck => exact h.elim
def kFn (Q : D → Sto → Prop) : Fl → Sto → Prop
  | .nx _, S => Q .non S
  | .ret d, S => Q d S
  | _, _ => False
theorem z2l {n : Nat} {Fb : Sl → Sto → Res Fl} {ds : List D} {S : Sto} {Q : D → Sto → Prop} {X : Exc → Sto → Prop} : Wp (dFn n Fb ds S) Q X = Wp (Fb (startD n ds) S) (kFn Q) X := by
  unfold dFn
  cases h : Fb (startD n ds) S with
  | ok fl S1 => cases fl <;> rfl
  | exc x S1 => rfl
  | stuck => rfl
theorem z27 {Q : D → Sto → Prop} {sd : Sl} {S : Sto} : kFn Q (.nx sd) S = Q .non S := rfl
theorem z1C {Q : D → Sto → Prop} {d : D} {S : Sto} : kFn Q (.ret d) S = Q d S := rfl
theorem z2h {Fb : Sl → Sto → Res Fl} {Fx : Exc → Sto → Res D} {sd : Sl} {S : Sto} {Q : Fl → Sto → Prop} {X : Exc → Sto → Prop} : Wp (sTry Fb Fx sd S) Q X = Wp (Fb sd S) Q (fun x S => Wp (Fx x S) (fun d S => Q (.ret d) S) X) := by
  unfold sTry
  cases Fb sd S with
  | ok fl S1 => rfl
  | exc x S1 =>
    show Wp ((Fx x S1).bind _) Q X = _
    rw [z1F]; rfl
  | stuck => rfl
theorem z1w {Fx : Exc → Sto → Res D} {fb : Sl → Sto → Res D} {sd : Sl} {S : Sto} {Q : D → Sto → Prop} {X : Exc → Sto → Prop} : Wp (dKind Fx fb sd S) Q X = Wp (fb sd S) Q (fun x S => Wp (Fx x S) Q (fun _ _ => False)) := by
  unfold dKind
  cases fb sd S with
  | ok d S1 => rfl
  | exc x S1 =>
    show Wp (match Fx x S1 with
      | .ok d S2 => .ok d S2
      | _ => .stuck) Q X = _
    show _ = Wp (Fx x S1) Q _
    cases Fx x S1 <;> rfl
  | stuck => rfl
theorem z23 {fi : Sl → Sto → Res ItD} {ga : D → Sl → Sto → Res Sl} {fb : Sl → Sto → Res Fl} {sd : Sl} {S : Sto} {Q : Fl → Sto → Prop} {X : Exc → Sto → Prop} :
    Wp (sFor fi ga fb sd S) Q X = Wp (fi sd S) (kB (fun it S1 => loopD it.chk ga fb it.items sd S1) Q X) X := z1F
theorem w_loop {chk : Sto → Bool} {ga : D → Sl → Sto → Res Sl} {fb : Sl → Sto → Res Fl} {Q : Fl → Sto → Prop} {X : Exc → Sto → Prop} (I : List D → Sl → Sto → Prop) (hc : ∀ xs sd S, I xs sd S → chk S = true)
    (h0 : ∀ sd S, I [] sd S → Q (.nx sd) S)
    (h1 : ∀ x xs sd S, I (x :: xs) sd S → Wp (ga x sd S) (fun sd1 S1 => Wp (fb sd1 S1) (fun fl S2 => match fl with
      | .nx sd2 => I xs sd2 S2
      | .cnt sd2 => I xs sd2 S2
      | .brk sd2 => Q (.nx sd2) S2
      | .ret d => Q (.ret d) S2) X) X) :
    ∀ xs sd S, I xs sd S → Wp (loopD chk ga fb xs sd S) Q X := by
  intro xs
  induction xs with
  | nil =>
    intro sd S h
    unfold loopD
    rw [if_pos (hc _ _ _ h)]
    exact h0 sd S h
  | cons x xs ih =>
    intro sd S h
    unfold loopD
    rw [if_pos (hc _ _ _ h), z1F]
    refine Wp.mono (h1 x xs sd S h) (fun sd1 S1 h2 => ?_) fun _ _ z => z
    show Wp ((fb sd1 S1).bind _) Q X
    rw [z1F]
    refine Wp.mono h2 (fun fl S2 h3 => ?_) fun _ _ z => z
    show Wp (match fl with
      | .nx sd2 => loopD chk ga fb xs sd2 S2
      | .cnt sd2 => loopD chk ga fb xs sd2 S2
      | .brk sd2 => .ok (.nx sd2) S2
      | .ret d => .ok (.ret d) S2) Q X
    cases fl with
    | nx sd2 => exact ih sd2 S2 h3
    | cnt sd2 => exact ih sd2 S2 h3
    | brk sd2 => exact h3
    | ret d => exact h3
theorem z2O {ga : D → Sl → Sto → Res Sl} {fb : Sl → Sto → Res Fl} {sd : Sl} {S : Sto} {Q : Fl → Sto → Prop} {X : Exc → Sto → Prop} : Wp (loopD yes ga fb [] sd S) Q X = Q (.nx sd) S := rfl
theorem z2N {ga : D → Sl → Sto → Res Sl} {fb : Sl → Sto → Res Fl} {x : D} {xs : List D} {sd : Sl} {S : Sto} {Q : Fl → Sto → Prop} {X : Exc → Sto → Prop} : Wp (loopD yes ga fb (x :: xs) sd S) Q X =
    Wp ((ga x sd S).bind fun sd1 S1 => (fb sd1 S1).bind fun fl S2 => match fl with
      | .nx sd2 => loopD yes ga fb xs sd2 S2
      | .cnt sd2 => loopD yes ga fb xs sd2 S2
      | .brk sd2 => .ok (.nx sd2) S2
      | .ret d => .ok (.ret d) S2) Q X := rfl
theorem z1T {i : Nat} {sd : Sl} {S : Sto} {Q : D → Sto → Prop} {X : Exc → Sto → Prop} : Wp (dVar i  sd S) Q X = Wp (match sd[i]? with
  | some (some d) => .ok d S
  | _ => .stuck) Q X := rfl
theorem w_dC {d : D} {sd : Sl} {S : Sto} {Q : D → Sto → Prop} {X : Exc → Sto → Prop} : Wp (dC d  sd S) Q X = Wp (.ok d S) Q X := rfl
theorem z1L {sd : Sl} {S : Sto} {Q : (List D) → Sto → Prop} {X : Exc → Sto → Prop} : Wp (dNil   sd S) Q X = Wp (.ok [] S) Q X := rfl
theorem z1i {f : Sl → Sto → Res D} {g : Sl → Sto → Res (List D)} {sd : Sl} {S : Sto} {Q : (List D) → Sto → Prop} {X : Exc → Sto → Prop} : Wp (dCons f g  sd S) Q X = Wp ((f sd S).bind fun d S1 => (g sd S1).bind fun ds S2 => .ok (d :: ds) S2) Q X := rfl
theorem z1W {f : Sl → Sto → Res (List D)} {sd : Sl} {S : Sto} {Q : D → Sto → Prop} {X : Exc → Sto → Prop} : Wp (dTup f  sd S) Q X = Wp ((f sd S).bind fun ds S1 => if ds.length ≤ sizeLine then .ok (.tup ds) S1 else .stuck) Q X := rfl
theorem z1Y {f : Sl → Sto → Res (List D)} {sd : Sl} {S : Sto} {Q : D → Sto → Prop} {X : Exc → Sto → Prop} : Wp (dLst f  sd S) Q X = Wp ((f sd S).bind fun ds S1 => if ds.length ≤ sizeLine then .ok (.ref S1.length) (S1 ++ [.lst ds]) else .stuck) Q X := rfl
theorem w_d2 {g : D → D → Sto → Res D} {fa fb : Sl → Sto → Res D} {sd : Sl} {S : Sto} {Q : D → Sto → Prop} {X : Exc → Sto → Prop} : Wp (d2 g fa fb  sd S) Q X = Wp ((fa sd S).bind fun x S1 => (fb sd S1).bind fun y S2 => g x y S2) Q X := rfl
theorem z2o {g : D → D → Sto → Res D} {fa fb : Sl → Sto → Res D} {sd : Sl} {S : Sto} {Q : Bool → Sto → Prop} {X : Exc → Sto → Prop} : Wp (d2T g fa fb  sd S) Q X = Wp ((d2 g fa fb sd S).bind fun d S1 => match d with
  | .bl b => .ok b S1
  | _ => .stuck) Q X := rfl
theorem w_d3 {g g' : D → D → Sto → Res D} {fa fb fc : Sl → Sto → Res D} {sd : Sl} {S : Sto} {Q : D → Sto → Prop} {X : Exc → Sto → Prop} : Wp (d3 g g' fa fb fc  sd S) Q X = Wp ((fa sd S).bind fun x S1 => (fb sd S1).bind fun y S2 => (g x y S2).bind fun z S3 => match z with
  | .bl true => (fc sd S3).bind fun w S4 => g' y w S4
  | .bl false => .ok (.bl false) S3
  | _ => .stuck) Q X := rfl
theorem z2m {g g' : D → D → Sto → Res D} {fa fb fc : Sl → Sto → Res D} {sd : Sl} {S : Sto} {Q : Bool → Sto → Prop} {X : Exc → Sto → Prop} : Wp (d3T g g' fa fb fc  sd S) Q X = Wp ((d3 g g' fa fb fc sd S).bind fun d S1 => match d with
  | .bl b => .ok b S1
  | _ => .stuck) Q X := rfl
theorem z1Z {f : Sl → Sto → Res D} {sd : Sl} {S : Sto} {Q : Bool → Sto → Prop} {X : Exc → Sto → Prop} : Wp (tstB f  sd S) Q X = Wp ((f sd S).bind fun d S1 => match d with
  | .bl b => .ok b S1
  | _ => .stuck) Q X := rfl
theorem z1e {f g : Sl → Sto → Res Bool} {sd : Sl} {S : Sto} {Q : Bool → Sto → Prop} {X : Exc → Sto → Prop} : Wp (tAndD f g  sd S) Q X = Wp ((f sd S).bind fun b S1 => if b then g sd S1 else .ok false S1) Q X := rfl
theorem z1J {f g : Sl → Sto → Res Bool} {sd : Sl} {S : Sto} {Q : Bool → Sto → Prop} {X : Exc → Sto → Prop} : Wp (tOrD f g  sd S) Q X = Wp ((f sd S).bind fun b S1 => if b then .ok true S1 else g sd S1) Q X := rfl
theorem z1g {f : Sl → Sto → Res Bool} {sd : Sl} {S : Sto} {Q : Bool → Sto → Prop} {X : Exc → Sto → Prop} : Wp (tNotD f  sd S) Q X = Wp ((f sd S).bind fun b S1 => .ok (!b) S1) Q X := rfl
theorem z1U {f g : Sl → Sto → Res D} {sd : Sl} {S : Sto} {Q : D → Sto → Prop} {X : Exc → Sto → Prop} : Wp (dAnd f g  sd S) Q X = Wp ((f sd S).bind fun d S1 => match d with
  | .bl true => g sd S1
  | .bl false => .ok (.bl false) S1
  | _ => .stuck) Q X := rfl
theorem z2p {f g : Sl → Sto → Res D} {sd : Sl} {S : Sto} {Q : D → Sto → Prop} {X : Exc → Sto → Prop} : Wp (dOr f g  sd S) Q X = Wp ((f sd S).bind fun d S1 => match d with
  | .bl true => .ok (.bl true) S1
  | .bl false => g sd S1
  | _ => .stuck) Q X := rfl
theorem z1G {f : Sl → Sto → Res D} {sd : Sl} {S : Sto} {Q : D → Sto → Prop} {X : Exc → Sto → Prop} : Wp (dNot f  sd S) Q X = Wp ((f sd S).bind fun d S1 => match d with
  | .bl b => .ok (.bl (!b)) S1
  | _ => .stuck) Q X := rfl
theorem z2n {c : Sl → Sto → Res Bool} {f g : Sl → Sto → Res D} {sd : Sl} {S : Sto} {Q : D → Sto → Prop} {X : Exc → Sto → Prop} : Wp (dIf c f g  sd S) Q X = Wp ((c sd S).bind fun b S1 => if b then f sd S1 else g sd S1) Q X := rfl
theorem z1V {f : Sl → Sto → Res D} {sd : Sl} {S : Sto} {Q : D → Sto → Prop} {X : Exc → Sto → Prop} : Wp (dNeg f  sd S) Q X = Wp ((f sd S).bind fun d S1 => match d with
  | .int i => .ok (.int (-i)) S1
  | _ => .stuck) Q X := rfl
theorem z1f {sd : Sl} {S : Sto} {Q : Fl → Sto → Prop} {X : Exc → Sto → Prop} : Wp (sNext   sd S) Q X = Wp (.ok (.nx sd) S) Q X := rfl
theorem z1M {f g : Sl → Sto → Res Fl} {sd : Sl} {S : Sto} {Q : Fl → Sto → Prop} {X : Exc → Sto → Prop} : Wp (sSeq f g  sd S) Q X = Wp ((f sd S).bind fun fl S1 => match fl with
  | .nx sd1 => g sd1 S1
  | r => .ok r S1) Q X := rfl
theorem z2q {c : Sl → Sto → Res Bool} {f g : Sl → Sto → Res Fl} {sd : Sl} {S : Sto} {Q : Fl → Sto → Prop} {X : Exc → Sto → Prop} : Wp (sIf c f g  sd S) Q X = Wp ((c sd S).bind fun b S1 => if b then f sd S1 else g sd S1) Q X := rfl
theorem z1I {f : Sl → Sto → Res D} {sd : Sl} {S : Sto} {Q : Fl → Sto → Prop} {X : Exc → Sto → Prop} : Wp (sRet f  sd S) Q X = Wp ((f sd S).bind fun d S1 => .ok (.ret d) S1) Q X := rfl
theorem z1m {f : Sl → Sto → Res D} {sd : Sl} {S : Sto} {Q : Fl → Sto → Prop} {X : Exc → Sto → Prop} : Wp (sExpr f  sd S) Q X = Wp ((f sd S).bind fun _ S1 => .ok (.nx sd) S1) Q X := rfl
theorem z1R {f : Sl → Sto → Res D} {g : D → Sl → Sto → Res Sl} {sd : Sl} {S : Sto} {Q : Fl → Sto → Prop} {X : Exc → Sto → Prop} : Wp (sAsg f g  sd S) Q X = Wp ((f sd S).bind fun d S1 => (g d sd S1).bind fun sd1 S2 => .ok (.nx sd1) S2) Q X := rfl
theorem z1K {i : Nat} {d : D} {sd : Sl} {S : Sto} {Q : Sl → Sto → Prop} {X : Exc → Sto → Prop} : Wp (gVar i d sd S) Q X = Wp (.ok (sd.set i (some d)) S) Q X := rfl
theorem z1N {sd : Sl} {S : Sto} {Q : Fl → Sto → Prop} {X : Exc → Sto → Prop} : Wp (sBrk   sd S) Q X = Wp (.ok (.brk sd) S) Q X := rfl
theorem z1c {ds : List D} {sd : Sl} {S : Sto} {Q : Sl → Sto → Prop} {X : Exc → Sto → Prop} : Wp (gsNil  ds sd S) Q X = Wp (match ds with
  | [] => .ok sd S
  | _ => .stuck) Q X := rfl
theorem zL {g : D → Sl → Sto → Res Sl} {k : List D → Sl → Sto → Res Sl} {ds : List D} {sd : Sl} {S : Sto} {Q : Sl → Sto → Prop} {X : Exc → Sto → Prop} : Wp (gsCons g k ds sd S) Q X = Wp (match ds with
  | d :: r => (g d sd S).bind fun sd1 S1 => k r sd1 S1
  | _ => .stuck) Q X := rfl
theorem z1a {n : Nat} {k : List D → Sl → Sto → Res Sl} {d : D} {sd : Sl} {S : Sto} {Q : Sl → Sto → Prop} {X : Exc → Sto → Prop} : Wp (gTupD n k d sd S) Q X = Wp (match d with
  | .tup ds => if ds.length = n then k ds sd S else .stuck
  | d => match lsD d S with
    | some ds => if ds.length = n then k ds sd S else .stuck
    | _ => .stuck) Q X := rfl
theorem z1Q {i j : Nat} {f : Sl → Sto → Res (List D)} {sd : Sl} {S : Sto} {Q : Fl → Sto → Prop} {X : Exc → Sto → Prop} : Wp (sPar i j f  sd S) Q X = Wp ((f sd S).bind fun ds S1 => match ds with
  | [x, y] => .ok (.nx ((sd.set i (some x)).set j (some y))) S1
  | _ => .stuck) Q X := rfl
theorem z1S {f : Sl → Sto → Res D} {sd : Sl} {S : Sto} {Q : ItD → Sto → Prop} {X : Exc → Sto → Prop} : Wp (iVal f  sd S) Q X = Wp ((f sd S).bind fun d S1 => match itemsD d S1 with
  | some it => .ok it S1
  | none => .stuck) Q X := rfl
theorem zN {f : Sl → Sto → Res D} {sd : Sl} {S : Sto} {Q : ItD → Sto → Prop} {X : Exc → Sto → Prop} : Wp (iEnumD f  sd S) Q X = Wp ((f sd S).bind fun d S1 => match itemsD d S1 with
  | some it => .ok ⟨enumL 0 it.items, it.chk⟩ S1
  | none => .stuck) Q X := rfl
theorem z1j {f g : Sl → Sto → Res D} {sd : Sl} {S : Sto} {Q : ItD → Sto → Prop} {X : Exc → Sto → Prop} : Wp (iZipD f g  sd S) Q X = Wp ((f sd S).bind fun d S1 => (g sd S1).bind fun e S2 => match itemsD d S2, itemsD e S2 with
  | some it, some jt => .ok ⟨zipL it.items jt.items, fun S => it.chk S && jt.chk S⟩ S2
  | _, _ => .stuck) Q X := rfl
theorem zP {f : Sl → Sto → Res D} {sd : Sl} {S : Sto} {Q : ItD → Sto → Prop} {X : Exc → Sto → Prop} : Wp (iRngD1 f  sd S) Q X = Wp ((f sd S).bind fun d S1 => match d with
  | .int j => if bnd 62 j = true then .ok ⟨rangeL 0 j.toNat, yes⟩ S1 else .stuck
  | _ => .stuck) Q X := rfl
theorem zM {f g : Sl → Sto → Res D} {sd : Sl} {S : Sto} {Q : ItD → Sto → Prop} {X : Exc → Sto → Prop} : Wp (iRngD2 f g  sd S) Q X = Wp ((f sd S).bind fun d S1 => (g sd S1).bind fun e S2 => match d, e with
  | .int i, .int j => if bnd 62 i = true ∧ bnd 62 j = true then .ok ⟨rangeL i (j - i).toNat, yes⟩ S2 else .stuck
  | _, _ => .stuck) Q X := rfl
theorem w_dComp {vs : List Nat} {fi : Sl → Sto → Res ItD} {ga : D → Sl → Sto → Res Sl} {ft : Sl → Sto → Res Bool} {fe : Sl → Sto → Res D} {sd : Sl} {S : Sto} {Q : D → Sto → Prop} {X : Exc → Sto → Prop} : Wp (dComp vs fi ga ft fe  sd S) Q X = Wp ((fi sd S).bind fun it S1 => (compD it.chk ga ft fe S1.length (wipeD sd vs) it.items (S1 ++ [.lst []])).bind fun _ S2 => .ok (.ref S1.length) S2) Q X := rfl
theorem z19 {sd : Sl} {S : Sto} {Q : Bool → Sto → Prop} {X : Exc → Sto → Prop} : Wp (tYesD   sd S) Q X = Wp (.ok true S) Q X := rfl
theorem z1h {set : D → D → D → Sto → Res Unit} {fo fi : Sl → Sto → Res D} {v : D} {sd : Sl} {S : Sto} {Q : Sl → Sto → Prop} {X : Exc → Sto → Prop} : Wp (gSubD set fo fi v sd S) Q X = Wp ((fo sd S).bind fun o S1 => (fi sd S1).bind fun i S2 => (set o i v S2).bind fun _ S3 => .ok sd S3) Q X := rfl
theorem z1l {sd : Sl} {S : Sto} {Q : (Option Int) → Sto → Prop} {X : Exc → Sto → Prop} : Wp (oNone   sd S) Q X = Wp (.ok none S) Q X := rfl
theorem z1d {f : Sl → Sto → Res D} {sd : Sl} {S : Sto} {Q : (Option Int) → Sto → Prop} {X : Exc → Sto → Prop} : Wp (oSome f  sd S) Q X = Wp ((f sd S).bind fun d S1 => match d with
  | .int i => .ok (some i) S1
  | _ => .stuck) Q X := rfl
theorem zR {f : Sl → Sto → Res D} {g h : Sl → Sto → Res (Option Int)} {sd : Sl} {S : Sto} {Q : D → Sto → Prop} {X : Exc → Sto → Prop} : Wp (dSlice f g h  sd S) Q X = Wp ((f sd S).bind fun x S1 => (g sd S1).bind fun lo S2 => (h sd S2).bind fun hi S3 => sliceD x lo hi S3) Q X := rfl
theorem z16 {g : List D → Sto → Res D} {f : Sl → Sto → Res (List D)} {sd : Sl} {S : Sto} {Q : D → Sto → Prop} {X : Exc → Sto → Prop} : Wp (dCall g f  sd S) Q X = Wp ((f sd S).bind fun ds S1 => g ds S1) Q X := rfl
theorem z1O {cs : List Nat} {f : Str} {fo : Sl → Sto → Res D} {sd : Sl} {S : Sto} {Q : D → Sto → Prop} {X : Exc → Sto → Prop} : Wp (dFld cs f fo  sd S) Q X = Wp ((fo sd S).bind fun d S1 => getF cs f d S1) Q X := rfl
theorem z18 {cs : List Nat} {f : Str} {fo fv : Sl → Sto → Res D} {sd : Sl} {S : Sto} {Q : Fl → Sto → Prop} {X : Exc → Sto → Prop} : Wp (sFldD cs f fo fv  sd S) Q X = Wp ((fv sd S).bind fun v S1 => (fo sd S1).bind fun o S2 => (setF cs f o v S2).bind fun _ S3 => .ok (.nx sd) S3) Q X := rfl
theorem z1n {cs : List Nat} {f : Str} {fo : Sl → Sto → Res D} {v : D} {sd : Sl} {S : Sto} {Q : Sl → Sto → Prop} {X : Exc → Sto → Prop} : Wp (gFldD cs f fo v sd S) Q X = Wp ((fo sd S).bind fun o S2 => (setF cs f o v S2).bind fun _ S3 => .ok sd S3) Q X := rfl
theorem zK {n : Nat} {F : List D → Sto → Res D} {fs : Sl → Sto → Res (List D)} {sd : Sl} {S : Sto} {Q : D → Sto → Prop} {X : Exc → Sto → Prop} : Wp (dCallF n F fs  sd S) Q X = Wp ((fs sd S).bind fun ds S1 => if ds.length = n then F ds S1 else .stuck) Q X := rfl
theorem z17 {c : Nat} {m : Str} {n : Nat} {F : List D → Sto → Res D} {fo : Sl → Sto → Res D} {fs : Sl → Sto → Res (List D)} {sd : Sl} {S : Sto} {Q : D → Sto → Prop} {X : Exc → Sto → Prop} : Wp (dMeth c m n F fo fs  sd S) Q X = Wp ((fo sd S).bind fun d S1 => match d with
  | .ref l => match S1[l]? with
    | some (.ins c' gs) => if c' = c ∧ gs.lookup m = none then (fs sd S1).bind fun ds S2 => if ds.length + 1 = n then F (d :: ds) S2 else .stuck else .stuck
    | _ => .stuck
  | _ => .stuck) Q X := rfl
theorem z15 {c : Nat} {n : Nat} {F : List D → Sto → Res D} {fs : Sl → Sto → Res (List D)} {sd : Sl} {S : Sto} {Q : D → Sto → Prop} {X : Exc → Sto → Prop} : Wp (dMake c n F fs  sd S) Q X = Wp ((fs sd S).bind fun ds S1 => if ds.length + 1 = n then (F (.ref S1.length :: ds) (S1 ++ [.ins c []])).bind fun r S2 => match r with
    | .non => .ok (.ref S1.length) S2
    | _ => .stuck
  else .stuck) Q X := rfl
theorem zO {c : Nat} {fs : List Str} {fa : Sl → Sto → Res (List D)} {sd : Sl} {S : Sto} {Q : Fl → Sto → Prop} {X : Exc → Sto → Prop} : Wp (sRaise c fs fa  sd S) Q X = Wp ((fa sd S).bind fun ds S1 => match fs, ds with
  | [f], [d] => .exc ⟨c, some [(f, d)]⟩ S1
  | [f, g], [d, e] => .exc ⟨c, some [(g, e), (f, d)]⟩ S1
  | _, _ => .stuck) Q X := rfl
theorem zI {c : Nat} {sd : Sl} {S : Sto} {Q : Fl → Sto → Prop} {X : Exc → Sto → Prop} : Wp (sRaiseT c  sd S) Q X = Wp (.exc ⟨c, none⟩ S) Q X := rfl
theorem w_dExF {i : Nat} {a : Addr} {d : Option Addr} {f : Str} {sd : Sl} {S : Sto} {Q : D → Sto → Prop} {X : Exc → Sto → Prop} : Wp (dExF i a d f  sd S) Q X = Wp (match sd[i]? with
  | some (some (.exn a' dd ns ds)) => if a' = a ∧ d = some dd ∧ ns ≠ [] then (match lookN ns ds f with
    | some v => .ok v S
    | none => .stuck) else .stuck
  | _ => .stuck) Q X := rfl
theorem w_dExI {i : Nat} {a : Addr} {d : Option Addr} {b : Bool} {sd : Sl} {S : Sto} {Q : D → Sto → Prop} {X : Exc → Sto → Prop} : Wp (dExI i a d b  sd S) Q X = Wp (match sd[i]? with
  | some (some (.exn a' dd ns _)) => if a' = a ∧ (d = none ∨ (d = some dd ∧ ns ≠ [])) then .ok (.bl b) S else .stuck
  | _ => .stuck) Q X := rfl
theorem z1k {i : Nat} {c : Nat} {cs : List Nat} {a : Addr} {d : Option Addr} {f : Str} {sd : Sl} {S : Sto} {Q : D → Sto → Prop} {X : Exc → Sto → Prop} : Wp (dExFc i c cs a d f  sd S) Q X = Wp (if c ∈ cs then dExF i a d f sd S else .stuck) Q X := rfl
theorem z2r {T : String} {g : D → List D → Sto → Res D} {fo : Sl → Sto → Res D} {fs : Sl → Sto → Res (List D)} {sd : Sl} {S : Sto} {Q : D → Sto → Prop} {X : Exc → Sto → Prop} : Wp (dBm T g fo fs  sd S) Q X = Wp ((fo sd S).bind fun d S1 => if isTy T d S1 then (fs sd S1).bind fun ds S2 => g d ds S2 else .stuck) Q X := rfl
theorem z1X {ts : List String} {f : Sl → Sto → Res D} {sd : Sl} {S : Sto} {Q : D → Sto → Prop} {X : Exc → Sto → Prop} : Wp (dIsi ts f  sd S) Q X = Wp ((f sd S).bind fun d S1 => match tyS d S1 with
  | some t => .ok (.bl (ts.any fun b => isT t b)) S1
  | none => .stuck) Q X := rfl
theorem w_dFrz {f : Sl → Sto → Res D} {sd : Sl} {S : Sto} {Q : D → Sto → Prop} {X : Exc → Sto → Prop} : Wp (dFrz f  sd S) Q X = Wp ((f sd S).bind fun d S1 => frzD S d S1) Q X := rfl
theorem z1b {f : Sl → Sto → Res (List D)} {sd : Sl} {S : Sto} {Q : D → Sto → Prop} {X : Exc → Sto → Prop} : Wp (dLstF f  sd S) Q X = Wp ((f sd S).bind fun ds S1 => if ds.length ≤ sizeLine then .ok (.frl ds) S1 else .stuck) Q X := rfl
theorem zH {f : Sl → Sto → Res D} {g h : Sl → Sto → Res (Option Int)} {sd : Sl} {S : Sto} {Q : D → Sto → Prop} {X : Exc → Sto → Prop} : Wp (dSliceF f g h  sd S) Q X = Wp ((f sd S).bind fun x S1 => (g sd S1).bind fun lo S2 => (h sd S2).bind fun hi S3 => sliceF x lo hi S3) Q X := rfl
-- z1T, w_dC, z1L, z1i, z1W, z1Y, w_d2, z2o, w_d3, z2m, z1Z, z1e, z1J, z1g, z1U, z2p, z1G, z2n, z1V, z1f, z1M, z2q, z1I, z1m, z1R, z1K, z1N, z1c, zL, z1a, z1Q, z1S, zN, z1j, zP, zM, w_dComp, z19, z1h, z1l, z1d, zR, z16, z1O, z18, z1n, zK, z17, z15, zO, zI, w_dExF, w_dExI, z1k, z2r, z1X, w_dFrz, z1b, zH

section
variable {S : Sto} {Q : D → Sto → Prop} {X : Exc → Sto → Prop}
theorem z2g {a b : Int} : Wp (addD (.int a) (.int b) S) Q X = Q (.int (a + b)) S := rfl
theorem z2i {a b : Int} : Wp (subD (.int a) (.int b) S) Q X = Q (.int (a - b)) S := rfl
theorem w_modI {a b : Int} (h : 0 < b) : Wp (modD (.int a) (.int b) S) Q X = Q (.int (a % b)) S := by simp only [modD, if_pos h]; rfl
theorem w_fdivI {a b : Int} (h : fdOk b = true) : Wp (fdivD (.int a) (.int b) S) Q X = Q (.int (a / b)) S := by simp only [fdivD, if_pos h]; rfl
theorem w_mulI {a b : Int} (h : (bnd 63 a || bnd 63 b) = true) : Wp (mulD (.int a) (.int b) S) Q X = Q (.int (a * b)) S := by simp only [mulD, if_pos h]; rfl
theorem z2F {a b : Int} : Wp (ltD (.int a) (.int b) S) Q X = Q (.bl (decide (a < b))) S := rfl
theorem z2D {a b : Int} : Wp (leD (.int a) (.int b) S) Q X = Q (.bl (decide (a ≤ b))) S := rfl
theorem z2B {a b : Int} : Wp (gtD (.int a) (.int b) S) Q X = Q (.bl (decide (b < a))) S := rfl
theorem z2L {a b : Int} : Wp (geD (.int a) (.int b) S) Q X = Q (.bl (decide (b ≤ a))) S := rfl
theorem z2y {a b : Int} : Wp (eqD (.int a) (.int b) S) Q X = Q (.bl (decide (a = b))) S := rfl
theorem z2H {a b : Int} : Wp (neD (.int a) (.int b) S) Q X = Q (.bl (!decide (a = b))) S := rfl
theorem z2t {a b : Str} : Wp (eqD (.str a) (.str b) S) Q X = Q (.bl (decide (a = b))) S := rfl
theorem z2A {a b : Str} : Wp (neD (.str a) (.str b) S) Q X = Q (.bl (!decide (a = b))) S := rfl
theorem z29 {ds : List D} : Wp (lenD [.tup ds] S) Q X = Q (.int (ds.length : Nat)) S := rfl
theorem z1P {ds : List D} : Wp (lenD [.frl ds] S) Q X = Q (.int (ds.length : Nat)) S := rfl
theorem w_lenS {z : Str} (h : z.length ≤ sizeLine) : Wp (lenD [.str z] S) Q X = Q (.int (z.length : Nat)) S := by simp only [lenD, if_pos h]; rfl
theorem z1H {ds : List D} {i : Int} : Wp (ixD (.tup ds) (.int i) S) Q X = Wp (match atI ds i with
  | some d => .ok d S
  | none => .stuck) Q X := rfl
theorem z2f {ds : List D} {i : Int} : Wp (ixD (.frl ds) (.int i) S) Q X = Wp (match atI ds i with
  | some d => .ok d S
  | none => .stuck) Q X := rfl
theorem w_ixL2 {l : Nat} {ds : List D} {i : Int} (hl : S[l]? = some (.lst ds)) : Wp (ixD (.ref l) (.int i) S) Q X = Wp (match atI ds i with
  | some d => .ok d S
  | none => .stuck) Q X := by simp only [ixD, hl] <;> rfl
theorem w_setL2 {l : Nat} {ds : List D} {i : Int} {v : D} {Q : Unit → Sto → Prop} (hl : S[l]? = some (.lst ds)) : Wp (setD (.ref l) (.int i) v S) Q X = Wp (match ixN ds.length i with
  | some j => .ok () (S.set l (.lst (ds.set j v)))
  | none => .stuck) Q X := by simp only [setD, hl] <;> rfl
end
theorem w_getF {cs : List Nat} {f : Str} {l c : Nat} {fs : List (Str × D)} {v : D} {S : Sto} {Q : D → Sto → Prop} {X : Exc → Sto → Prop} (h : S[l]? = some (.ins c fs)) (hc : c ∈ cs) (hv : fs.lookup f = some v) : Wp (getF cs f (.ref l) S) Q X = Q v S := by
  simp only [getF, h]
  rw [if_pos hc, hv]
  rfl
theorem z14 {α : Type} {xs : List α} {i : Int} (h : 0 ≤ i) : atI xs i = xs[i.toNat]? := by
  unfold atI ixN
  rw [if_pos h]
  by_cases hl : i < xs.length
  · rw [if_pos hl]; rfl
  · rw [if_neg hl]
    rw [List.getElem?_eq_none (by omega)]
    rfl
theorem z1r {n : Nat} {i : Int} (h : 0 ≤ i) (h2 : i < n) : ixN n i = some i.toNat := by
  unfold ixN
  rw [if_pos h, if_pos h2]
theorem set_same {S : Sto} {l : Nat} {o : DO} (h : l < S.length) : (S.set l o)[l]? = some o := by rw [List.getElem?_set_self h]
def Grow (S S' : Sto) : Prop := ∃ T, S' = S ++ T
theorem Grow.refl (S : Sto) : Grow S S := ⟨[], by simp⟩
theorem Grow.trans {A B C : Sto} (a : Grow A B) (b : Grow B C) : Grow A C := by
  obtain ⟨T, rfl⟩ := a
  obtain ⟨U, rfl⟩ := b
  exact ⟨T ++ U, by simp⟩
theorem Grow.one (S : Sto) (o : DO) : Grow S (S ++ [o]) := ⟨[o], rfl⟩
theorem Grow.get {S S' : Sto} (g : Grow S S') {l : Nat} {o : DO} (h : S[l]? = some o) : S'[l]? = some o := by
  obtain ⟨T, rfl⟩ := g
  rw [List.getElem?_append_left (List.getElem?_eq_some_iff.mp h).1]; exact h
theorem Grow.len {S S' : Sto} (g : Grow S S') : S.length ≤ S'.length := by
  obtain ⟨T, rfl⟩ := g
  simp
theorem set_last {S : Sto} {o o' : DO} : (S ++ [o]).set S.length o' = S ++ [o'] := by
  rw [List.set_append_right _ _ (Nat.le_refl _)]
  simp
theorem c_0 : ((0 : Nat) : Int) = 0 := rfl
theorem c_1 : ((1 : Nat) : Int) = 1 := rfl
theorem c_2 : ((2 : Nat) : Int) = 2 := rfl
theorem c_3 : ((3 : Nat) : Int) = 3 := rfl
theorem c_4 : ((4 : Nat) : Int) = 4 := rfl
theorem c_5 : ((5 : Nat) : Int) = 5 := rfl
theorem c_6 : ((6 : Nat) : Int) = 6 := rfl
theorem c_7 : ((7 : Nat) : Int) = 7 := rfl
theorem c_8 : ((8 : Nat) : Int) = 8 := rfl
theorem c_9 : ((9 : Nat) : Int) = 9 := rfl
theorem c_10 : ((10 : Nat) : Int) = 10 := rfl
theorem c_11 : ((11 : Nat) : Int) = 11 := rfl
theorem c_12 : ((12 : Nat) : Int) = 12 := rfl
theorem sz_0 : (0 ≤ sizeLine) = True := eq_true (by rw [sizeLine_eq]; omega)
theorem sz_1 : (1 ≤ sizeLine) = True := eq_true (by rw [sizeLine_eq]; omega)
theorem sz_2 : (2 ≤ sizeLine) = True := eq_true (by rw [sizeLine_eq]; omega)
theorem sz_3 : (3 ≤ sizeLine) = True := eq_true (by rw [sizeLine_eq]; omega)
theorem sz_4 : (4 ≤ sizeLine) = True := eq_true (by rw [sizeLine_eq]; omega)
theorem sz_5 : (5 ≤ sizeLine) = True := eq_true (by rw [sizeLine_eq]; omega)
theorem sz_6 : (6 ≤ sizeLine) = True := eq_true (by rw [sizeLine_eq]; omega)
theorem sz_7 : (7 ≤ sizeLine) = True := eq_true (by rw [sizeLine_eq]; omega)
theorem sz_8 : (8 ≤ sizeLine) = True := eq_true (by rw [sizeLine_eq]; omega)
theorem sz_9 : (9 ≤ sizeLine) = True := eq_true (by rw [sizeLine_eq]; omega)
theorem z2J : (10 ≤ sizeLine) = True := eq_true (by rw [sizeLine_eq]; omega)
theorem z2I : (11 ≤ sizeLine) = True := eq_true (by rw [sizeLine_eq]; omega)
theorem z2E : (12 ≤ sizeLine) = True := eq_true (by rw [sizeLine_eq]; omega)
theorem z2s : (13 ≤ sizeLine) = True := eq_true (by rw [sizeLine_eq]; omega)
theorem z2x : (14 ≤ sizeLine) = True := eq_true (by rw [sizeLine_eq]; omega)
theorem z2z : (15 ≤ sizeLine) = True := eq_true (by rw [sizeLine_eq]; omega)
theorem z2w : (16 ≤ sizeLine) = True := eq_true (by rw [sizeLine_eq]; omega)
theorem z1s {a b : Int} {S : Sto} {Q : D → Sto → Prop} {X : Exc → Sto → Prop} : Wp (addF (.int a) (.int b) S) Q X = Q (.int (a + b)) S := rfl
theorem zU {a b : List D} {S : Sto} {Q : D → Sto → Prop} {X : Exc → Sto → Prop} : Wp (addF (.frl a) (.frl b) S) Q X = Wp (if a.length + b.length ≤ sizeLine then .ok (.frl (a ++ b)) S else .stuck) Q X := rfl
theorem z12 {a b : List D} {S : Sto} {Q : D → Sto → Prop} {X : Exc → Sto → Prop} : Wp (addF (.tup a) (.tup b) S) Q X = Wp (if a.length + b.length ≤ sizeLine then .ok (.tup (a ++ b)) S else .stuck) Q X := rfl
theorem w_addS {a b : Str} {S : Sto} {Q : D → Sto → Prop} {X : Exc → Sto → Prop} (h : a.length + b.length ≤ sizeLine) : Wp (addD (.str a) (.str b) S) Q X = Q (.str (a ++ b)) S := by simp only [addD, if_pos h]; rfl
theorem z28 {i : Int} {S0 S : Sto} {Q : D → Sto → Prop} {X : Exc → Sto → Prop} : Wp (frzD S0 (.int i) S) Q X = Q (.int i) S := rfl
theorem z2b {i : Str} {S0 S : Sto} {Q : D → Sto → Prop} {X : Exc → Sto → Prop} : Wp (frzD S0 (.str i) S) Q X = Q (.str i) S := rfl
theorem z2c {i : List D} {S0 S : Sto} {Q : D → Sto → Prop} {X : Exc → Sto → Prop} : Wp (frzD S0 (.tup i) S) Q X = Q (.tup i) S := rfl
theorem z20 {i : List D} {S0 S : Sto} {Q : D → Sto → Prop} {X : Exc → Sto → Prop} : Wp (frzD S0 (.frl i) S) Q X = Q (.frl i) S := rfl
theorem z2k {S0 S : Sto} {Q : D → Sto → Prop} {X : Exc → Sto → Prop} : Wp (frzD S0 .non S) Q X = Q .non S := rfl
theorem z21 {i : Bool} {S0 S : Sto} {Q : D → Sto → Prop} {X : Exc → Sto → Prop} : Wp (frzD S0 (.bl i) S) Q X = Q (.bl i) S := rfl
theorem get_last {S : Sto} {o : DO} : (S ++ [o])[S.length]? = some o := by simp
theorem za : ((["tuple", "list"] : List String).any fun b => isT "int" b) = false := by decide +kernel
theorem zb : ((["tuple", "list"] : List String).any fun b => isT "str" b) = false := by decide +kernel
theorem z4 : ((["tuple", "list"] : List String).any fun b => isT "tuple" b) = true := by decide +kernel
theorem z7 : ((["tuple", "list"] : List String).any fun b => isT "list" b) = true := by decide +kernel
theorem z5 : ((["tuple", "list"] : List String).any fun b => isT "bool" b) = false := by decide +kernel
theorem z3 : ((["tuple", "list"] : List String).any fun b => isT "NoneType" b) = false := by decide +kernel
theorem zw : ((["list"] : List String).any fun b => isT "int" b) = false := by decide +kernel
theorem zy : ((["list"] : List String).any fun b => isT "str" b) = false := by decide +kernel
theorem zi : ((["list"] : List String).any fun b => isT "tuple" b) = false := by decide +kernel
theorem zr : ((["list"] : List String).any fun b => isT "list" b) = true := by decide +kernel
theorem zp : ((["list"] : List String).any fun b => isT "bool" b) = false := by decide +kernel
theorem z8 : ((["list"] : List String).any fun b => isT "NoneType" b) = false := by decide +kernel
theorem zn : ((["tuple"] : List String).any fun b => isT "int" b) = false := by decide +kernel
theorem zj : ((["tuple"] : List String).any fun b => isT "str" b) = false := by decide +kernel
theorem ze : ((["tuple"] : List String).any fun b => isT "tuple" b) = true := by decide +kernel
theorem zg : ((["tuple"] : List String).any fun b => isT "list" b) = false := by decide +kernel
theorem zh : ((["tuple"] : List String).any fun b => isT "bool" b) = false := by decide +kernel
theorem z6 : ((["tuple"] : List String).any fun b => isT "NoneType" b) = false := by decide +kernel
theorem zz : ((["bool"] : List String).any fun b => isT "int" b) = false := by decide +kernel
theorem zu : ((["bool"] : List String).any fun b => isT "str" b) = false := by decide +kernel
theorem zf : ((["bool"] : List String).any fun b => isT "tuple" b) = false := by decide +kernel
theorem zq : ((["bool"] : List String).any fun b => isT "list" b) = false := by decide +kernel
theorem zo : ((["bool"] : List String).any fun b => isT "bool" b) = true := by decide +kernel
theorem z9 : ((["bool"] : List String).any fun b => isT "NoneType" b) = false := by decide +kernel
theorem zD : ((["int"] : List String).any fun b => isT "int" b) = true := by decide +kernel
theorem zE : ((["int"] : List String).any fun b => isT "str" b) = false := by decide +kernel
theorem zm : ((["int"] : List String).any fun b => isT "tuple" b) = false := by decide +kernel
theorem zt : ((["int"] : List String).any fun b => isT "list" b) = false := by decide +kernel
theorem zA : ((["int"] : List String).any fun b => isT "bool" b) = true := by decide +kernel
theorem zc : ((["int"] : List String).any fun b => isT "NoneType" b) = false := by decide +kernel
theorem zG : ((["str"] : List String).any fun b => isT "int" b) = false := by decide +kernel
theorem zB : ((["str"] : List String).any fun b => isT "str" b) = true := by decide +kernel
theorem zl : ((["str"] : List String).any fun b => isT "tuple" b) = false := by decide +kernel
theorem zv : ((["str"] : List String).any fun b => isT "list" b) = false := by decide +kernel
theorem zx : ((["str"] : List String).any fun b => isT "bool" b) = false := by decide +kernel
theorem zd : ((["str"] : List String).any fun b => isT "NoneType" b) = false := by decide +kernel
theorem z2j {i : Int} {S : Sto} : tyS (.int i) S = some "int" := rfl
theorem z2a {i : Str} {S : Sto} : tyS (.str i) S = some "str" := rfl
theorem zS {i : List D} {S : Sto} : tyS (.tup i) S = some "tuple" := rfl
theorem z1E {i : List D} {S : Sto} : tyS (.frl i) S = some "list" := rfl
theorem z1q {i : Bool} {S : Sto} : tyS (.bl i) S = some "bool" := rfl
theorem z25 {S : Sto} : tyS .non S = some "NoneType" := rfl
theorem z2C {a b : Bool} {S : Sto} {Q : D → Sto → Prop} {X : Exc → Sto → Prop} : Wp (eqD (.bl a) (.bl b) S) Q X = Q (.bl (decide (a = b))) S := rfl
theorem z2u {a b : Bool} {S : Sto} {Q : D → Sto → Prop} {X : Exc → Sto → Prop} : Wp (neD (.bl a) (.bl b) S) Q X = Q (.bl (!decide (a = b))) S := rfl
theorem z2G {x : D} {S : Sto} {Q : D → Sto → Prop} {X : Exc → Sto → Prop} : Wp (isD x .non S) Q X = Q (.bl (decide (x = .non))) S := by cases x <;> rfl
theorem zY {x : D} {S : Sto} {Q : D → Sto → Prop} {X : Exc → Sto → Prop} : Wp (isNotD x .non S) Q X = Q (.bl (!decide (x = .non))) S := by cases x <;> rfl
theorem z26 {i : Int} : (D.int i = D.non) = False := eq_false (by intro h; cases h)
theorem z2d {i : Str} : (D.str i = D.non) = False := eq_false (by intro h; cases h)
theorem zT {i : List D} : (D.tup i = D.non) = False := eq_false (by intro h; cases h)
theorem z1p {i : List D} : (D.frl i = D.non) = False := eq_false (by intro h; cases h)
theorem z1D {i : Bool} : (D.bl i = D.non) = False := eq_false (by intro h; cases h)
end DL

namespace DL
open PySem PySem.Spec PyProof.Rows L2
end DL

namespace DL
open PySem PySem.Spec PyProof.Rows L2
theorem Wp.noExc {α : Type} {r : Res α} {Q : α → Sto → Prop} {X : Exc → Sto → Prop} (h : Wp r Q (fun _ _ => False)) : Wp r.noExc Q X := by
  cases r with
  | ok a S => exact h
  | exc x S => exact h.elim
  | stuck => exact h.elim
theorem w_while {fc : Sl → Sto → Res Bool} {fb : Sl → Sto → Res Fl} {Q : Fl → Sto → Prop} {X : Exc → Sto → Prop} (I : Nat → Sl → Sto → Prop)
    (h : ∀ n sd S, I n sd S → Wp (fc sd S) (fun b S1 => if b = true then Wp (fb sd S1) (fun fl S2 => match fl with
      | .nx sd2 => ∃ k, k < n ∧ I k sd2 S2
      | .cnt sd2 => ∃ k, k < n ∧ I k sd2 S2
      | .brk sd2 => Q (.nx sd2) S2
      | .ret d => Q (.ret d) S2) X else Q (.nx sd) S1) X) :
    ∀ (f n : Nat) (sd : Sl) (S : Sto), n < f → I n sd S → Wp (whileD fc fb f sd S) Q X := by
  intro f
  induction f with
  | zero => intro n sd S hn _; omega
  | succ f ih =>
    intro n sd S hn hi
    unfold whileD
    rw [z1F]
    refine Wp.mono (h n sd S hi) (fun b S1 h1 => ?_) fun _ _ z => z
    show Wp (if b then _ else _) Q X
    cases b with
    | false => rw [if_neg (by simp)] at h1; exact h1
    | true =>
      rw [if_pos rfl] at h1
      show Wp ((fb sd S1).bind _) Q X
      rw [z1F]
      refine Wp.mono h1 (fun fl S2 h2 => ?_) fun _ _ z => z
      show Wp (match fl with
        | .nx sd2 => whileD fc fb f sd2 S2
        | .cnt sd2 => whileD fc fb f sd2 S2
        | .brk sd2 => .ok (.nx sd2) S2
        | .ret d => .ok (.ret d) S2) Q X
      cases fl with
      | nx sd2 => obtain ⟨k, hk, hi2⟩ := h2; exact ih k sd2 S2 (by omega) hi2
      | cnt sd2 => obtain ⟨k, hk, hi2⟩ := h2; exact ih k sd2 S2 (by omega) hi2
      | brk sd2 => exact h2
      | ret d => exact h2
def TD : Nat → D → Prop
  | _, .str w => PyData.strOk w = true
  | _, .int _ => True
  | n + 1, .tup ds => ∀ d ∈ ds, TD n d
  | _, _ => False
theorem TD.up : ∀ {n : Nat} {d : D}, TD n d → TD (n + 1) d
  | _, .str w, h => by cases ‹Nat› <;> exact h
  | _, .int _, _ => by cases ‹Nat› <;> trivial
  | n + 1, .tup ds, h => fun d hd => TD.up (h d hd)
  | 0, .tup _, h => h.elim
  | 0, .non, h => h.elim
  | 0, .bl _, h => h.elim
  | 0, .frl _, h => h.elim
  | 0, .ref _, h => h.elim
  | 0, .exn _ _ _ _, h => h.elim
  | _ + 1, .non, h => h.elim
  | _ + 1, .bl _, h => h.elim
  | _ + 1, .frl _, h => h.elim
  | _ + 1, .ref _, h => h.elim
  | _ + 1, .exn _ _ _ _, h => h.elim
theorem TD.le {n m : Nat} {d : D} (h : n ≤ m) (t : TD n d) : TD m d := by
  induction h with
  | refl => exact t
  | step _ ih => exact ih.up
theorem mapO_all {f : D → Option PyData} {P : PyData → Prop} : ∀ (ds : List D), (∀ d ∈ ds, ∃ p, f d = some p ∧ P p) → ∃ ps, mapO f ds = some ps ∧ (∀ p ∈ ps, P p) ∧ ps.length = ds.length
  | [], _ => ⟨[], rfl, (fun _ h => nomatch h), rfl⟩
  | d :: ds, h => by
    obtain ⟨p, e, hp⟩ := h d (by simp)
    obtain ⟨ps, e2, h2, h3⟩ := mapO_all ds fun x hx => h x (by simp [hx])
    refine ⟨p :: ps, ?_, ?_, by simp [h3]⟩
    · unfold mapO; rw [e, e2]
    · intro x hx
      rcases List.mem_cons.mp hx with rfl | hx
      · exact hp
      · exact h2 x hx
theorem lay_all : ∀ {ps : List PyData}, (∀ p ∈ ps, p.canLay0 = true) → PyData.canLayAll0 ps = true
  | [], _ => by simp [PyData.canLayAll0]
  | p :: ps, h => by
    simp only [PyData.canLayAll0, Bool.and_eq_true]
    exact ⟨h p (by simp), lay_all fun x hx => h x (by simp [hx])⟩
theorem depth_all {n : Nat} : ∀ {ps : List PyData}, (∀ p ∈ ps, p.depth ≤ n) → PyData.depthAll ps ≤ n
  | [], _ => by simp [PyData.depthAll]
  | p :: ps, h => by
    simp only [PyData.depthAll]
    exact Nat.max_le.mpr ⟨h p (by simp), depth_all fun x hx => h x (by simp [hx])⟩
theorem TD.toP {S : Sto} : ∀ {n m : Nat} {d : D}, TD n d → n ≤ m → ∃ p, DL.toP S m d = some p ∧ (p.canLay0 = true ∧ p.depth ≤ n)
  | n, m, .str w, h, _ => by
    have h' : PyData.strOk w = true := by cases n <;> exact h
    exact ⟨.str w, by cases m <;> rfl, by simp [PyData.canLay0, h'], by simp [PyData.depth]⟩
  | n, m, .int i, _, _ => ⟨.int i, by cases m <;> rfl, by simp [PyData.canLay0], by simp [PyData.depth]⟩
  | n + 1, 0, .tup ds, _, hm => by omega
  | n + 1, m + 1, .tup ds, h, hm => by
    obtain ⟨ps, e, hp, _⟩ := mapO_all (f := DL.toP S m) (P := fun p => p.canLay0 = true ∧ p.depth ≤ n) ds fun d hd => TD.toP (h d hd) (by omega)
    refine ⟨.tuple ps, ?_, ?_, ?_⟩
    · show (mapO (DL.toP S m) ds).map PyData.tuple = _
      rw [e]; rfl
    · simp only [PyData.canLay0]; exact lay_all fun p h => (hp p h).1
    · simp only [PyData.depth]; exact Nat.succ_le_succ (depth_all fun p h => (hp p h).2)
  | 0, _, .tup _, h, _ => h.elim
  | 0, _, .non, h, _ => h.elim
  | 0, _, .bl _, h, _ => h.elim
  | 0, _, .frl _, h, _ => h.elim
  | 0, _, .ref _, h, _ => h.elim
  | 0, _, .exn _ _ _ _, h, _ => h.elim
  | _ + 1, _, .non, h, _ => h.elim
  | _ + 1, _, .bl _, h, _ => h.elim
  | _ + 1, _, .frl _, h, _ => h.elim
  | _ + 1, _, .ref _, h, _ => h.elim
  | _ + 1, _, .exn _ _ _ _, h, _ => h.elim
end DL

namespace DL
open PySem PySem.Spec PyProof.Rows L2
def W (l : List Nat) : Str := ⟨l.toArray⟩
theorem W_cps (l : List Nat) : (W l).cps.toList = l := by simp [W]
theorem W_inj {a b : List Nat} : W a = W b ↔ a = b := ⟨fun h => by have := congrArg (fun s : Str => s.cps.toList) h; simpa [W_cps] using this, fun h => by rw [h]⟩
theorem W_app (a b : List Nat) : W a ++ W b = W (a ++ b) := by
  show (⟨(W a).cps ++ (W b).cps⟩ : Str) = _
  simp [W]
theorem W_len (l : List Nat) : (W l).length = l.length := by simp [W, Str.length]
theorem W_empty : Str.ofString "" = W [] := by decide +kernel
theorem W_01 : Str.ofString "01" = W [48, 49] := by decide +kernel
theorem W_0 : Str.ofString "0" = W [48] := by decide +kernel
theorem W_1 : Str.ofString "1" = W [49] := by decide +kernel
theorem W_dash : Str.ofString "-" = W [45] := by decide +kernel
def Wok (l : List Nat) : Prop := ∀ c ∈ l, c < 1114112
theorem strOk_W {l : List Nat} (h : Wok l) : PyData.strOk (W l) = true := by
  unfold PyData.strOk
  rw [Array.all_eq_true_iff_forall_mem]
  intro c hc
  exact decide_eq_true (h c (by simpa [W] using hc))
def GD : Nat → D → Prop
  | _, .str w => PyData.strOk w = true
  | _, .int _ => True
  | _, .non => True
  | n + 1, .tup ds => ∀ d ∈ ds, GD n d
  | n + 1, .frl ds => ∀ d ∈ ds, GD n d
  | _, _ => False
theorem gd_int {n : Nat} {i : Int} : GD n (.int i) := by cases n <;> trivial
theorem gd_non {n : Nat} : GD n .non := by cases n <;> trivial
theorem gd_str {n : Nat} {w : Str} (h : PyData.strOk w = true) : GD n (.str w) := by cases n <;> exact h
theorem gd_W {n : Nat} {l : List Nat} (h : Wok l) : GD n (.str (W l)) := gd_str (strOk_W h)
theorem gd_tup {n : Nat} {ds : List D} (h : ∀ d ∈ ds, GD n d) : GD (n + 1) (.tup ds) := h
theorem gd_frl {n : Nat} {ds : List D} (h : ∀ d ∈ ds, GD n d) : GD (n + 1) (.frl ds) := h
theorem GD.up : ∀ {n : Nat} {d : D}, GD n d → GD (n + 1) d
  | _, .str w, h => by cases ‹Nat› <;> exact h
  | _, .int _, _ => gd_int
  | _, .non, _ => gd_non
  | n + 1, .tup ds, h => fun d hd => GD.up (h d hd)
  | n + 1, .frl ds, h => fun d hd => GD.up (h d hd)
  | 0, .tup _, h => h.elim
  | 0, .frl _, h => h.elim
  | 0, .bl _, h => h.elim
  | 0, .ref _, h => h.elim
  | 0, .exn _ _ _ _, h => h.elim
  | _ + 1, .bl _, h => h.elim
  | _ + 1, .ref _, h => h.elim
  | _ + 1, .exn _ _ _ _, h => h.elim
theorem GD.le {n m : Nat} {d : D} (t : GD n d) (h : n ≤ m) : GD m d := by
  induction h with
  | refl => exact t
  | step _ ih => exact ih.up
mutual
def pd : D → PyData
  | .non => .none
  | .bl b => .bool b
  | .int i => .int i
  | .str x => .str x
  | .tup ds => .tuple (pds ds)
  | .frl ds => .list (pds ds)
  | .ref _ => .none
  | .exn _ _ _ _ => .none
def pds : List D → List PyData
  | [] => []
  | d :: ds => pd d :: pds ds
end
theorem mapO_pd {f : D → Option PyData} : ∀ (ds : List D), (∀ d ∈ ds, f d = some (pd d)) → mapO f ds = some (pds ds)
  | [], _ => rfl
  | d :: ds, h => by
    unfold mapO
    rw [h d (by simp), mapO_pd ds fun x hx => h x (by simp [hx])]
    rfl
theorem gd_toP {S : Sto} : ∀ {n k : Nat} {d : D}, GD n d → n ≤ k → toP S k d = some (pd d)
  | n, k, .str w, _, _ => by cases k <;> rfl
  | n, k, .int _, _, _ => by cases k <;> rfl
  | n, k, .non, _, _ => by cases k <;> rfl
  | n + 1, 0, .tup ds, _, hk => by omega
  | n + 1, 0, .frl ds, _, hk => by omega
  | n + 1, k + 1, .tup ds, h, hk => by
    show (mapO (toP S k) ds).map PyData.tuple = _
    rw [mapO_pd ds fun d hd => gd_toP (h d hd) (by omega)]; rfl
  | n + 1, k + 1, .frl ds, h, hk => by
    show (mapO (toP S k) ds).map PyData.list = _
    rw [mapO_pd ds fun d hd => gd_toP (h d hd) (by omega)]; rfl
  | 0, _, .tup _, h, _ => h.elim
  | 0, _, .frl _, h, _ => h.elim
  | 0, _, .bl _, h, _ => h.elim
  | 0, _, .ref _, h, _ => h.elim
  | 0, _, .exn _ _ _ _, h, _ => h.elim
  | _ + 1, _, .bl _, h, _ => h.elim
  | _ + 1, _, .ref _, h, _ => h.elim
  | _ + 1, _, .exn _ _ _ _, h, _ => h.elim
theorem pds_mem : ∀ {ds : List D} {p : PyData}, p ∈ pds ds → ∃ d ∈ ds, p = pd d
  | [], _, h => by cases h
  | d :: ds, p, h => by
    have h' : p ∈ pd d :: pds ds := h
    rcases List.mem_cons.mp h' with rfl | h'
    · exact ⟨d, by simp, rfl⟩
    · obtain ⟨e, he, rfl⟩ := pds_mem h'
      exact ⟨e, by simp [he], rfl⟩
theorem gd_lay : ∀ {n : Nat} {d : D}, GD n d → (pd d).canLay0 = true ∧ (pd d).depth ≤ n
  | n, .str w, h => by
    have h' : PyData.strOk w = true := by cases n <;> exact h
    exact ⟨by simp [pd, PyData.canLay0, h'], by simp [pd, PyData.depth]⟩
  | n, .int _, _ => ⟨by simp [pd, PyData.canLay0], by simp [pd, PyData.depth]⟩
  | n, .non, _ => ⟨by simp [pd, PyData.canLay0], by simp [pd, PyData.depth]⟩
  | n + 1, .tup ds, h => by
    have key : ∀ p ∈ pds ds, p.canLay0 = true ∧ p.depth ≤ n := fun p hp => by
      obtain ⟨d, hd, rfl⟩ := pds_mem hp
      exact gd_lay (h d hd)
    refine ⟨?_, ?_⟩
    · simp only [pd, PyData.canLay0]; exact lay_all fun p h => (key p h).1
    · simp only [pd, PyData.depth]; exact Nat.succ_le_succ (depth_all fun p h => (key p h).2)
  | n + 1, .frl ds, h => by
    have key : ∀ p ∈ pds ds, p.canLay0 = true ∧ p.depth ≤ n := fun p hp => by
      obtain ⟨d, hd, rfl⟩ := pds_mem hp
      exact gd_lay (h d hd)
    refine ⟨?_, ?_⟩
    · simp only [pd, PyData.canLay0]; exact lay_all fun p h => (key p h).1
    · simp only [pd, PyData.depth]; exact Nat.succ_le_succ (depth_all fun p h => (key p h).2)
  | 0, .tup _, h => h.elim
  | 0, .frl _, h => h.elim
  | 0, .bl _, h => h.elim
  | 0, .ref _, h => h.elim
  | 0, .exn _ _ _ _, h => h.elim
  | _ + 1, .bl _, h => h.elim
  | _ + 1, .ref _, h => h.elim
  | _ + 1, .exn _ _ _ _, h => h.elim
theorem gd_shaped {n : Nat} {d : D} (h : GD n d) (hn : n ≤ 64) : SeqAt.shaped (pd d) = true := by
  unfold SeqAt.shaped
  obtain ⟨a, b⟩ := gd_lay h
  rw [a, decide_eq_true (Nat.le_trans b hn)]; rfl
mutual
theorem eqv_pd : ∀ (x y : D) {n m : Nat}, GD n x → GD m y → PyData.eqv (pd x) (pd y) = decide (x = y)
  | .non, .non, _, _, _, _ => by simp [pd, PyData.eqv]
  | .int a, .int b, _, _, _, _ => by by_cases h : a = b <;> simp [pd, PyData.eqv, h]
  | .str a, .str b, _, _, _, _ => by by_cases h : a = b <;> simp [pd, PyData.eqv, h]
  | .tup a, .tup b, 0, _, h, _ => h.elim
  | .tup a, .tup b, _ + 1, 0, _, h => h.elim
  | .tup a, .tup b, n + 1, m + 1, h, h2 => by
    simp only [pd, PyData.eqv]
    rw [eqv_pds a b h h2]
    by_cases e : a = b <;> simp [e]
  | .frl a, .frl b, 0, _, h, _ => h.elim
  | .frl a, .frl b, _ + 1, 0, _, h => h.elim
  | .frl a, .frl b, n + 1, m + 1, h, h2 => by
    simp only [pd, PyData.eqv]
    rw [eqv_pds a b h h2]
    by_cases e : a = b <;> simp [e]
  | .non, .int _, _, _, _, _ => by simp [pd, PyData.eqv]
  | .non, .str _, _, _, _, _ => by simp [pd, PyData.eqv]
  | .non, .tup _, _, _, _, _ => by simp [pd, PyData.eqv]
  | .non, .frl _, _, _, _, _ => by simp [pd, PyData.eqv]
  | .int _, .non, _, _, _, _ => by simp [pd, PyData.eqv]
  | .int _, .str _, _, _, _, _ => by simp [pd, PyData.eqv]
  | .int _, .tup _, _, _, _, _ => by simp [pd, PyData.eqv]
  | .int _, .frl _, _, _, _, _ => by simp [pd, PyData.eqv]
  | .str _, .non, _, _, _, _ => by simp [pd, PyData.eqv]
  | .str _, .int _, _, _, _, _ => by simp [pd, PyData.eqv]
  | .str _, .tup _, _, _, _, _ => by simp [pd, PyData.eqv]
  | .str _, .frl _, _, _, _, _ => by simp [pd, PyData.eqv]
  | .tup _, .non, _, _, _, _ => by simp [pd, PyData.eqv]
  | .tup _, .int _, _, _, _, _ => by simp [pd, PyData.eqv]
  | .tup _, .str _, _, _, _, _ => by simp [pd, PyData.eqv]
  | .tup _, .frl _, _, _, _, _ => by simp [pd, PyData.eqv]
  | .frl _, .non, _, _, _, _ => by simp [pd, PyData.eqv]
  | .frl _, .int _, _, _, _, _ => by simp [pd, PyData.eqv]
  | .frl _, .str _, _, _, _, _ => by simp [pd, PyData.eqv]
  | .frl _, .tup _, _, _, _, _ => by simp [pd, PyData.eqv]
  | .bl _, _, n, _, h, _ => by cases n <;> exact h.elim
  | .ref _, _, n, _, h, _ => by cases n <;> exact h.elim
  | .exn _ _ _ _, _, n, _, h, _ => by cases n <;> exact h.elim
  | _, .bl _, _, n, _, h => by cases n <;> exact h.elim
  | _, .ref _, _, n, _, h => by cases n <;> exact h.elim
  | _, .exn _ _ _ _, _, n, _, h => by cases n <;> exact h.elim
theorem eqv_pds : ∀ (xs ys : List D) {n m : Nat}, (∀ d ∈ xs, GD n d) → (∀ d ∈ ys, GD m d) → PyData.eqvAll (pds xs) (pds ys) = decide (xs = ys)
  | [], [], _, _, _, _ => by simp [pds, PyData.eqvAll]
  | [], _ :: _, _, _, _, _ => by simp [pds, PyData.eqvAll]
  | _ :: _, [], _, _, _, _ => by simp [pds, PyData.eqvAll]
  | x :: xs, y :: ys, n, m, hx, hy => by
    simp only [pds, PyData.eqvAll]
    rw [eqv_pd x y (hx x (by simp)) (hy y (by simp)), eqv_pds xs ys (fun d hd => hx d (by simp [hd])) (fun d hd => hy d (by simp [hd]))]
    by_cases e : x = y <;> by_cases e2 : xs = ys <;> simp [e, e2]
end
theorem same_gd {x y : D} {S : Sto} {n m : Nat} (hx : GD n x) (hy : GD m y) (hn : n ≤ 60 := by decide) (hm : m ≤ 60 := by decide) : sameD x y S = some (decide (x = y)) := by
  have e1 := gd_toP (S := S) hx hn
  have e2 := gd_toP (S := S) hy hm
  have s1 := gd_shaped hx (by omega)
  have s2 := gd_shaped hy (by omega)
  have key : (match toP S 60 x, toP S 60 y with
    | some a, some b => if SeqAt.shaped a && SeqAt.shaped b then some (PyData.eqv a b) else none
    | _, _ => none) = some (decide (x = y)) := by
    rw [e1, e2]
    simp only [s1, s2, Bool.and_self, if_true]
    rw [eqv_pd x y hx hy]
  unfold sameD
  split
  · simp
  · simp
  · simp
  · exact key
theorem w_eqG {x y : D} {S : Sto} {Q : D → Sto → Prop} {X : Exc → Sto → Prop} {n m : Nat} (hx : GD n x) (hy : GD m y) (hn : n ≤ 60 := by decide) (hm : m ≤ 60 := by decide) : Wp (eqD x y S) Q X = Q (.bl (decide (x = y))) S := by
  simp only [eqD, same_gd hx hy hn hm]; rfl
theorem w_neG {x y : D} {S : Sto} {Q : D → Sto → Prop} {X : Exc → Sto → Prop} {n m : Nat} (hx : GD n x) (hy : GD m y) (hn : n ≤ 60 := by decide) (hm : m ≤ 60 := by decide) : Wp (neD x y S) Q X = Q (.bl (!decide (x = y))) S := by
  simp only [neD, same_gd hx hy hn hm]; rfl
mutual
theorem gd_blw {k : Nat} : ∀ {n : Nat} (d : D), GD n d → d.blw k = true
  | _, .str _, _ => rfl
  | _, .int _, _ => rfl
  | _, .non, _ => rfl
  | n + 1, .tup ds, h => gd_blws ds h
  | n + 1, .frl ds, h => gd_blws ds h
  | 0, .tup _, h => h.elim
  | 0, .frl _, h => h.elim
  | 0, .bl _, h => h.elim
  | 0, .ref _, h => h.elim
  | 0, .exn _ _ _ _, h => h.elim
  | _ + 1, .bl _, h => h.elim
  | _ + 1, .ref _, h => h.elim
  | _ + 1, .exn _ _ _ _, h => h.elim
theorem gd_blws {k : Nat} : ∀ {n : Nat} (ds : List D), (∀ d ∈ ds, GD n d) → D.blws k ds = true
  | _, [], _ => rfl
  | n, d :: ds, h => by
    show (D.blw k d && D.blws k ds) = true
    rw [gd_blw d (h d (by simp)), gd_blws ds fun x hx => h x (by simp [hx])]; rfl
end
theorem blws_all {k : Nat} : ∀ {ds : List D}, (∀ d ∈ ds, d.blw k = true) → D.blws k ds = true
  | [], _ => rfl
  | d :: ds, h => by
    show (D.blw k d && D.blws k ds) = true
    rw [h d (by simp), blws_all fun x hx => h x (by simp [hx])]; rfl
theorem any_eqv {x : D} {n : Nat} (hx : GD n x) : ∀ (ds : List D) {m : Nat}, (∀ d ∈ ds, GD m d) → ((pds ds).any fun z => PyData.eqv z (pd x)) = decide (x ∈ ds)
  | [], _, _ => by simp [pds]
  | d :: ds, m, h => by
    show (PyData.eqv (pd d) (pd x) || (pds ds).any fun z => PyData.eqv z (pd x)) = _
    rw [eqv_pd d x (h d (by simp)) hx, any_eqv hx ds fun y hy => h y (by simp [hy])]
    by_cases e : d = x
    · simp [e]
    · have e' : ¬ x = d := fun z => e z.symm
      simp [e, e']
theorem has_frl {x : D} {ds : List D} {S : Sto} {n m : Nat} (hx : GD n x) (hd : ∀ d ∈ ds, GD m d) (hn : n ≤ 60 := by decide) (hm : m ≤ 59 := by decide) : hasD x (.frl ds) S = some (decide (x ∈ ds)) := by
  have e1 := gd_toP (S := S) hx hn
  have e2 : mapO (toP S 60) ds = some (pds ds) := mapO_pd ds fun d h => gd_toP (hd d h) (by omega)
  have s1 := gd_shaped hx (by omega)
  have s2 : SeqAt.shaped (.list (pds ds)) = true := gd_shaped (d := .frl ds) (n := m + 1) hd (by omega)
  unfold hasD
  split
  · cases ‹D.frl ds = _›
  · cases ‹D.frl ds = _›
  · simp only [lsD, e1, e2, s1, s2, Bool.and_self, if_true]
    rw [any_eqv hx ds hd]
theorem has_sign {c : Nat} {l : List Nat} {S : Sto} : hasD (.str (W [c])) (.str (W l)) S = some (decide (c ∈ l)) := by
  simp only [hasD, W_cps]
theorem flat_strs {x : List Nat} : ∀ ys : List (List Nat), ((ys.map fun y => D.str (W y)).all flatD = true) ∧ ((ys.map fun y => D.str (W y)).any fun d => eqF d (.str (W x))) = decide (x ∈ ys)
  | [] => by simp
  | y :: ys => by
    obtain ⟨h1, h2⟩ := flat_strs (x := x) ys
    refine ⟨by rw [List.map_cons, List.all_cons, h1]; rfl, ?_⟩
    rw [List.map_cons, List.any_cons, h2]
    show ((W y == W x) || _) = _
    by_cases e : y = x
    · simp [e]
    · have e1 : (W y == W x) = false := by rw [beq_eq_false_iff_ne]; exact fun z => e (W_inj.mp z)
      have e' : ¬ x = y := fun z => e z.symm
      simp [e1, e']
theorem has_strs {x : List Nat} {ys : List (List Nat)} {S : Sto} : hasD (.str (W x)) (.tup (ys.map fun y => .str (W y))) S = some (decide (x ∈ ys)) := by
  obtain ⟨h1, h2⟩ := flat_strs (x := x) ys
  simp only [hasD]
  rw [h1, h2]
  rfl
theorem has_two {x a b : List Nat} {S : Sto} : hasD (.str (W x)) (.tup [.str (W a), .str (W b)]) S = some (decide (x = a ∨ x = b)) := by
  have := has_strs (x := x) (ys := [a, b]) (S := S)
  simpa using this
theorem cutOk_app (S T : Sto) : cutOk S (S ++ T) = true := by
  unfold cutOk
  rw [Bool.and_eq_true]
  refine ⟨decide_eq_true (by simp), List.all_eq_true.mpr fun i hi => ?_⟩
  have hi' := List.mem_range.mp hi
  unfold sameO
  rw [List.getElem?_append_left hi', decide_eq_true rfl, Bool.true_or]
theorem cutOk_set (S T : Sto) (l : Nat) (o : DO) (ho : o.blw S.length = true) : cutOk S (S.set l o ++ T) = true := by
  unfold cutOk
  rw [Bool.and_eq_true]
  refine ⟨decide_eq_true (by simp), List.all_eq_true.mpr fun i hi => ?_⟩
  have hi' := List.mem_range.mp hi
  unfold sameO
  rw [List.getElem?_append_left (by simpa using hi')]
  by_cases e : l = i
  · subst e
    rw [List.getElem?_set_self hi']
    simp [ho]
  · rw [List.getElem?_set_ne e, decide_eq_true rfl, Bool.true_or]
theorem cut_app {d : D} {S T : Sto} (h : d.blw S.length = true) : cutR S (.ok d (S ++ T)) = .ok d S := by
  simp only [cutR]
  rw [if_pos (cutOk_app S T), if_pos h, List.take_left]
theorem cut_set {d : D} {S T : Sto} {l : Nat} {o : DO} (h : d.blw S.length = true) (ho : o.blw S.length = true) : cutR S (.ok d (S.set l o ++ T)) = .ok d (S.set l o) := by
  simp only [cutR]
  rw [if_pos (cutOk_set S T l o ho), if_pos h]
  congr 1
  rw [List.take_append_of_le_length (by simp)]
  exact List.take_of_length_le (by simp)
def NX : Exc → Sto → Prop := fun _ _ => False
theorem fn_ok {n : Nat} {b : Sl → Sto → Res Fl} {ds : List D} {S : Sto} {v : D} (hv : v.blw S.length = true) (h : Wp (b (startD n ds) S) (kFn fun d S' => d = v ∧ ∃ T, S' = S ++ T) NX) : cutF (dFn n b) ds S = .ok v S := by
  have h' : Wp (dFn n b ds S) (fun d S' => d = v ∧ ∃ T, S' = S ++ T) NX := by rw [z2l]; exact h
  obtain ⟨d, S', e, rfl, T, rfl⟩ := Wp.ok h'
  unfold cutF
  rw [e, cut_app hv]
theorem app_nil (S : Sto) : ∃ T, S = S ++ T := ⟨[], by simp⟩
theorem frz_last {S : Sto} {xs : List D} (h : D.blws S.length xs = true) : frzD S (.ref S.length) (S ++ [.lst xs]) = .ok (.frl xs) S := by
  unfold frzD
  simp only [get_last]
  rw [if_pos ⟨Nat.le_refl _, cutOk_app S _, h⟩, List.take_left]
theorem ok_of_wp {α : Type} {r : Res α} {Q : α → Sto → Prop} (h : Wp r Q NX) : ∃ a S, r = .ok a S ∧ Q a S := Wp.ok h
theorem compF {α : Type} (xs : List α) (en : α → D) (P : α → Bool) (f : α → D) {vs : List Nat} {fi : Sl → Sto → Res ItD} {ga : D → Sl → Sto → Res Sl} {ft : Sl → Sto → Res Bool} {fe : Sl → Sto → Res D} {sd : Sl} {S : Sto}
    (hi : Wp (fi sd S) (fun it S1 => S1 = S ∧ it.items = xs.map en ∧ ∀ S', Grow S S' → it.chk S' = true) NX) (hl : (xs.filter P).length ≤ sizeLine)
    (hx : ∀ a ∈ xs, ∀ S', Grow S S' → Wp (ga (en a) (wipeD sd vs) S') (fun sd1 S1 => S1 = S' ∧ Wp (ft sd1 S') (fun b S2 => S2 = S' ∧ b = P a ∧ (P a = true → Wp (fe sd1 S') (fun y S3 => S3 = S' ∧ y = f a) NX)) NX) NX)
    (hb : ∀ a ∈ xs, P a = true → (f a).blw S.length = true) : dFrz (dComp vs fi ga ft fe) sd S = .ok (.frl ((xs.filter P).map f)) S := by
  obtain ⟨it, S1, e1, rfl, e2, e3⟩ := ok_of_wp hi
  have key : ∀ (ys : List α) (acc : List D), (∀ a ∈ ys, a ∈ xs) → acc.length + (ys.filter P).length ≤ sizeLine → compD it.chk ga ft fe S1.length (wipeD sd vs) (ys.map en) (S1 ++ [.lst acc]) = .ok () (S1 ++ [.lst (acc ++ (ys.filter P).map f)]) := by
    intro ys
    induction ys with
    | nil =>
      intro acc _ _
      show (if it.chk (S1 ++ [.lst acc]) = true then Res.ok () (S1 ++ [.lst acc]) else .stuck) = _
      rw [if_pos (e3 _ (Grow.one _ _))]
      simp
    | cons a ys ih =>
      intro acc hm hlen
      obtain ⟨sd1, S2, g1, rfl, h2⟩ := ok_of_wp (hx a (hm a (by simp)) (S1 ++ [.lst acc]) (Grow.one _ _))
      obtain ⟨b, S3, g2, rfl, rfl, h3⟩ := ok_of_wp h2
      rw [List.map_cons]
      unfold compD
      rw [if_pos (e3 _ (Grow.one _ _)), g1]
      simp only [Res.noExc, Res.bind, g2]
      cases hp : P a with
      | false =>
        rw [List.filter_cons_of_neg (by simp [hp])] at hlen ⊢
        rw [if_neg (by simp), ih acc (fun z hz => hm z (by simp [hz])) hlen]
      | true =>
        rw [List.filter_cons_of_pos hp] at hlen ⊢
        have hlen' : acc.length + 1 + (ys.filter P).length ≤ sizeLine := by simp at hlen; omega
        obtain ⟨y, S4, g3, rfl, rfl⟩ := ok_of_wp (h3 hp)
        rw [if_pos rfl, g3]
        simp only [Res.noExc, Res.bind]
        rw [List.getElem?_append_right (Nat.le_refl _)]
        simp only [Nat.sub_self, List.getElem?_cons_zero]
        rw [if_pos (by omega), set_last, ih (acc ++ [f a]) (fun z hz => hm z (by simp [hz])) (by simp; omega)]
        simp
  unfold dFrz dComp
  rw [e1]
  show ((compD it.chk ga ft fe S1.length (wipeD sd vs) it.items (S1 ++ [.lst []])).bind fun _ S2 => Res.ok (D.ref S1.length) S2).bind _ = _
  rw [e2, key xs [] (fun _ h => h) (by simpa using hl)]
  show frzD S1 (.ref S1.length) (S1 ++ [.lst ([] ++ (xs.filter P).map f)]) = _
  rw [List.nil_append, frz_last]
  refine blws_all fun d hd => ?_
  obtain ⟨a, ha, rfl⟩ := List.mem_map.mp hd
  exact hb a (List.mem_filter.mp ha).1 (List.mem_filter.mp ha).2
theorem filt_true {α : Type} : ∀ l : List α, l.filter (fun _ => true) = l
  | [] => rfl
  | a :: l => by rw [List.filter_cons_of_pos rfl, filt_true l]
theorem compM {α : Type} (xs : List α) (en : α → D) (f : α → D) {vs : List Nat} {fi : Sl → Sto → Res ItD} {ga : D → Sl → Sto → Res Sl} {fe : Sl → Sto → Res D} {sd : Sl} {S : Sto}
    (hi : Wp (fi sd S) (fun it S1 => S1 = S ∧ it.items = xs.map en ∧ ∀ S', Grow S S' → it.chk S' = true) NX) (hl : xs.length ≤ sizeLine)
    (hx : ∀ a ∈ xs, ∀ S', Grow S S' → Wp (ga (en a) (wipeD sd vs) S') (fun sd1 S1 => S1 = S' ∧ Wp (fe sd1 S') (fun y S3 => S3 = S' ∧ y = f a) NX) NX)
    (hb : ∀ a ∈ xs, (f a).blw S.length = true) : dFrz (dComp vs fi ga tYesD fe) sd S = .ok (.frl (xs.map f)) S := by
  have := compF (vs := vs) (ga := ga) (fe := fe) (ft := tYesD) xs en (fun _ => true) f hi (by rw [filt_true]; exact hl) (fun a ha S' g => ?_) (fun a ha _ => hb a ha)
  · rw [this, filt_true]
  · refine Wp.mono (hx a ha S' g) (fun sd1 S1 h => ⟨h.1, ?_⟩) fun _ _ z => z
    exact ⟨rfl, rfl, fun _ => h.2⟩
theorem w_loopP {α : Type} (en : α → D) (I : List α → Sl → Sto → Prop) (xs : List α) {chk : Sto → Bool} {ga : D → Sl → Sto → Res Sl} {fb : Sl → Sto → Res Fl} {Q : Fl → Sto → Prop} {X : Exc → Sto → Prop} {sd : Sl} {S : Sto}
    (hc : ∀ pre post sd S, xs = pre ++ post → I pre sd S → chk S = true) (hs : I [] sd S) (h0 : ∀ sd S, I xs sd S → Q (.nx sd) S)
    (h1 : ∀ pre a post sd S, xs = pre ++ a :: post → I pre sd S → Wp (ga (en a) sd S) (fun sd1 S1 => Wp (fb sd1 S1) (fun fl S2 => match fl with
      | .nx sd2 => I (pre ++ [a]) sd2 S2
      | .cnt sd2 => I (pre ++ [a]) sd2 S2
      | .brk sd2 => Q (.nx sd2) S2
      | .ret d => Q (.ret d) S2) X) X) : Wp (loopD chk ga fb (xs.map en) sd S) Q X := by
  refine w_loop (fun ds sd S => ∃ pre post, xs = pre ++ post ∧ ds = post.map en ∧ I pre sd S) ?_ ?_ ?_ _ _ _ ⟨[], xs, rfl, rfl, hs⟩
  · rintro ds sd S ⟨pre, post, e, _, h⟩
    exact hc pre post sd S e h
  · rintro sd S ⟨pre, post, e, e2, h⟩
    have : post = [] := by simpa using e2.symm
    subst this
    rw [List.append_nil] at e
    subst e
    exact h0 sd S h
  · rintro x ds sd S ⟨pre, post, e, e2, h⟩
    cases post with
    | nil => cases e2
    | cons a post =>
      rw [List.map_cons] at e2
      cases e2
      refine Wp.mono (h1 pre a post sd S e h) (fun sd1 S1 h2 => Wp.mono h2 (fun fl S2 h3 => ?_) fun _ _ z => z) fun _ _ z => z
      have ea : xs = (pre ++ [a]) ++ post := by rw [e]; simp
      cases fl with
      | nx sd2 => exact ⟨_, _, ea, rfl, h3⟩
      | cnt sd2 => exact ⟨_, _, ea, rfl, h3⟩
      | brk sd2 => exact h3
      | ret d => exact h3
inductive All2 {α β : Type} (P : α → β → Prop) : List α → List β → Prop where
  | nil : All2 P [] []
  | cons {a b as bs} : P a b → All2 P as bs → All2 P (a :: as) (b :: bs)
theorem All2.len {α β : Type} {P : α → β → Prop} {as : List α} {bs : List β} (h : All2 P as bs) : bs.length = as.length := by
  induction h with
  | nil => rfl
  | cons _ _ ih => simp [ih]
theorem All2.mem {α β : Type} {P : α → β → Prop} {as : List α} {bs : List β} (h : All2 P as bs) : ∀ b ∈ bs, ∃ a ∈ as, P a b := by
  induction h with
  | nil => intro b hb; cases hb
  | cons h _ ih =>
    intro b hb
    rcases List.mem_cons.mp hb with rfl | hb
    · exact ⟨_, by simp, h⟩
    · obtain ⟨a, ha, hp⟩ := ih b hb
      exact ⟨a, by simp [ha], hp⟩
theorem All2.ex {α β γ : Type} {P : α → β → Prop} {f : γ → β} {as : List α} {bs : List β} (h : All2 P as bs) (hp : ∀ a ∈ as, ∀ b, P a b → ∃ c, b = f c) : ∃ cs : List γ, bs = cs.map f := by
  induction h with
  | nil => exact ⟨[], rfl⟩
  | cons h1 _ ih =>
    obtain ⟨cs, rfl⟩ := ih fun a ha => hp a (by simp [ha])
    obtain ⟨c, rfl⟩ := hp _ (by simp) _ h1
    exact ⟨c :: cs, rfl⟩
theorem none_dec {α β : Type} [DecidableEq β] {p : α → Bool} {f : α → β} : ∀ l : List α, decide ((l.filter p).map f = []) = l.all fun a => !p a
  | [] => by simp
  | a :: l => by
    cases hp : p a with
    | true => rw [List.filter_cons_of_pos hp, List.all_cons, hp]; simp
    | false => rw [List.filter_cons_of_neg (by simp [hp]), none_dec l, List.all_cons, hp]; simp
theorem gd_nil : GD 1 (.frl []) := fun d hd => by cases hd
theorem gd_map {α : Type} {n : Nat} {f : α → D} {l : List α} (h : ∀ a ∈ l, GD n (f a)) : ∀ d ∈ l.map f, GD n d := fun d hd => by
  obtain ⟨a, ha, rfl⟩ := List.mem_map.mp hd
  exact h a ha
theorem w_eqNil {α : Type} {p : α → Bool} {f : α → D} {l : List α} {n : Nat} {S : Sto} {Q : D → Sto → Prop} {X : Exc → Sto → Prop} (h : ∀ a ∈ l, GD n (f a)) (hn : n ≤ 59 := by decide) : Wp (eqD (.frl ((l.filter p).map f)) (.frl []) S) Q X = Q (.bl (l.all fun a => !p a)) S := by
  rw [w_eqG (n := n + 1) (m := 1) (gd_frl (gd_map fun a ha => h a (List.mem_filter.mp ha).1)) gd_nil (by omega)]
  rw [show decide (D.frl ((l.filter p).map f) = D.frl []) = l.all (fun a => !p a) from by
    rw [← none_dec (p := p) (f := f) l]; simp]
theorem w_neNil {α : Type} {p : α → Bool} {f : α → D} {l : List α} {n : Nat} {S : Sto} {Q : D → Sto → Prop} {X : Exc → Sto → Prop} (h : ∀ a ∈ l, GD n (f a)) (hn : n ≤ 59 := by decide) : Wp (neD (.frl ((l.filter p).map f)) (.frl []) S) Q X = Q (.bl (!l.all fun a => !p a)) S := by
  rw [w_neG (n := n + 1) (m := 1) (gd_frl (gd_map fun a ha => h a (List.mem_filter.mp ha).1)) gd_nil (by omega)]
  rw [show decide (D.frl ((l.filter p).map f) = D.frl []) = l.all (fun a => !p a) from by
    rw [← none_dec (p := p) (f := f) l]; simp]
theorem w_enumP {α : Type} (en : α → D) (I : List α → Sl → Sto → Prop) (xs : List α) {chk : Sto → Bool} {ga : D → Sl → Sto → Res Sl} {fb : Sl → Sto → Res Fl} {Q : Fl → Sto → Prop} {X : Exc → Sto → Prop} {sd : Sl} {S : Sto}
    (hc : ∀ pre post sd S, xs = pre ++ post → I pre sd S → chk S = true) (hs : I [] sd S) (h0 : ∀ sd S, I xs sd S → Q (.nx sd) S)
    (h1 : ∀ pre a post sd S, xs = pre ++ a :: post → I pre sd S → Wp (ga (.tup [.int (pre.length : Nat), en a]) sd S) (fun sd1 S1 => Wp (fb sd1 S1) (fun fl S2 => match fl with
      | .nx sd2 => I (pre ++ [a]) sd2 S2
      | .cnt sd2 => I (pre ++ [a]) sd2 S2
      | .brk sd2 => Q (.nx sd2) S2
      | .ret d => Q (.ret d) S2) X) X) : Wp (loopD chk ga fb (enumL 0 (xs.map en)) sd S) Q X := by
  refine w_loop (fun ds sd S => ∃ pre post, xs = pre ++ post ∧ ds = enumL pre.length (post.map en) ∧ I pre sd S) ?_ ?_ ?_ _ _ _ ⟨[], xs, rfl, rfl, hs⟩
  · rintro ds sd S ⟨pre, post, e, _, h⟩
    exact hc pre post sd S e h
  · rintro sd S ⟨pre, post, e, e2, h⟩
    have : post = [] := by
      cases post with
      | nil => rfl
      | cons a post => simp [enumL] at e2
    subst this
    rw [List.append_nil] at e
    subst e
    exact h0 sd S h
  · rintro x ds sd S ⟨pre, post, e, e2, h⟩
    cases post with
    | nil => cases e2
    | cons a post =>
      rw [List.map_cons] at e2
      cases e2
      refine Wp.mono (h1 pre a post sd S e h) (fun sd1 S1 h2 => Wp.mono h2 (fun fl S2 h3 => ?_) fun _ _ z => z) fun _ _ z => z
      have ea : xs = (pre ++ [a]) ++ post := by rw [e]; simp
      have el : enumL (pre.length + 1) (post.map en) = enumL (pre ++ [a]).length (post.map en) := by simp
      cases fl with
      | nx sd2 => exact ⟨_, _, ea, el, h3⟩
      | cnt sd2 => exact ⟨_, _, ea, el, h3⟩
      | brk sd2 => exact h3
      | ret d => exact h3
theorem w_rangeP (I : Nat → Sl → Sto → Prop) (lo : Int) (n : Nat) {chk : Sto → Bool} {ga : D → Sl → Sto → Res Sl} {fb : Sl → Sto → Res Fl} {Q : Fl → Sto → Prop} {X : Exc → Sto → Prop} {sd : Sl} {S : Sto}
    (hc : ∀ i sd S, i ≤ n → I i sd S → chk S = true) (hs : I 0 sd S) (h0 : ∀ sd S, I n sd S → Q (.nx sd) S)
    (h1 : ∀ i sd S, i < n → I i sd S → Wp (ga (.int (lo + (i : Nat))) sd S) (fun sd1 S1 => Wp (fb sd1 S1) (fun fl S2 => match fl with
      | .nx sd2 => I (i + 1) sd2 S2
      | .cnt sd2 => I (i + 1) sd2 S2
      | .brk sd2 => Q (.nx sd2) S2
      | .ret d => Q (.ret d) S2) X) X) : Wp (loopD chk ga fb (rangeL lo n) sd S) Q X := by
  unfold rangeL
  refine w_loopP (fun i : Nat => D.int (lo + (i : Nat))) (fun pre sd S => I pre.length sd S) (List.range n) ?_ hs ?_ ?_
  · intro pre post sd S e h
    exact hc pre.length sd S (by have := congrArg List.length e; simp at this; omega) h
  · intro sd S h
    rw [List.length_range] at h
    exact h0 sd S h
  · intro pre a post sd S e h
    have ha : a = pre.length := by
      have h1 : (List.range n)[pre.length]? = some a := by rw [e]; simp
      rw [List.getElem?_range (by have := congrArg List.length e; simp at this; omega)] at h1
      exact (Option.some.inj h1).symm
    have hn : pre.length < n := by have := congrArg List.length e; simp at this; omega
    subst ha
    have el : (pre ++ [pre.length]).length = pre.length + 1 := by simp
    refine Wp.mono (h1 pre.length sd S hn h) (fun sd1 S1 h2 => Wp.mono h2 (fun fl S2 h3 => ?_) fun _ _ z => z) fun _ _ z => z
    cases fl with
    | nx sd2 => show I _ sd2 S2; rw [el]; exact h3
    | cnt sd2 => show I _ sd2 S2; rw [el]; exact h3
    | brk sd2 => exact h3
    | ret d => exact h3
def SD : Nat → D → Prop
  | _, .str w => PyData.strOk w = true
  | _, .int _ => True
  | _, .non => True
  | n + 1, .tup ds => ds.length ≤ 1000000000 ∧ ∀ d ∈ ds, SD n d
  | n + 1, .frl ds => ds.length ≤ 1000000000 ∧ ∀ d ∈ ds, SD n d
  | _, _ => False
theorem sd_int {n : Nat} {i : Int} : SD n (.int i) := by cases n <;> trivial
theorem sd_non {n : Nat} : SD n .non := by cases n <;> trivial
theorem SD.up : ∀ {n : Nat} {d : D}, SD n d → SD (n + 1) d
  | _, .str w, h => by cases ‹Nat› <;> exact h
  | _, .int _, _ => sd_int
  | _, .non, _ => sd_non
  | n + 1, .tup ds, h => ⟨h.1, fun d hd => SD.up (h.2 d hd)⟩
  | n + 1, .frl ds, h => ⟨h.1, fun d hd => SD.up (h.2 d hd)⟩
  | 0, .tup _, h => h.elim
  | 0, .frl _, h => h.elim
  | 0, .bl _, h => h.elim
  | 0, .ref _, h => h.elim
  | 0, .exn _ _ _ _, h => h.elim
  | _ + 1, .bl _, h => h.elim
  | _ + 1, .ref _, h => h.elim
  | _ + 1, .exn _ _ _ _, h => h.elim
theorem SD.le {n m : Nat} {d : D} (t : SD n d) (h : n ≤ m) : SD m d := by
  induction h with
  | refl => exact t
  | step _ ih => exact ih.up
theorem rng_ok {n : Nat} (h : n ≤ 1000000000) : bnd 62 ((n : Nat) : Int) = true := bnd_of ⟨by omega, by omega⟩
theorem rng_okI {n : Int} (h0 : -1000000000 ≤ n) (h : n ≤ 1000000000) : bnd 62 n = true := bnd_of ⟨by omega, by omega⟩
theorem mul_okI {n : Int} (h0 : -1000000000 ≤ n) (h : n ≤ 1000000000) : bnd 63 n = true := bnd_of ⟨by omega, by omega⟩
theorem mul_r {a b : Int} (h : bnd 63 b = true) : (bnd 63 a || bnd 63 b) = true := by rw [h, Bool.or_true]
theorem fd_ok {b : Int} (h0 : 0 < b) (h : b < 10 ^ 40) : fdOk b = true := by
  refine fdOk_of ⟨h0, ?_⟩
  have h1 : b.natAbs < 2 ^ 200 := by
    have : (10 : Int) ^ 40 < 2 ^ 200 := by decide +kernel
    omega
  have := (Nat.log2_lt (show b.natAbs ≠ 0 by omega)).mpr h1
  omega
theorem rng_map {n : Nat} : rangeL 0 ((n : Nat) : Int).toNat = (List.range n).map fun i => D.int (0 + (i : Nat)) := by simp [rangeL]
end DL

namespace DL
open PySem PySem.Spec PyProof.Rows L2
section
variable {α : Type} {fk fv fo fe ff : Sl → Sto → Res D} {g fp : Sl → Sto → Res (List (D × D))} {kvs : List (Str × D)} {sd : Sl} {S : Sto} {X : Exc → Sto → Prop}
theorem z24 {Q : List (D × D) → Sto → Prop} : Wp (pNil sd S) Q X = Q [] S := rfl
theorem z1o {Q : List (D × D) → Sto → Prop} : Wp (pCons fk fv g sd S) Q X = Wp ((fk sd S).bind fun k S1 => (fv sd S1).bind fun v S2 => (g sd S2).bind fun ds S3 => .ok ((k, v) :: ds) S3) Q X := rfl
variable {Q : D → Sto → Prop}
theorem zF : Wp (dDispGet fp fe ff sd S) Q X = Wp ((fp sd S).bind fun ps S1 => match keysOk ps with
  | false => .stuck
  | true => (fe sd S1).bind fun y S2 => match (key0 y).isSome with
    | false => .stuck
    | true => (ff sd S2).bind fun z S3 => .ok ((dgl y ps none).getD z) S3) Q X := rfl
theorem z1u : Wp (dDisp fp sd S) Q X = Wp ((fp sd S).bind fun ps S1 => match keysOk ps && decide (ps.length ≤ 15) with
  | false => .stuck
  | true => .ok (.ref S1.length) (S1 ++ [.dic 0 (mergeD [] ps)])) Q X := rfl
theorem zQ : Wp (dDisp0 sd S) Q X = Q (.ref S.length) (S ++ [.dic 0 []]) := rfl
theorem z1t : Wp (dKget kvs fe ff sd S) Q X = Wp ((fe sd S).bind fun y S1 => match kdGet kvs y with
  | some r => (ff sd S1).bind fun x S2 => .ok (r.getD x) S2
  | none => .stuck) Q X := rfl
theorem z1B : Wp (dDget fo fe ff sd S) Q X = Wp ((fo sd S).bind fun x S1 => match dicD x (.int 0) S1 with
  | none => .stuck
  | some _ => (fe sd S1).bind fun y S2 => (ff sd S2).bind fun z S3 => match dicD x y S3 with
    | some r => .ok (r.getD z) S3
    | none => .stuck) Q X := rfl
theorem zC : keysOk [] = true := rfl
theorem zX {x : Str} {d : D} {ps : List (D × D)} : keysOk ((.str x, d) :: ps) = keysOk ps := by simp [keysOk, key0]
theorem z10 {x : Int} {d : D} {ps : List (D × D)} : keysOk ((.int x, d) :: ps) = keysOk ps := by simp [keysOk, key0]
theorem z2e {x : Str} : (key0 (.str x)).isSome = true := rfl
theorem z22 {x : Int} : (key0 (.int x)).isSome = true := rfl
theorem z1z {x : Str} : kdGet kvs (.str x) = some (kvs.lookup x) := rfl
theorem z1A {x : Int} : kdGet kvs (.int x) = some none := rfl
theorem z1y {y : D} {o : Option D} : dgl y [] o = o := rfl
theorem zV {y k v : D} {r : List (D × D)} {o : Option D} : dgl y ((k, v) :: r) o = dgl y r (if k = y then some v else o) := rfl
end
theorem cut_drop {ds : List D} {k : Nat} : cutL ds (some ((k : Nat) : Int)) none = ds.drop k := by
  unfold cutL
  have e : HT.sIx ds.length ds.length none = ds.length := rfl
  have e2 : HT.sIx ds.length 0 (some ((k : Nat) : Int)) = min k ds.length := by
    show (if ((k : Nat) : Int) < 0 then (((k : Nat) : Int) + (ds.length : Int)).toNat else min ((k : Nat) : Int).toNat ds.length) = _
    rw [if_neg (by omega)]
    simp
  rw [e, e2]
  by_cases h : k ≤ ds.length
  · rw [Nat.min_eq_left h, List.take_of_length_le (by simp)]
  · rw [Nat.min_eq_right (by omega), List.drop_eq_nil_of_le (by omega), List.drop_eq_nil_of_le (by omega)]; simp
theorem zW {ds : List D} : cutL ds none (some (-1)) = ds.dropLast := by
  unfold cutL
  have e : HT.sIx ds.length 0 none = 0 := rfl
  have e2 : HT.sIx ds.length ds.length (some (-1)) = ds.length - 1 := by
    show (if (-1 : Int) < 0 then ((-1 : Int) + (ds.length : Int)).toNat else min (-1 : Int).toNat ds.length) = _
    rw [if_pos (by decide)]
    omega
  rw [e, e2, List.drop_zero, Nat.sub_zero, List.dropLast_eq_take]
theorem zZ {ds : List D} : cutL ds (some (-1)) none = ds.drop (ds.length - 1) := by
  unfold cutL
  have e : HT.sIx ds.length ds.length none = ds.length := rfl
  have e2 : HT.sIx ds.length 0 (some (-1)) = ds.length - 1 := by
    show (if (-1 : Int) < 0 then ((-1 : Int) + (ds.length : Int)).toNat else min (-1 : Int).toNat ds.length) = _
    rw [if_pos (by decide)]
    omega
  rw [e, e2, List.take_of_length_le (by simp)]
theorem z11 {ds : List D} {lo hi : Option Int} {S : Sto} {Q : D → Sto → Prop} {X : Exc → Sto → Prop} : Wp (sliceD (.tup ds) lo hi S) Q X = Q (.tup (cutL ds lo hi)) S := rfl
theorem z1v {a b : List D} {S : Sto} {Q : D → Sto → Prop} {X : Exc → Sto → Prop} : Wp (addD (.tup a) (.tup b) S) Q X = Wp (if a.length + b.length ≤ sizeLine then .ok (.tup (a ++ b)) S else .stuck) Q X := rfl
theorem zJ {ds : List D} : cutL ds (some 1) none = ds.drop 1 := cut_drop (k := 1)
theorem w_appL {l : Nat} {xs : List D} {y : D} {S : Sto} {Q : D → Sto → Prop} {X : Exc → Sto → Prop} (hl : S[l]? = some (.lst xs)) (hz : xs.length < sizeLine) : Wp (appendD (.ref l) [y] S) Q X = Q .non (S.set l (.lst (xs ++ [y]))) := by
  simp only [appendD, hl]
  rw [if_pos hz]; rfl
end DL

namespace DL
open PySem PySem.Spec PyProof.Rows L2
theorem fn_new {n : Nat} {b : Sl → Sto → Res Fl} {ds : List D} {S : Sto} {xs : List D} (hb : D.blws S.length xs = true) (h : Wp (b (startD n ds) S) (kFn fun d S' => ∃ l T, d = .ref l ∧ S' = S ++ T ∧ S'[l]? = some (.lst xs) ∧ S.length ≤ l) NX) : cutF (dFn n b) ds S = .ok (.ref S.length) (S ++ [.lst xs]) := by
  have h' : Wp (dFn n b ds S) (fun d S' => ∃ l T, d = .ref l ∧ S' = S ++ T ∧ S'[l]? = some (.lst xs) ∧ S.length ≤ l) NX := by rw [z2l]; exact h
  obtain ⟨d, S', e, l, T, rfl, rfl, hl, hle⟩ := Wp.ok h'
  unfold cutF
  rw [e]
  simp only [cutR]
  rw [if_pos (cutOk_app S _), if_neg (by show ¬ decide (l < S.length) = true; simp; omega), hl]
  simp only
  rw [if_pos ⟨hb, hle⟩, List.take_left]
theorem flat_le {α β : Type} {f : α → List β} {n : Nat} : ∀ {l : List α}, (∀ x ∈ l, (f x).length ≤ n) → (l.flatMap f).length ≤ n * l.length
  | [], _ => by simp
  | x :: l, h => by
    rw [List.flatMap_cons, List.length_append, List.length_cons, Nat.mul_add, Nat.mul_one]
    have h1 := h x (by simp)
    have h2 := flat_le (l := l) fun y hy => h y (List.mem_cons_of_mem _ hy)
    omega
end DL

namespace DL
open PySem PySem.Spec PyProof.Rows L2
section
variable {α : Type} [DecidableEq α]
end
theorem has_ls {x y : D} {ds : List D} {S : Sto} {n m : Nat} (hl : lsD y S = some ds) (hx : GD n x) (hd : ∀ d ∈ ds, GD m d) (hn : n ≤ 60 := by decide) (hm : m ≤ 59 := by decide) : hasD x y S = some (decide (x ∈ ds)) := by
  have e1 := gd_toP (S := S) hx hn
  have e2 : mapO (toP S 60) ds = some (pds ds) := mapO_pd ds fun d h => gd_toP (hd d h) (by omega)
  have s1 := gd_shaped hx (by omega)
  have s2 : SeqAt.shaped (.list (pds ds)) = true := gd_shaped (d := .frl ds) (n := m + 1) hd (by omega)
  unfold hasD
  split
  · cases hl
  · cases hl
  · simp only [hl, e1, e2, s1, s2, Bool.and_self, if_true]
    rw [any_eqv hx ds hd]
theorem w_notInL {x y : D} {ds : List D} {S : Sto} {n m : Nat} {Q : D → Sto → Prop} {X : Exc → Sto → Prop} (hl : lsD y S = some ds) (hx : GD n x) (hd : ∀ d ∈ ds, GD m d) (hn : n ≤ 60 := by decide) (hm : m ≤ 59 := by decide) : Wp (notInD x y S) Q X = Q (.bl (!decide (x ∈ ds))) S := by
  simp only [notInD, has_ls hl hx hd hn hm]; rfl
theorem w_inL {x y : D} {ds : List D} {S : Sto} {n m : Nat} {Q : D → Sto → Prop} {X : Exc → Sto → Prop} (hl : lsD y S = some ds) (hx : GD n x) (hd : ∀ d ∈ ds, GD m d) (hn : n ≤ 60 := by decide) (hm : m ≤ 59 := by decide) : Wp (inD x y S) Q X = Q (.bl (decide (x ∈ ds))) S := by
  simp only [inD, has_ls hl hx hd hn hm]; rfl
theorem depth_allN {n : Nat} : ∀ {ks : List NestedKey}, (∀ k ∈ ks, k.depth ≤ n) → NestedKey.depthAll ks ≤ n
  | [], _ => by simp [NestedKey.depthAll]
  | k :: ks, h => by
    simp only [NestedKey.depthAll]
    exact Nat.max_le.mpr ⟨h k (by simp), depth_allN fun x hx => h x (by simp [hx])⟩
theorem td_nkey : ∀ {n : Nat} {d : D}, TD n d → ∃ k, nkey d = some k ∧ k.depth ≤ n
  | n, .str w, _ => ⟨.text w, by simp [nkey], by simp [NestedKey.depth]⟩
  | n, .int i, _ => ⟨.num i, by simp [nkey], by simp [NestedKey.depth]⟩
  | n + 1, .tup ds, h => by
    have key : ∀ ds : List D, (∀ d ∈ ds, TD n d) → ∃ ks, nkeys ds = some ks ∧ ∀ k ∈ ks, k.depth ≤ n := by
      intro ds
      induction ds with
      | nil => intro _; exact ⟨[], by simp [nkeys], fun _ h => by cases h⟩
      | cons d ds ih =>
        intro h
        obtain ⟨k, e, hk⟩ := td_nkey (h d (by simp))
        obtain ⟨ks, e2, h2⟩ := ih fun x hx => h x (by simp [hx])
        refine ⟨k :: ks, by simp [nkeys, e, e2], fun x hx => ?_⟩
        rcases List.mem_cons.mp hx with rfl | hx
        · exact hk
        · exact h2 x hx
    obtain ⟨ks, e, hk⟩ := key ds h
    refine ⟨.tup ks, by simp [nkey, e], ?_⟩
    simp only [NestedKey.depth]
    exact Nat.succ_le_succ (depth_allN hk)
  | 0, .tup _, h => h.elim
  | 0, .non, h => h.elim
  | 0, .bl _, h => h.elim
  | 0, .frl _, h => h.elim
  | 0, .ref _, h => h.elim
  | 0, .exn _ _ _ _, h => h.elim
  | _ + 1, .non, h => h.elim
  | _ + 1, .bl _, h => h.elim
  | _ + 1, .frl _, h => h.elim
  | _ + 1, .ref _, h => h.elim
  | _ + 1, .exn _ _ _ _, h => h.elim
theorem td_nok {n : Nat} {ds : List D} (h : TD n (.tup ds)) (hn : n ≤ 8 := by decide) : nokD (.tup ds) = true := by
  obtain ⟨k, e, hk⟩ := td_nkey h
  show (match nkey (D.tup ds) with
    | some k => decide (k.depth ≤ 8)
    | none => false) = true
  rw [e]
  exact decide_eq_true (by omega)
theorem td_str {n : Nat} {w : Str} (h : PyData.strOk w = true) : TD n (.str w) := by cases n <;> exact h
theorem td_W {n : Nat} {l : List Nat} (h : Wok l) : TD n (.str (W l)) := td_str (strOk_W h)
theorem td_map {α : Type} {n : Nat} {f : α → D} {l : List α} (h : ∀ a ∈ l, TD n (f a)) : ∀ d ∈ l.map f, TD n d := fun d hd => by
  obtain ⟨a, ha, rfl⟩ := List.mem_map.mp hd
  exact h a ha
theorem dicN_at {S : Sto} {kvs : List (D × D)} {k : D} {l : Nat} (hl : S[l]? = some (.dic 2 kvs)) (h : nokD k = true) : dicN (.ref l) k S = some (getK kvs k) := by
  simp only [dicN, hl, h]
theorem w_notInN {S : Sto} {k d : D} {r : Option D} {Q : D → Sto → Prop} {X : Exc → Sto → Prop} (h : dicN d k S = some r) : Wp (notInDicN k d S) Q X = Q (.bl (!r.isSome)) S := by
  simp only [notInDicN, h]; rfl
theorem w_ixN {S : Sto} {k d r : D} {Q : D → Sto → Prop} {X : Exc → Sto → Prop} (h : dicN d k S = some (some r)) : Wp (ixDicN d k S) Q X = Q r S := by
  simp only [ixDicN, h]; rfl
theorem w_setN {l : Nat} {kvs : List (D × D)} {k v : D} {S : Sto} {Q : Unit → Sto → Prop} {X : Exc → Sto → Prop} (hl : S[l]? = some (.dic 2 kvs)) (hk : nokD k = true) (hz : kvs.length ≤ sizeLine) : Wp (setDicN (.ref l) k v S) Q X = Q () (S.set l (.dic 2 (putD kvs k v))) := by
  simp only [setDicN, hl, hk, decide_eq_true hz, Bool.and_self]
  rfl
theorem w_dDispN {fk fv : Sl → Sto → Res D} {sd : Sl} {S : Sto} {Q : D → Sto → Prop} {X : Exc → Sto → Prop} : Wp (dDispN fk fv sd S) Q X = Wp ((fk sd S).bind fun k S1 => (fv sd S1).bind fun v S2 => match nokD k with
  | true => .ok (.ref S2.length) (S2 ++ [.dic 2 [(k, v)]])
  | false => .stuck) Q X := rfl
section
variable {α : Type} [DecidableEq α] {f : α → D}
def kvE (f : α → D) (kn : List (α × D)) : List (D × D) := kn.map fun p => (f p.1, p.2)
def getE (kn : List (α × D)) (x : α) : Option D := (kn.find? fun p => decide (p.1 = x)).map (·.2)
theorem getK_E (hf : ∀ a b, f a = f b → a = b) {x : α} : ∀ kn : List (α × D), getK (kvE f kn) (f x) = getE kn x
  | [] => rfl
  | q :: kn => by
    have ih := getK_E hf (x := x) kn
    unfold getK kvE getE at ih ⊢
    rw [List.map_cons, List.find?_cons, List.find?_cons]
    by_cases h : q.1 = x
    · simp [h]
    · have h' : ¬ f q.1 = f x := fun z => h (hf _ _ z)
      simp only [h', h, decide_false]
      exact ih
theorem getE_none {kn : List (α × D)} {x : α} (h : x ∉ kn.map (·.1)) : getE kn x = none := by
  unfold getE
  rw [List.find?_eq_none.mpr]
  · rfl
  · intro p hp
    rw [decide_eq_true_eq]
    exact fun e => h (List.mem_map.mpr ⟨p, hp, e⟩)
theorem putD_E (hf : ∀ a b, f a = f b → a = b) {x : α} {v : D} {kn : List (α × D)} (h : x ∉ kn.map (·.1)) : putD (kvE f kn) (f x) v = kvE f (kn ++ [(x, v)]) := by
  unfold putD
  have : (kvE f kn).any (fun q => decide (q.1 = f x)) = false := by
    rw [List.any_eq_false]
    intro q hq
    obtain ⟨a, ha, rfl⟩ := List.mem_map.mp hq
    show ¬ decide (f a.1 = f x) = true
    rw [decide_eq_true_eq]
    exact fun z => h (List.mem_map.mpr ⟨a, ha, hf _ _ z⟩)
  rw [this]
  simp [kvE]
end
end DL

namespace DL
open PySem PySem.Spec PyProof.Rows L2
section
variable {S : Sto} {sd : Sl} {Q : D → Sto → Prop} {X : Exc → Sto → Prop}
theorem w_ixDic3 {l : Nat} {k r : D} {kvs : List (D × D)} (h : S[l]? = some (.dic 3 kvs)) (hk : (key0 k).isSome = true) (hr : getK kvs k = some r) : Wp (ixDic3 (.ref l) k S) Q X = Q r S := by
  unfold ixDic3
  simp only [h, hk, hr]
  rfl
end
end DL

namespace DL
open PySem PySem.Spec PyProof.Rows L2 PySem.W
section
variable {cl : Cl} {X : Cx} {E : XK}
abbrev VP := V × PyData
theorem each_vals : ∀ {ps : List VP} {us : List Value}, Vals (ps.map (·.1)) us → EachIs (fun v p => RelV p.1 v) us ps
  | [], _, .nil => .nil
  | p :: ps, _, .cons r t => .cons r (each_vals t)
theorem vals_each : ∀ {ps : List VP} {us : List Value}, EachIs (fun v p => RelV p.1 v) us ps → Vals (ps.map (·.1)) us
  | [], _, .nil => .nil
  | p :: ps, _, .cons r t => .cons r (vals_each t)
theorem each_reads {pins : List (Addr × Obj)} {σ : L2.St} {H : Hp} {s : Shared} (I : Inv X pins σ H s) : ∀ {ps : List VP} {us : List Value}, (∀ p ∈ ps, Dp X.K H p.1 p.2) → Vals (ps.map (·.1)) us → EachIs (fun v p => ∃ as, Reads s.heap v p.2 as) us ps
  | [], _, _, .nil => .nil
  | p :: ps, _, h, .cons r t => .cons (Dp.reads I p.2 p.1 _ (h p List.mem_cons_self) r) (each_reads I (fun q hq => h q (List.mem_cons_of_mem _ hq)) t)
open Classical in
open Classical in
open Classical in
end
end DL

namespace DL
open PySem PySem.Spec PyProof.Rows L2
section
variable {cl : Cl} {X : Cx} {E : XK}
end
end DL

namespace DL
open PySem PySem.Spec PyProof.Rows L2
section
variable {cl : Cl} {X : Cx} {E : XK}
end
end DL

namespace DL
open PySem PySem.Spec PyProof.Rows L2
structure LamD (N : List Str) (sc scope : Scope) : Prop where
  kd : scope.kind = .function
  nco : scope.isCoroutine = false
  nge : scope.isGenerator = false
  nc : ∀ y ∈ scope.names, y.2 ≠ .cell
  nl : ∀ y ∈ scope.names, y.2 = .local → y.1 ∉ N
  tk : ∀ y ∈ scope.names, y.2 = .free → sc.names.lookup y.1 = some .cell ∨ sc.names.lookup y.1 = some .free
section
variable {X : Cx} {pins : List (Addr × Obj)} {σ : L2.St} {H : Hp} {s : Shared}
structure LamO (X : Cx) (H1 : Hp) (s1 : Shared) (params : Arguments) (body : Expr) (scope : Scope) (f t b : Addr) (u doc pm ctv : Value) : Prop where
  fo : s1.heap.get? f = some (PySem.W.kdv_obj "<lambda>" (X.env.qual ++ "<lambda>") params (.expr body) scope (cloFrom X.env.cells scope.names []) (.ref t) doc pm b ctv)
  fn : H1 f = none
  ff : f ∉ frs X.stack
  to : s1.heap.get? t = some (PySem.W.kdv_tup [u])
  tn : H1 t = none
  tf : t ∉ frs X.stack
  co : H1 b = some (LamX.CodeO b (X.env.qual ++ "<lambda>"))
variable {HZ : Hp} {sE : Shared}
end
section
variable {cl : Cl} {X : Cx}
open Classical in
end
end DL

namespace DL
open PySem PySem.Spec PyProof.Rows L2
section
variable {cl : Cl} {X : Cx} {E : XK}
variable {o e : Expr} {es : List Expr} {to : TE} {t : TA} {name : Str} {apos cpos : Pos} {id : String} {r : V → List V → Hp → VK → Prop}
end
end DL

namespace DL
open PySem PySem.Spec PyProof.Rows L2
structure LamI where
  params : Arguments
  body : Expr
  scope : Scope
  qual : Str
  own : Option Str
def LamIs (I : LamI) (clo : List (Str × Addr)) (H : Hp) (o : Obj) : Prop :=
  ∃ (dV doc pm ctv : Value) (b : Addr), o = PySem.W.kdv_obj "<lambda>" I.qual I.params (.expr I.body) I.scope clo dV doc pm b ctv ∧ H b = some (LamX.CodeO b I.qual) ∧
    match I.own with
    | none => dV = .none
    | some _ => ∃ t u g, dV = .ref t ∧ H t = some (.frz (PySem.W.kdv_tup [u]) g)
theorem LamIs.keep {I : LamI} {clo : List (Str × Addr)} {H H' : Hp} {o : Obj} (k : Keep H H') (h : LamIs I clo H o) : LamIs I clo H' o := by
  obtain ⟨dV, doc, pm, ctv, b, e, hb, hd⟩ := h
  refine ⟨dV, doc, pm, ctv, b, e, k _ _ hb imm_code, ?_⟩
  split at hd
  · exact hd
  · obtain ⟨t, u, g, e1, e2⟩ := hd
    exact ⟨t, u, g, e1, k _ _ e2 trivial⟩
section
variable {X : Cx} {pins : List (Addr × Obj)} {σ : L2.St} {H : Hp} {s : Shared}
end
section
variable {cl : Cl} {X : Cx} {E : XK}
end
structure LamOk (N : List Str) (sc : Scope) (I : LamI) : Prop where
  D : LamD N sc I.scope
  loc : ∀ z, I.own = some z → I.scope.names.lookup z = some .local
  bd0 : I.own = none → ∀ (sb : Shared) (cs : List (Str × Addr)) (doc pm cv ctv : Value), BindsTo sb (PySem.W.kdv_fn "<lambda>" I.qual I.params (.expr I.body) I.scope cs .none doc pm cv ctv) ⟨[], []⟩ []
  bd1 : ∀ z, I.own = some z → ∀ (sb : Shared) (cs : List (Str × Addr)) (t : Addr) (doc pm cv ctv u : Value), sb.heap.get? t = some (PySem.W.kdv_tup [u]) → BindsTo sb (PySem.W.kdv_fn "<lambda>" I.qual I.params (.expr I.body) I.scope cs (.ref t) doc pm cv ctv) ⟨[], []⟩ [(z, u)]
section
variable {X : Cx} {pins : List (Addr × Obj)} {σ : L2.St} {H : Hp} {s : Shared}
end
section
variable {cl : Cl} {X : Cx} {E : XK}
structure LamSet (cl : Cl) (X : Cx) (k : Nat) (fs : Nat → Option (Sl → Sto → Res D)) : Prop where
  all : ∀ (i : Nat) (fb : Sl → Sto → Res D), fs i = some fb → ∃ I : LamI, (∀ H o, cl.lam i H o → LamIs I (cloFrom X.env.cells I.scope.names []) H o) ∧ LamOk X.N X.env.scope I ∧ I.qual = X.env.qual ++ "<lambda>" ∧
    ∀ (A : Around) (outer : List Env) (s : Shared) (H : Hp) (E : XK) (f c' : Addr), Cok (LamX.lamCx X A outer s H E I.scope f c') E k → DE cl (LamX.lamCx X A outer s H E I.scope f c') E I.body fb
end
end DL

namespace DL
open PySem PySem.Spec PyProof.Rows L2
abbrev Cl.wl (cl : Cl) (lm : Nat → Hp → Obj → Prop) : Cl := ⟨cl.f, cl.T, cl.hh, lm⟩
section
variable {cl : Cl} {K : PySem.W.Frag} {m : List Addr} {H : Hp} {S : Sto} {lm : Nat → Hp → Obj → Prop}
theorem RO.lam (h : ∀ i H o, cl.lam i H o → lm i H o) {a : Addr} : ∀ {o : DO}, RO cl K m H o a → RO (cl.wl lm) K m H o a
  | .lst _, r => r
  | .dic 0 _, r => r
  | .dic 1 _, r => r
  | .dic 2 _, r => r
  | .dic 3 _, r => r
  | .dic 4 _, r => r
  | .dic 5 _, ⟨i, o, u, e0, e, r⟩ => ⟨i, o, u, e0, e, fun H' k => h _ _ _ (r H' k)⟩
  | .dic (_ + 6) _, r => r.elim
  | .ins _ _, r => r
  | .dead, r => r
theorem RS.lam (rs : RS cl K m S H) (h : ∀ i H o, cl.lam i H o → lm i H o) : RS (cl.wl lm) K m S H := ⟨rs.len, rs.nd, fun l o a h1 h2 => (rs.obj l o a h1 h2).lam h, rs.tb⟩
end
section
variable {cl : Cl} {X : Cx} {k : Nat}
end
end DL

namespace DL
open PySem PySem.Spec PyProof.Rows L2
section
variable {prog : Program} {w : World} {A : Around} {E : Value → Shared → Prop} {s : Shared} {K : PySem.W.Frag} {x C dx : Addr} {od : Option Obj} {z : Str} {t : Tok}
end
structure NoEq (K : PySem.W.Frag) (C : Addr) : Prop where
  mro : PySem.W.mroIn K C (.type "object") = some true
  eq : PySem.W.findIn K (.ref C) "__eq__" = some (some (.builtin "object.__eq__"))
section
variable {cl : Cl} {X : Cx}
end
end DL

namespace DL
open PySem PySem.Spec PyProof.Rows L2
section
variable {cl : Cl} {X : Cx}
end
end DL

namespace DL
open PySem PySem.Spec PyProof.Rows L2
structure NoTup (K : PySem.W.Frag) (C : Addr) : Prop where
  ha : PySem.W.findIn K (.ref C) "__class__" = some (some (.builtin "object.__class__"))
  hn : PySem.W.specialIn K (.builtin "object.__class__") "__get__" = some (some (.builtin "getset_descriptor.__get__"))
  htk : PySem.W.takesIn K (.builtin "object.__class__") = some true
  hm : PySem.W.mroIn K C (.type "object") = some true
  tu : PySem.W.kitOne K (.ref C) (.type "tuple") = some false
section
variable {cl : Cl} {X : Cx} {E : XK} {e : Expr} {f : Sl → Sto → Res D} {p p1 p2 p3 p4 pos : Pos}
end
end DL

namespace DL
open PySem PySem.Spec PyProof.Rows L2
section
variable {cl : Cl} {X : Cx} {E : XK}
def lockD (d : D) (S : Sto) : Res D := match d with
  | .ref l => (match S[l]? with
    | some (.dic 0 kvs) => .ok (.ref l) (S.set l (.dic 3 kvs))
    | _ => .stuck)
  | _ => .stuck
def dLockD (f : Sl → Sto → Res D) : Sl → Sto → Res D := fun sd S => (f sd S).bind fun d S1 => lockD d S1
theorem de_lockD {e : Expr} {f : Sl → Sto → Res D} (h : DE cl X E e f) : DE cl X E e (dLockD f) := by
  obtain ⟨t, p, he⟩ := h
  refine ⟨_, pe_frz p, fun m S H sd σ Q rs rl h => ?_⟩
  refine he m S H sd σ _ rs rl (Post.bind h fun d S1 m1 v H1 x1 k1 rs1 rv h1 => ?_)
  unfold lockD at h1
  split at h1
  · rename_i l
    split at h1
    · rename_i kvs e1
      obtain ⟨a, hm, gs, hv, r1⟩ := rs1.adr e1
      obtain ⟨a', hm', rfl⟩ := rv
      rw [hm] at hm'; cases hm'
      refine .inr ⟨a, .dK gs, rfl, hv, trivial, fun od => ?_⟩
      have kp : Keep H1 (upd H1 a (.frz od (.dK gs))) := rs1.keepPut e1 hm
      have rs2 : RS cl X.K m1 (S1.set l (.dic 3 kvs)) (upd H1 a (.frz od (.dK gs))) := rs1.put e1 hm ⟨gs, od, upd_same, RD0.mono (Ext.refl m1) kp r1⟩
      exact h1 m1 _ _ (Ext.refl _) kp rs2 ⟨a, hm, rfl⟩
    · exact h1.elim
  · exact h1.elim
def minL : List Int → Int
  | [] => 0
  | [n] => n
  | n :: m :: r => if n ≤ minL (m :: r) then n else minL (m :: r)
theorem minL_low : ∀ {ns : List Int}, ∀ y ∈ ns, minL ns ≤ y
  | [n], y, h => by rw [List.mem_singleton.mp h]; exact Int.le_refl _
  | n :: m :: r, y, h => by
    have ih := @minL_low (m :: r)
    unfold minL
    rcases List.mem_cons.mp h with rfl | h
    · split
      · exact Int.le_refl _
      · omega
    · have := ih y h
      split
      · omega
      · exact this
theorem minL_mem : ∀ {ns : List Int}, ns ≠ [] → minL ns ∈ ns
  | [n], _ => by simp [minL]
  | n :: m :: r, _ => by
    have ih := @minL_mem (m :: r) (by simp)
    unfold minL
    split
    · simp
    · exact List.mem_cons_of_mem _ ih
def minIs : List D → Sto → Res D
  | [d], S => match lsD d S with
    | some ds => match intsD ds with
      | some ns => if ns = [] then .stuck else .ok (.int (minL ns)) S
      | none => .stuck
    | none => .stuck
  | _, _ => .stuck
theorem cd_minIs (hc : X.calm = true) : CallD cl X (.builtin "min") minIs := by
  refine ⟨_, cr_min hc, fun E m S H ds vs Q rs rv h => ?_⟩
  unfold minIs at h
  split at h
  · rename_i d
    obtain ⟨v, rfl, r⟩ := rvs1 rv
    split at h
    · rename_i xs e1
      obtain ⟨a, ws, rfl, hv, r1⟩ := ls_rv rs r e1
      split at h
      · rename_i ns e2
        have ew := intsD_rv e2 r1
        subst ew
        split at h
        · exact h.elim
        · rename_i hne
          refine ⟨a, ns, rfl, hv, List.length_pos_iff.mpr hne, fun q hq hl => ?_⟩
          have : q = minL ns := by
            have h1 := hl _ (minL_mem hne)
            have h2 := minL_low q hq
            omega
          rw [this]
          exact h.here rs rfl
      · exact h.elim
    · exact h.elim
  · exact h.elim
end
end DL

namespace DL
open PySem PySem.Spec PyProof.Rows L2
section
variable {P : Program} {w : World} {A : Around} {E : Value → Shared → Prop} {s : Shared} {a : Addr} {K : Type} [DecidableEq K] {knd : KeyKind P w K}
def SetL (w : World) (knd : KeyKind P w K) (h : Heap) (a : Addr) (L : List K) : Prop :=
  ∃ o es ep t, h.get? a = some o ∧ o.ExactSet ∧ o.data = .set es ep t ∧ ElemsOf knd es.toList ∧ (∀ k, k ∈ L ↔ ∃ e ∈ es.toList, knd.is k e.2 = true) ∧ es.size = L.length ∧ es.size < scanBound ∧ t.fits es.size = true ∧
    Ris t.place.toList ∧ (w.params.followText "set-order" = true ∨ t.led = true)
theorem SetL.at {h h' : Heap} {L : List K} (R : SetL w knd h a L) (k : ∀ o, h.get? a = some o → h'.get? a = some o) : SetL w knd h' a L := by
  obtain ⟨o, es, ep, t, ho, r⟩ := R
  exact ⟨o, es, ep, t, k o ho, r⟩
def addK (L : List K) (k : K) : List K := if k ∈ L then L else L ++ [k]
theorem SetL.put {h : Heap} {o : Obj} {es es1 : Array (Int × Value)} {ep : Nat} {t t1 : SetTable} {L : List K} (ho : h.get? a = some o) (hex : o.ExactSet) (hd : o.data = .set es ep t) (he : ElemsOf knd es1.toList) (hm : ∀ k, k ∈ L ↔ ∃ e ∈ es1.toList, knd.is k e.2 = true)
    (hz : es1.size = L.length) (hb : es1.size < scanBound) (hf : t1.fits es1.size = true) (hr : Ris t1.place.toList) (hl : w.params.followText "set-order" = true ∨ t1.led = true) : SetL w knd (h.update a (Obj.putSet es1 t1)) a L :=
  ⟨_, es1, ep + 1, t1, store_at ho hd, hex, rfl, he, hm, hz, hb, hf, hr, hl⟩
theorem setL_tail {g : Bool → Sem Unit} (hg : ∀ (b : Bool) (s₁ : Shared) (Q' : Unit → Shared → Prop), Q' () s₁ → wpAny (model P w) A (g b) Q' E s₁) {o : Obj} {es es1 : Array (Int × Value)} {ep : Nat} {t t2 : SetTable} {L : List K} (ho : s.heap.get? a = some o) (hex : o.ExactSet) (hd : o.data = .set es ep t)
    (he : ElemsOf knd es1.toList) (hm : ∀ k, k ∈ L ↔ ∃ e ∈ es1.toList, knd.is k e.2 = true) (hz : es1.size = L.length) (hb : es1.size < scanBound) (hf : t2.fits es1.size = true) (hr : Ris t2.place.toList) (hl : w.params.followText "set-order" = true ∨ t2.led = true) {wasDummy : Bool} {R : Option Bool → Shared → Prop}
    (hR : ∀ h', Heap.SameBut a s.heap h' → SetL w knd h' a L → R (some true) { s with heap := h' }) :
    wpAny (model P w) A (do
        storeSet a es1 t2
        if (!wasDummy && t2.tooFull) = true then do
            g (relayAll t2 es1 (SetTable.grown es1.size)).2.2
            storeSet a (relayAll t2 es1 (SetTable.grown es1.size)).1 (relayAll t2 es1 (SetTable.grown es1.size)).2.1
            pure (some true)
          else pure (some true)) R E s := by
  refine wpAny_bind (wpAny_storeSet_of ho hd ?_ (fits_of_scanBound hb))
  have first := SetL.put (P := P) (w := w) (knd := knd) (L := L) ho hex hd he hm hz hb hf hr hl
  have same := Heap.SameBut.update s.heap a (Obj.putSet es1 t2)
  split
  · have pm := relayAll_perm t2 es1 (SetTable.grown es1.size)
    have q1 := relayAll_fits t2 es1 (SetTable.grown es1.size)
    have q2 := relayAll_ris t2 es1 (SetTable.grown es1.size)
    have q3 := relayAll_led t2 es1 (SetTable.grown es1.size)
    have ho1 := store_at (es' := es1) (t' := t2) ho hd
    generalize relayAll t2 es1 (SetTable.grown es1.size) = Z at pm q1 q2 q3 ⊢
    obtain ⟨es2, t3, b⟩ := Z
    dsimp only at pm q1 q2 q3 ⊢
    have sz : es2.size = es1.size := by rw [← Array.length_toList, pm.length_eq, Array.length_toList]
    refine wpAny_bind (hg _ _ _ (wpAny_bind (wpAny_storeSet_of ho1 rfl ?_ (fits_of_scanBound (by rw [sz]; exact hb)))))
    refine wpAny_pure (hR _ (same.trans (Heap.SameBut.update _ a _)) ?_)
    exact SetL.put (P := P) (w := w) (knd := knd) (L := L) ho1 hex rfl (he.perm pm) (fun k => (hm k).trans ⟨fun ⟨e, h1, h2⟩ => ⟨e, pm.mem_iff.mpr h1, h2⟩, fun ⟨e, h1, h2⟩ => ⟨e, pm.mem_iff.mp h1, h2⟩⟩) (by rw [sz]; exact hz) (by rw [sz]; exact hb) q1 q2
      (hl.imp id fun z => by rw [q3]; exact z)
  · exact wpAny_pure (hR _ same first)
theorem setL_add {k : K} {x : Value} {L : List K} {Q : Bool → Shared → Prop} (hkey : knd.is k x = true) (hsc : x.scannable = true) (R : SetL w knd s.heap a L) (room : L.length + 1 < scanBound)
    (hQ : ∀ h' b, Heap.SameBut a s.heap h' → SetL w knd h' a (addK L k) → Q b { s with heap := h' }) : wpAny (model P w) A (setAddHashed a x (knd.hash k)) Q E s := by
  obtain ⟨o, es, ep, t, ho, hex, hd, he, hm, hz, hb, hf, hr, hl⟩ := R
  unfold setAddHashed setAddHashedIn
  refine wpAny_holding (wpAny_bind (wpAny_setState_of ho hd hf ?_))
  dsimp only
  rw [byScan_of hsc hb he]
  simp only [↓reduceIte]
  unfold setAddByScan
  refine wpAny_bind (wpAny_bind (wpAny_rule (wpAny_bind (wpAny_setScan_of hkey ho hd hf he ?_))))
  cases hfi : List.findIdx? (fun e => knd.is k e.2) es.toList with
  | some j =>
    dsimp only
    obtain ⟨hj, pj, _⟩ := List.findIdx?_eq_some_iff_getElem.mp hfi
    have hk : k ∈ L := (hm k).2 ⟨es.toList[j], List.getElem_mem hj, pj⟩
    refine wpAny_pure (wpAny_pure ?_)
    have ea : addK L k = L := by unfold addK; rw [if_pos hk]
    exact hQ s.heap _ (Heap.SameBut.refl a s.heap) (by rw [ea]; exact ⟨o, es, ep, t, ho, hex, hd, he, hm, hz, hb, hf, hr, hl⟩)
  | none =>
    dsimp only
    have hk : k ∉ L := fun z => by
      obtain ⟨e, h1, h2⟩ := (hm k).1 z
      have c := List.findIdx?_eq_none_iff.mp hfi e h1
      rw [h2] at c
      cases c
    have ea : addK L k = L ++ [k] := by unfold addK; rw [if_neg hk]
    have pm := layNew_perm t es (knd.hash k) x
    have q1 := layNew_fits t es (knd.hash k) x
    have q2 := layNew_ris t es (knd.hash k) x hr
    have q3 := layNew_led t es (knd.hash k) x
    generalize layNew t es (knd.hash k) x = Z at pm q1 q2 q3 ⊢
    obtain ⟨es1, t1, dm, gave⟩ := Z
    dsimp only at pm q1 q2 q3 ⊢
    rw [Array.toList_push] at pm
    have e1 : ElemsOf knd es1.toList := (he.push hkey hsc).perm pm
    have sz : es1.size = (addK L k).length := by rw [ea, ← Array.length_toList, pm.length_eq, List.length_append, List.length_append, Array.length_toList, hz]; rfl
    have b1 : es1.size < scanBound := by rw [sz, ea, List.length_append]; exact room
    have m1 : ∀ i, i ∈ addK L k ↔ ∃ e ∈ es1.toList, knd.is i e.2 = true := fun i => by
      rw [ea, List.mem_append, List.mem_singleton, hm i]
      constructor
      · rintro (⟨e, h1, h2⟩ | rfl)
        · exact ⟨e, pm.mem_iff.mpr (List.mem_append_left _ h1), h2⟩
        · exact ⟨_, pm.mem_iff.mpr (List.mem_append_right _ (List.mem_singleton.mpr rfl)), hkey⟩
      · rintro ⟨e, h1, h2⟩
        rcases List.mem_append.mp (pm.mem_iff.mp h1) with h | h
        · exact .inl ⟨e, h, h2⟩
        · rw [List.mem_singleton] at h
          subst h
          exact .inr (knd.inj x i k h2 hkey)
    have led : w.params.followText "set-order" = true ∨ t1.led = true := hl.imp id fun z => by rw [q3]; exact z
    have gw : ∀ (b : Bool) {s₁ : Shared} {Q' : Unit → Shared → Prop}, Q' () s₁ → wpAny (model P w) A (match b with | true => rule "set.scan.the-table-gave-way" | false => pure ()) Q' E s₁ := fun b s₁ Q' q => by
      cases b
      · exact wpAny_pure q
      · exact wpAny_rule q
    refine wpAny_bind (gw _ ?_)
    split
    · refine wpAny_bind ?_
      rw [hashByValue_scannable 8 hsc]
      refine wpAny_pure ?_
      refine setL_tail ?_ ho hex hd e1 m1 sz b1 ?_ ?_ ?_ ?_
      · intro b s₁ Q' q
        cases b <;> first | exact wpAny_pure q | exact wpAny_rule q
      · first | (split <;> first | exact q1 | exact SetTable.fits_plain_off q1) | exact q1
      · first | (split <;> exact q2) | exact q2
      · first | (split <;> exact led) | exact led
      · intro h' sb r
        dsimp only
        exact wpAny_pure (hQ h' _ sb r)
    · refine wpAny_bind (wpAny_pure ?_)
      simp only [↓reduceIte]
      refine setL_tail ?_ ho hex hd e1 m1 sz b1 q1 q2 led ?_
      · intro b s₁ Q' q
        cases b <;> first | exact wpAny_pure q | exact wpAny_rule q
      · intro h' sb r
        dsimp only
        exact wpAny_pure (hQ h' _ sb r)
theorem addK_mem {L : List K} {k x : K} : x ∈ addK L k ↔ x ∈ L ∨ x = k := by
  unfold addK
  split
  · rename_i h
    exact ⟨.inl, fun z => z.elim id fun e => by rw [e]; exact h⟩
  · rw [List.mem_append, List.mem_singleton]
theorem addK_nodup {L : List K} {k : K} (h : L.Nodup) : (addK L k).Nodup := by
  unfold addK
  split
  · exact h
  · rename_i hk
    rw [List.nodup_append]
    refine ⟨h, by simp, fun x hx y hy e => ?_⟩
    have : y = k := by simpa using hy
    exact hk (by rw [← this, ← e]; exact hx)
theorem addK_len {L : List K} {k : K} : (addK L k).length ≤ L.length + 1 := by
  unfold addK
  split
  · omega
  · simp
def ddK (l : List K) : List K := l.foldl addK []
theorem ddK_snoc {l : List K} {k : K} : ddK (l ++ [k]) = addK (ddK l) k := by
  unfold ddK
  rw [List.foldl_append]
  rfl
theorem ddK_all : ∀ l : List K, (ddK l).Nodup ∧ (ddK l).length ≤ l.length ∧ ∀ x, x ∈ ddK l ↔ x ∈ l := by
  have key : ∀ (l acc : List K), acc.Nodup → (l.foldl addK acc).Nodup ∧ (l.foldl addK acc).length ≤ acc.length + l.length ∧ ∀ x, x ∈ l.foldl addK acc ↔ x ∈ acc ∨ x ∈ l := by
    intro l
    induction l with
    | nil => exact fun acc h => ⟨h, by simp, fun x => by simp⟩
    | cons y l ih =>
      intro acc h
      obtain ⟨h1, h2, h3⟩ := ih (addK acc y) (addK_nodup h)
      have := addK_len (L := acc) (k := y)
      refine ⟨h1, by rw [List.foldl_cons, List.length_cons]; omega, fun x => ?_⟩
      rw [List.foldl_cons, h3 x, addK_mem, List.mem_cons]
      exact ⟨fun z => z.elim (fun z => z.elim .inl fun e => .inr (.inl e)) fun e => .inr (.inr e), fun z => z.elim (fun e => .inl (.inl e)) fun z => z.elim (fun e => .inl (.inr e)) .inr⟩
  intro l
  obtain ⟨h1, h2, h3⟩ := key l [] List.nodup_nil
  refine ⟨h1, ?_, fun x => ?_⟩
  · show (l.foldl addK []).length ≤ _
    simpa using h2
  · show x ∈ l.foldl addK [] ↔ _
    simpa using h3 x
theorem setL_update {I : Addr} {fp wr : List Addr} {G : Array GenState → Array GenState → Prop} {n : Nat} {Pv : Nat → Value → Prop} {St : Nat → Shared → Prop} {R : Result → Shared → Prop}
    (W : WalksS P w A.in1 I fp wr G n Pv St) (hSf : a ∉ fp) (ks : List K) (hn : n = ks.length) (hb : ks.length + 1 < scanBound) (hval : ∀ i v, Pv i v → ∃ k, ks[i]? = some k ∧ knd.is k v = true ∧ v.scannable = true) :
    ∀ (m i : Nat) (s : Shared), n - i = m → i ≤ n → St i s → SetL w knd s.heap a (ddK (ks.take i)) → (∀ s', Moved (a :: wr) G s s' → SetL w knd s'.heap a (ddK ks) → R (.ok (.ret .none)) s') → codeAny (model P w) A (.builtin "set.update.loop" ⟨[.ref a, .ref I], []⟩) R s := by
  have nw : a ∉ wr := fun h => hSf (W.sub _ h)
  have sub : ∀ b ∈ wr, b ∈ a :: wr := fun b hb => List.mem_cons_of_mem _ hb
  intro m
  induction m with
  | zero =>
    intro i s hm hi hst hS hR
    obtain rfl : i = n := by omega
    refine codeAny_builtin PyProof.Rows.F.entry_set_update_loop ?_
    rw [Around.under_plainId PyProof.Rows.F.plain_set_update_loop _]
    show wpAny _ A.in1 (pyNext (.ref I) >>= _) _ _ s
    refine wpAny_bind (W.done s _ _ hst fun s' hmv => ?_)
    rw [List.take_of_length_le (by omega)] at hS
    exact wpAny_pure (hR s' (hmv.mono sub) (hS.at fun o e => hmv.heap a o nw e))
  | succ m ih =>
    intro i s hm hi hst hS hR
    have lt : i < n := by omega
    refine codeAny_builtin PyProof.Rows.F.entry_set_update_loop ?_
    rw [Around.under_plainId PyProof.Rows.F.plain_set_update_loop _]
    show wpAny _ A.in1 (pyNext (.ref I) >>= _) _ _ s
    refine wpAny_bind (W.item i s _ _ lt hst fun v s' hP hst' hmv => ?_)
    obtain ⟨k, hk, hkv, hsc⟩ := hval i v hP
    have hS' : SetL w knd s'.heap a (ddK (ks.take i)) := hS.at fun o e => hmv.heap a o nw e
    show wpAny _ A.in1 (holding [v] (setAdd a v) >>= _) _ _ s'
    refine wpAny_bind (wpAny_holding ?_)
    unfold setAdd
    refine wpAny_holding (wpAny_bind (knd.pyHash (k := k) hkv ?_))
    have room : (ddK (ks.take i)).length + 1 < scanBound := by
      have h1 := (ddK_all (ks.take i)).2.1
      have h2 : (ks.take i).length ≤ ks.length := by rw [List.length_take]; omega
      omega
    refine setL_add (s := { s' with toks := s'.toks + 1 }) hkv hsc hS' room fun h' b sb hS2 => ?_
    have e : addK (ddK (ks.take i)) k = ddK (ks.take (i + 1)) := by
      rw [List.take_add_one, hk]
      exact ddK_snoc.symm
    rw [e] at hS2
    refine wpAny_pure ⟨plainId_quiet PyProof.Rows.F.plain_set_update_loop _, ih (i + 1) _ (by omega) lt (W.frame _ s' _ _ hst' (Nat.le_succ _) fun c hc o e => ?_) hS2 fun s'' hm2 hS3 => ?_⟩
    · rw [sb.2 c (fun h : c = a => hSf (by rw [← h]; exact hc))]
      exact e
    · refine hR s'' (Moved.trans W.gtrans ((hmv.mono sub).then_heap (Nat.le_succ _) fun c o hc e => ?_) hm2) hS3
      rw [sb.2 c (fun h : c = a => hc (by rw [h]; exact List.mem_cons_self))]
      exact e
abbrev newSetO (w : World) : Obj := { cls := .type "set", dict := none, data := .set #[] 0 (.fresh 0 0 (!w.params.followText "set-order")) }
theorem setL_fresh {h : Heap} (ho : h.get? a = some (newSetO w)) : SetL w knd h a ([] : List K) :=
  ⟨_, #[], 0, _, ho, ⟨rfl, rfl, rfl⟩, rfl, (fun e he => by simp at he), (fun k => by simp), rfl, by decide, by rfl, List.Pairwise.nil, by
    show _ ∨ (!w.params.followText "set-order") = true
    cases w.params.followText "set-order"
    · exact .inr rfl
    · exact .inl rfl⟩
set_option maxHeartbeats 8000000 in
theorem call_set_listL {l : Addr} {items : Array Value} (ks : List K) {Q : Value → Shared → Prop} (hh : A.handled = none) (hl : s.heap.IsList l items) (hsz : items.size = ks.length) (hit : ∀ (i : Nat) (v : Value), items[i]? = some v → ∃ k, ks[i]? = some k ∧ knd.is k v = true ∧ v.scannable = true) (hb : ks.length + 1 < scanBound)
    (h : ∀ (h' : Heap) (tk : Nat), SetL w knd h' s.heap.objs.size (ddK ks) → (∀ b o, s.heap.get? b = some o → h'.get? b = some o) → Q (.ref s.heap.objs.size) { s with heap := h', toks := tk }) :
    wpAny (model P w) A (call (.type "set") [.ref l]) Q E s := by
  obtain ⟨c, tl, hmro⟩ := PySem.F.called_set.mro
  have hmade := PySem.F.called_set.made
  have hsub := PySem.F.called_set.sub
  refine wpAny_call (codeAny_of_tree ?_)
  show wpAny _ _ (callAny (.type "set") _) _ _ _
  refine wpAny_pure ⟨Code.quiet_builtin _ (by decide +kernel), codeAny_builtin PySem.F.entry_type_call ?_⟩
  rw [Around.under_plain (weight_type_call_type "set" [.ref l] []) rfl]
  have h1 := PySem.F.called_set.notType
  have h2 := PySem.F.called_set.canCreate
  have hct := PySem.F.typeCall_set_1 (.ref l)
  repeat (any_goals (first | assumption | wp_step))
  refine codeAny_mono (code_set_led1 (.ref l) (E := E) (Q₁ := fun obj s₁ => obj = .ref s.heap.objs.size ∧ s₁ = { s with heap := s.heap.push (newSetO w) }) ⟨rfl, rfl⟩) fun r s₁ hr => ?_
  cases r with
  | error e => exact hr
  | ok fl =>
    cases fl with
    | ret obj =>
      obtain ⟨rfl, rfl⟩ := hr
      have hS : (s.heap.push (newSetO w)).get? s.heap.objs.size = some (newSetO w) := Heap.get?_push_size _ rfl
      have hT : Shared.TypeIs { s with heap := s.heap.push (newSetO w) } (.ref s.heap.objs.size) "set" := ⟨_, hS, rfl⟩
      have hli := PySem.F.called_set.init.lookup
      have hbi := PySem.F.called_set.init.bind (.ref s.heap.objs.size)
      repeat (any_goals (first | assumption | wp_step))
      refine codeAny_mono (codeAny_call_builtin (R := wants (fun r s₂ => r = .none ∧ ∃ h' tk, s₂ = { s with heap := h', toks := tk } ∧ SetL w knd h' s.heap.objs.size (ddK ks) ∧ (∀ b o, s.heap.get? b = some o → h'.get? b = some o)) E) PySem.F.called_set.init.plain PySem.F.entry_set_init (check_set_init_1 hT ?_)) fun r₂ s₂ hr₂ => ?_
      · obtain ⟨ol, hol, hcl, nl, hdl⟩ := hl
        obtain ⟨ocls, odict, odata, oslots⟩ := ol
        simp only at hcl hdl
        subst hcl; subst hdl
        have hol' : (s.heap.push (newSetO w)).get? l = some { cls := .type "list", dict := odict, data := .seq items nl, slots := oslots } := Heap.get?_push_of_some _ hol
        have hsls := PySem.F.sub_list_set
        have hslf := PySem.F.sub_list_frozenset
        have hne : (Value.type "list" == Value.type "dict") = false := by decide
        have hl1 : (s.heap.push (newSetO w)).IsList l items := ⟨_, hol', rfl, nl, rfl⟩
        unfold Builtin.«set.__init__» noKeywords Builtin.Frozenset.updateFrom
        generalize hPI : pyIter = PI
        wp_walk
        subst hPI
        refine wpAny_pyIter_list hl1 (wpAny_bind (wpAny_runValue ?_))
        have hlS : l < s.heap.objs.size := Heap.lt_size hol
        have hh3 : A.in1.in1.in1.handled = none := by simp [hh]
        have sz1 : (s.heap.push (newSetO w)).objs.size = s.heap.objs.size + 1 := Heap.size_push ..
        refine setL_update (knd := knd) ((Walks.list hh3 _ l (by rw [sz1]; exact Nat.ne_of_lt (Nat.lt_succ_of_lt hlS)) items).toS) (by
            rw [sz1]
            simp only [List.mem_cons, List.not_mem_nil, or_false, not_or]
            exact ⟨Nat.ne_of_lt (Nat.lt_succ_self _), Nat.ne_of_gt hlS⟩) ks hsz hb hit (items.size - 0) 0 _ (by omega) (Nat.zero_le _)
          ⟨⟨_, Heap.get?_push_size _ rfl, rfl, rfl⟩, (hl1.push _)⟩ (setL_fresh (Heap.get?_push_of_some _ hS)) ?_
        intro s' hm hS'
        obtain ⟨h', g2, d', tk', os'⟩ := s'
        have eg : g2 = s.gens := hm.gens
        have ed : d' = s.drawn := hm.drawn
        have eo : os' = s.os := hm.os
        subst eg; subst ed; subst eo
        show wpAny _ _ _ _ _ _
        refine wpAny_pure ?_
        show wpAny _ _ (ret Value.none) _ _ _
        refine wpAny_pure ⟨rfl, h', tk', rfl, hS', fun b o e => ?_⟩
        have hb0 : b < s.heap.objs.size := Heap.lt_size e
        refine hm.heap b o ?_ (Heap.get?_push_of_some _ (Heap.get?_push_of_some _ e))
        rw [sz1]
        simp only [List.mem_cons, List.not_mem_nil, or_false, not_or]
        exact ⟨Nat.ne_of_lt hb0, Nat.ne_of_lt (Nat.lt_succ_of_lt hb0)⟩
      · cases r₂ with
        | error e => exact hr₂
        | ok fl₂ =>
          cases fl₂ with
          | ret r =>
            obtain ⟨rfl, h', tk, rfl, hS', hk'⟩ := hr₂
            repeat (any_goals (first | assumption | wp_step))
            exact h _ _ hS' hk'
          | _ => exact hr₂.elim
    | _ => exact hr.elim
end
end DL

namespace DL
open PySem PySem.Spec PyProof.Rows L2 PySem.W
section
variable {cl : Cl} {X : Cx} {E : XK}
abbrev txP (x : Str) : VP := (V.str x, PyData.str x)
def tSortSetS (K : PySem.W.Frag) (ta : TE) : TE := fun σ H Q => ta σ H fun x H1 => ∃ (l : Addr) (xs : List Str), x = .ref l ∧ SqL K H1 l (xs.map V.str) ∧ xs.length ≤ 4000 ∧
  ∀ ys : List Str, ys.Perm (ddK xs) → AllAlike (ys.map PyData.str) ∧ Sortable (ys.map PyData.str) ∧
    ∀ q, H1 q = none → Q (.ref q) (upd H1 q (.lst (((ys.map txP).mergeSort (dataLe false (·.2))).map (·.1)))) ∨
      ∃ a u, V.ref q = .ref a ∧ (upd H1 q (.lst (((ys.map txP).mergeSort (dataLe false (·.2))).map (·.1)))) a = some u ∧ Mut (some u) ∧ ∀ od, Q (.ref q) (upd (upd H1 q (.lst (((ys.map txP).mergeSort (dataLe false (·.2))).map (·.1)))) a (.frz od u))
theorem texts_of : ∀ {us : List Value}, (∀ u ∈ us, ∃ (x : Str) (t : Tok), u = Value.str x t) → ∃ ys : List Str, Vals (ys.map V.str) us
  | [], _ => ⟨[], .nil⟩
  | u :: us, h => by
    obtain ⟨x, t, e⟩ := h u List.mem_cons_self
    obtain ⟨ys, v⟩ := texts_of (us := us) fun w hw => h w (List.mem_cons_of_mem _ hw)
    subst e
    exact ⟨x :: ys, .cons ⟨t, rfl⟩ v⟩
def txOf (v : Value) : Str := match v with
  | .str x _ => x
  | _ => Str.empty
theorem vals_tx : ∀ {ys : List Str} {us : List Value}, Vals (ys.map V.str) us → ys = us.map txOf
  | [], _, .nil => rfl
  | y :: ys, _, .cons r t => by
    obtain ⟨tk, rfl⟩ := r
    rw [List.map_cons, ← vals_tx t]
    rfl
theorem perm_few : ∀ {L ys : List Str}, L.Nodup → (∀ x ∈ L, x ∈ ys) → ys.length = L.length → ys.Perm L
  | [], ys, _, _, h => by rw [List.length_eq_zero_iff.mp h]
  | x :: L, ys, hn, hs, h => by
    obtain ⟨h1, h2⟩ := List.nodup_cons.mp hn
    have hx := hs x List.mem_cons_self
    have p1 := List.perm_cons_erase hx
    have hl := List.length_erase_of_mem hx
    have ih := perm_few (L := L) (ys := ys.erase x) h2 (fun y hy => (List.mem_erase_of_ne (fun z => h1 (by rw [← z]; exact hy))).mpr (hs y (List.mem_cons_of_mem _ hy))) (by rw [hl, h, List.length_cons]; omega)
    exact p1.trans (ih.cons x)
theorem sortSetS_run {pins : List (Addr × Obj)} {σ : L2.St} {H : Hp} {s : Shared} {a : Addr} {xs : List Str} {E : Value → Shared → Prop} {R : Value → Shared → Prop} (I : Inv X pins σ H s) (hc : X.calm = true) (hu : X.A.units + 65 < cLine) (hS : SetL X.w (strKind X.prog X.w) s.heap a (ddK xs)) (hl : xs.length ≤ 4000)
    (hal : ∀ ys : List Str, ys.Perm (ddK xs) → AllAlike (ys.map PyData.str) ∧ Sortable (ys.map PyData.str))
    (hR : ∀ (ys : List Str) (q : Addr) (s' : Shared), ys.Perm (ddK xs) → H q = none → Inv X pins σ (upd H q (.lst (((ys.map txP).mergeSort (dataLe false (·.2))).map (·.1)))) s' → R (.ref q) s') :
    wpAny (model X.prog X.w) X.A (call (.builtin "sorted") [.ref a]) R E s := by
  obtain ⟨o, es, ep, t, ho, hex, hd, he, hm, hz, hb, hf, hr, hled⟩ := hS
  refine Calls.call_function_entry PyProof.Rows.kind_sorted PyProof.Rows.plain_sorted PyProof.Rows.entry_sorted (PyProof.Rows.args_sorted1 _) ?_
  unfold Builtin.«sorted»
  refine wpAny_bind (m := checkCount "sorted" 1 1 _) (wpAny_pure ?_)
  refine wpAny_bind (collect_set (A := X.A.in1) (I.ok.hd hc) ⟨o, ho, hex.1, hd⟩ hf hb hr hled fun s1 vs k1 hz1 g1 o1 pm => ?_)
  have hv : ∀ v ∈ vs, ∃ (x : Str) (t : Tok), v = Value.str x t := fun v hv => by
    obtain ⟨e, h1, rfl⟩ := List.mem_map.mp (pm.mem_iff.mp hv)
    obtain ⟨⟨k, h2, _⟩, _⟩ := he e h1
    obtain ⟨tk, e1⟩ := Value.isStrOf_shape (x := k) (v := e.2) h2
    exact ⟨k, tk, e1⟩
  obtain ⟨ys, hys⟩ := texts_of hv
  have ety := vals_tx hys
  have hlen : ys.length = (ddK xs).length := by
    rw [ety, List.length_map, pm.length_eq, List.length_map, Array.length_toList, hz]
  have hperm : ys.Perm (ddK xs) := perm_few (ddK_all xs).1 (fun x hx => by
    obtain ⟨e, h1, h2⟩ := (hm x).1 hx
    obtain ⟨tk, e1⟩ := Value.isStrOf_shape (x := x) (v := e.2) h2
    rw [ety]
    exact List.mem_map.mpr ⟨e.2, pm.mem_iff.mpr (List.mem_map.mpr ⟨e, h1, rfl⟩), by rw [e1]; rfl⟩) hlen
  obtain ⟨al, so⟩ := hal ys hperm
  have hl4 : ys.length ≤ 4000 := by
    have := (ddK_all xs).2.1
    omega
  have hl5 : vs.length = ys.length := by rw [ety, List.length_map]
  have evp : (ys.map txP).map (·.1) = ys.map V.str := by rw [List.map_map]; rfl
  have evp2 : (ys.map txP).map (·.2) = ys.map PyData.str := by rw [List.map_map]; rfl
  have rv : Vals ((ys.map txP).map (·.1)) vs := by rw [evp]; exact hys
  refine wpAny_bind (wpAny_newList ?_ (by rw [hl5, sizeLine_eq]; omega))
  have hoL : (s1.heap.push (seqObj "list" vs.toArray 0)).get? s1.heap.objs.size = some (seqObj "list" vs.toArray 0) := Heap.get?_push_size _ rfl
  have er := each_reads I (ps := ys.map txP) (fun p hp => by
    obtain ⟨y, _, rfl⟩ := List.mem_map.mp hp
    exact .str y) rv
  have er' : EachIs (fun v (p : VP) => ∃ as, Reads (sortingHeap (s1.heap.push (seqObj "list" vs.toArray 0)) s1.heap.objs.size vs) v p.2 as) vs (ys.map txP) :=
    er.mono fun _ _ ⟨as, r⟩ => ⟨as, PyProof.Rows.Reads.keeps (fun b o hb => sortingHeap_old (Nat.ne_of_lt (Heap.lt_size (k1 b o hb))) (Heap.get?_push_of_some _ (k1 b o hb))) r⟩
  have SA := SortsAt.data (prog := X.prog) (w := X.w) (A := X.A.in1.in1) (s := { s1 with heap := sortingHeap (s1.heap.push (seqObj "list" vs.toArray 0)) s1.heap.objs.size vs }) (each_map (R := fun v d => ∃ as, Reads (sortingHeap (s1.heap.push (seqObj "list" vs.toArray 0)) s1.heap.objs.size vs) v d as) (fun p : VP => p.2) er') (by rw [evp2]; exact al) (by rw [evp2]; exact so)
    (fun d hdm => by
      rw [evp2] at hdm
      obtain ⟨y, _, rfl⟩ := List.mem_map.mp hdm
      show X.A.units + 1 + 1 + (PyData.str y).depth < cLine
      have : (PyData.str y).depth ≤ 1 := by simp [PyData.depth]
      omega)
  have hout := sortVals_data (R := fun v (p : VP) => RelV p.1 v) false (each_vals rv) er' (by rw [evp2]; exact al)
  obtain ⟨e', he'⟩ := PyProof.Rows.sortedHeap_at (vs := vs) (out := (sortVals (dataKind (sortingHeap (s1.heap.push (seqObj "list" vs.toArray 0)) s1.heap.objs.size vs) ((ys.map txP).map (·.2))) false vs vs).toArray) hoL
  refine wpAny_bind (wpAny_holding (wpAny_call_entry PyProof.Rows.slot_list_sort ⟨_, hoL, rfl⟩ PyProof.Rows.entry_list_sort
    (list_sort_vals (A := X.A.in1.in1) (s := { s1 with heap := s1.heap.push (seqObj "list" vs.toArray 0) }) hoL SA (by rw [hl5, sizeLine_eq]; omega) ⟨_, rfl, ?_⟩) (PyProof.Rows.args_list_sort _)))
  have hold : ∀ (out : Array Value) b u, s.heap.get? b = some u → (PyProof.Rows.sortedHeap (s1.heap.push (seqObj "list" vs.toArray 0)) s1.heap.objs.size vs out).get? b = some u := fun out b u e => by
    have e2 := k1 b u e
    have hb := Heap.lt_size e2
    rw [PyProof.Rows.sortedHeap_old (Nat.ne_of_lt hb) (by rw [size_push']; exact Nat.lt_succ_of_lt hb)]
    exact Heap.get?_push_of_some _ e2
  have hn : H s1.heap.objs.size = none := I.hok.fresh hz1
  have fin : ∀ (HH : Heap) (out : List Value) (c : Nat), (∀ b u, s.heap.get? b = some u → HH.get? b = some u) → HH.get? s1.heap.objs.size = some (seqObj "list" out.toArray c) → EachIs (fun v (p : VP) => RelV p.1 v) out ((ys.map txP).mergeSort (dataLe false (·.2))) → R (.ref s1.heap.objs.size) { s1 with heap := HH } := fun HH out c hk2 hat hvo => by
    have z := I.call (h' := HH) (g' := s1.gens) (t' := s1.toks) (d' := s1.drawn) (H' := upd H s1.heap.objs.size (.lst (((ys.map txP).mergeSort (dataLe false (·.2))).map (·.1)))) (ch := []) (Un.laid hk2 hz1 hn) (I.hok.laid hk2 hz1 ⟨by rw [List.length_map, List.length_mergeSort, List.length_map, sizeLine_eq]; omega, out, c, vals_each hvo, hat⟩) (by rw [g1]; exact I.bare) (fun _ z => nomatch z)
    refine hR ys s1.heap.objs.size _ hperm hn ?_
    have es : ({ s1 with heap := HH } : Shared) = { s with heap := HH, gens := s1.gens, drawn := s1.drawn, toks := s1.toks } := by
      obtain ⟨_, _, _, _, _⟩ := s1
      obtain ⟨_, _, _, _, _⟩ := s
      cases o1
      rfl
    rw [es]
    exact z
  exact wpAny_pure ⟨_, rfl, fin _ _ _ (hold _) he' hout⟩
theorem pe_sortSetS {a : Expr} {ta : TE} {p p2 q pos : Pos} (hg : Gl X "sorted") (hm : X.mg "sorted" = none) (hg2 : Gl X "set") (hm2 : X.mg "set" = none) (ha : PE X a ta) (hc : X.calm = true) (hu : X.A.units + 65 < cLine)
    (na : starEach [a] X.env = (false, eval a X.env) :: starEach [] X.env) : PE X (.Call (.Name "sorted" p) [.Call (.Name "set" p2) [a] [] q] [] pos) (tSortSetS X.K ta) := by
  refine ⟨fun pins s σ H Q I h => ?_⟩
  refine Call_ (ld_blt I hg hm boot_sorted ?_)
  refine PyProof.Rows.callWith_builtin1 (PyProof.Rows.args_cons ?_ rfl) rfl rfl
  refine Call_ (ld_blt I hg2 hm2 boot_set ?_)
  refine PyProof.Rows.callWith_type1 (PyProof.Rows.args_cons (thn (ha.run pins s σ H _ I h) fun v s1 ⟨x, H1, I1, r1, q1⟩ => PyProof.Rows.args_nil ?_) na) na rfl
  obtain ⟨l, xs, rfl, hq, hl, q1⟩ := q1
  cases r1
  obtain ⟨its, r, pl, hz⟩ := I1.list hq
  have hil : its.length = xs.length := by have := r.length; rw [List.length_map] at this; exact this.symm
  refine call_set_listL (knd := strKind X.prog X.w) xs (I1.ok.hd hc) pl.isList (by rw [List.size_toArray]; exact hil) (fun i v hv => ?_) (by unfold scanBound; omega) fun h' tk hS hk => ?_
  · have hv : its[i]? = some v := by simpa using hv
    have ety := vals_tx r
    have hi : i < its.length := (List.getElem?_eq_some_iff.mp hv).1
    have hx : xs[i]? = some (txOf v) := by rw [ety, List.getElem?_map, hv]; rfl
    obtain ⟨t, e⟩ : ∃ t, v = Value.str (txOf v) t := by
      have key : ∀ {xs : List Str} {us : List Value}, Vals (xs.map V.str) us → ∀ u ∈ us, ∃ t, u = Value.str (txOf u) t := fun {xs} => by
        induction xs with
        | nil => intro us h u hu; cases h; cases hu
        | cons y xs ih =>
          intro us h u hu
          cases h with
          | cons r t =>
            rcases List.mem_cons.mp hu with rfl | hu
            · obtain ⟨tk, rfl⟩ := r
              exact ⟨tk, rfl⟩
            · exact ih t u hu
      exact key r v (List.mem_of_getElem? hv)
    refine ⟨txOf v, hx, ?_, ?_⟩
    · rw [e]
      exact strKind_is _ _ _ _
    · rw [e]
      rfl
  refine PyProof.Rows.args_nil ?_
  have I2 : Inv X pins σ H1 { s1 with heap := h', toks := tk } := I1.kept hk
  refine sortSetS_run (s := { s1 with heap := h', toks := tk }) I2 hc hu hS hl (fun ys hp => ⟨(q1 ys hp).1, (q1 ys hp).2.1⟩) fun ys p s' hp hn J => ?_
  rcases (q1 ys hp).2.2 p hn with z | ⟨a', u, e1, ha', mu, z⟩
  · exact ⟨.ref p, _, J, rfl, z⟩
  · obtain ⟨od', J4⟩ := J.lock ha' mu
    exact ⟨.ref p, _, J4, rfl, z od'⟩
end
end DL

namespace DL
open PySem PySem.Spec PyProof.Rows L2 PySem.W
section
variable {cl : Cl} {X : Cx} {E : XK}
def sLe (a b : Str) : Bool := decide (a.cps.toList ≤ b.cps.toList)
def ssrt (xs : List Str) : List Str := (ddK xs).mergeSort sLe
theorem str_ext {a b : Str} (h : a.cps.toList = b.cps.toList) : a = b := by
  obtain ⟨x⟩ := a
  obtain ⟨y⟩ := b
  have : x = y := Array.toList_inj.mp h
  rw [this]
theorem sLe_iff {a b : Str} : sLe a b = true ↔ a.cps.toList ≤ b.cps.toList := by simp [sLe]
theorem sLe_trans (a b c : Str) (h1 : sLe a b = true) (h2 : sLe b c = true) : sLe a c = true := sLe_iff.mpr (List.le_trans (sLe_iff.mp h1) (sLe_iff.mp h2))
theorem sLe_total (a b : Str) : (sLe a b || sLe b a) = true := by
  rw [Bool.or_eq_true, sLe_iff, sLe_iff]
  exact List.le_total a.cps.toList b.cps.toList
theorem sLe_sorted (l : List Str) : (l.mergeSort sLe).Pairwise fun a b => sLe a b = true :=
  List.pairwise_mergeSort sLe_trans sLe_total l
theorem ssrt_perm {a b : List Str} (h : a.Perm b) : a.mergeSort sLe = b.mergeSort sLe := by
  have h1 : (a.mergeSort sLe).Perm (b.mergeSort sLe) := ((List.mergeSort_perm a _).trans h).trans (List.mergeSort_perm b _).symm
  refine List.Perm.eq_of_pairwise (le := fun a b => sLe a b = true) (fun x y _ _ h2 h3 => ?_) (sLe_sorted a) (sLe_sorted b) h1
  exact str_ext (List.le_antisymm (sLe_iff.mp h2) (sLe_iff.mp h3))
theorem txP_sort (ys : List Str) : ((ys.map txP).mergeSort (dataLe false (·.2))).map (·.1) = (ys.mergeSort sLe).map V.str := by
  have e : sLe = dataLe false (fun y : Str => PyData.str y) := by
    rw [dataLe_str (fun y : Str => y)]
    rfl
  rw [e, ← sort_maps (r := dataLe false fun y : Str => PyData.str y) (s := dataLe false (·.2)) (fun y : Str => txP y) (fun _ _ _ _ => rfl), List.map_map]
  rfl
def dSortSetS (f : Sl → Sto → Res D) : Sl → Sto → Res D := fun sd S => (f sd S).bind fun d S1 => match lsD d S1 with
  | some ds => match strsD ds with
    | some xs => if xs.length ≤ 4000 then .ok (.frl ((ssrt xs).map .str)) S1 else .stuck
    | none => .stuck
  | none => .stuck
theorem strs_rvs {K : PySem.W.Frag} {m : List Addr} {H : Hp} : ∀ {xs : List Str}, RVs K m H (xs.map D.str) (xs.map V.str)
  | [] => rfl
  | x :: xs => ⟨_, _, rfl, rfl, strs_rvs⟩
theorem de_sortSetS {a : Expr} {fa : Sl → Sto → Res D} {p p2 q pos : Pos} (hu : X.A.units + 65 < cLine) (hc : X.calm = true) (hg : Gl X "sorted") (hm : X.mg "sorted" = none) (hg2 : Gl X "set") (hm2 : X.mg "set" = none) (ha : DE cl X E a fa)
    (na : starEach [a] X.env = (false, eval a X.env) :: starEach [] X.env := by rfl) : DE cl X E (.Call (.Name "sorted" p) [.Call (.Name "set" p2) [a] [] q] [] pos) (dSortSetS fa) := by
  obtain ⟨t, pp, ha⟩ := ha
  refine ⟨_, pe_sortSetS hg hm hg2 hm2 pp hc hu na, fun m S H sd σ Q rs rl h => ?_⟩
  refine ha m S H sd σ _ rs rl (Post.bind h fun x S1 m1 vx H1 x1 k1 rs1 rx h1 => ?_)
  split at h1
  · rename_i ds e1
    obtain ⟨l, ws, rfl, hv, r1⟩ := ls_rv rs1 rx e1
    split at h1
    · rename_i xs e2
      have ew := strsD_rv r1 e2
      subst ew
      split at h1
      · rename_i hz
        refine ⟨l, xs, rfl, hv, hz, fun ys hp => ⟨PySem.W.AllAlike.of fun a b => rfl, .inr fun d hd => ?_, fun q' hq' => ?_⟩⟩
        · obtain ⟨y, _, rfl⟩ := List.mem_map.mp hd
          exact ⟨by simp, by simp⟩
        · rw [txP_sort, ssrt_perm hp]
          exact newFrl rs1 strs_rvs hq' h1
      · exact h1.elim
    · exact h1.elim
  · exact h1.elim
end
end DL

namespace DL
open PySem PySem.Spec PyProof.Rows L2 PySem.W
section
variable {cl : Cl} {X : Cx} {E : XK}
def countSD : D → List D → Sto → Res D
  | .str a, [.str b], S => .ok (.int (Txt.count a b)) S
  | _, _, _ => .stuck
theorem md_countS : MthD cl X "str.count" countSD := by
  refine ⟨_, mt_count, fun E m S H d ds v vs Q rs rv rvs h => ?_⟩
  unfold countSD at h
  split at h
  · rename_i a b
    obtain ⟨w, rfl, rw'⟩ := rvs1 rvs
    cases rv
    cases rw'
    exact ⟨a, b, rfl, rfl, h.here rs rfl⟩
  · exact h.elim
end
end DL

namespace Lw
open PySem PySem.Spec PyProof.Rows L2 DL
def fuelW : Nat := 1000000000000000
def top (i : Nat) : Stmt := PySem.Challenge.pw_tablebeat_k41_whole_fewest_marks_of_any.main.body.getD i (.Pass ⟨0, 0, 0, 0⟩)
abbrev st__law_start : Stmt := top 18
abbrev st__law_beats : Stmt := top 21
abbrev st__law_widest : Stmt := top 25
abbrev st__law_marks : Stmt := top 23
abbrev st__law_lets : Stmt := top 22
abbrev st__law_many : Stmt := top 24
abbrev st__law_fewest : Stmt := top 26
abbrev st__law_drawn : Stmt := top 19
abbrev st_is_word : Stmt := top 6
abbrev st_need_beats : Stmt := top 8
abbrev st_Cover_left : Stmt := inClass (top 14) 1
abbrev st_Cover_many : Stmt := inClass (top 14) 2
abbrev st_Cover_first : Stmt := inClass (top 14) 3
abbrev st_Cover_init : Stmt := inClass (top 14) 0
abbrev st_all_beats : Stmt := top 7
abbrev st_all_marks : Stmt := top 11
abbrev st_fits : Stmt := top 9
abbrev st_wider : Stmt := top 12
abbrev st_marks_of : Stmt := top 13
abbrev st_fewest_of : Stmt := top 15
abbrev st_fewest : Stmt := top 16
abbrev st__law_same : Stmt := top 20
abbrev st_law : Stmt := top 27
abbrev st_x_BadBeat : Stmt := inClass (top 2) 0
def cn : Nat → Str
  | 0 => "BeatError"
  | 3 => "BadBeat"
  | 7 => "BadMarks"
  | 21 => "Cover"
  | _ => ""
def tq : List (He.Defn × Str) := []
def tf : List He.Defn := tq.map Prod.fst
abbrev cl (K : PySem.W.Frag) (w : World) : Cl := ⟨fun c => He.ga K (cn c), tabsQ K tq, fun k => k.hash w, fun _ _ _ => False⟩
structure Tx (K : PySem.W.Frag) (mg : Str → Option Value) (w : World) : Prop where
  g__law_start : mg "_law_start" = some (.ref (He.ga K "_law_start"))
  g__law_beats : mg "_law_beats" = some (.ref (He.ga K "_law_beats"))
  g__law_widest : mg "_law_widest" = some (.ref (He.ga K "_law_widest"))
  g__law_marks : mg "_law_marks" = some (.ref (He.ga K "_law_marks"))
  g__law_lets : mg "_law_lets" = some (.ref (He.ga K "_law_lets"))
  g__law_many : mg "_law_many" = some (.ref (He.ga K "_law_many"))
  g__law_fewest : mg "_law_fewest" = some (.ref (He.ga K "_law_fewest"))
  g__law_drawn : mg "_law_drawn" = some (.ref (He.ga K "_law_drawn"))
  g_is_word : mg "is_word" = some (.ref (He.ga K "is_word"))
  g_need_beats : mg "need_beats" = some (.ref (He.ga K "need_beats"))
  g_all_beats : mg "all_beats" = some (.ref (He.ga K "all_beats"))
  g_all_marks : mg "all_marks" = some (.ref (He.ga K "all_marks"))
  g_fits : mg "fits" = some (.ref (He.ga K "fits"))
  g_wider : mg "wider" = some (.ref (He.ga K "wider"))
  g_marks_of : mg "marks_of" = some (.ref (He.ga K "marks_of"))
  g_fewest_of : mg "fewest_of" = some (.ref (He.ga K "fewest_of"))
  g_fewest : mg "fewest" = some (.ref (He.ga K "fewest"))
  g__law_same : mg "_law_same" = some (.ref (He.ga K "_law_same"))
  g_law : mg "law" = some (.ref (He.ga K "law"))
  g_BeatError : mg "BeatError" = some (.ref (He.ga K "BeatError"))
  g_BadBeat : mg "BadBeat" = some (.ref (He.ga K "BadBeat"))
  g_BadMarks : mg "BadMarks" = some (.ref (He.ga K "BadMarks"))
  g_Cover : mg "Cover" = some (.ref (He.ga K "Cover"))
  z_range : mg "range" = none
  z_len : mg "len" = none
  z_tuple : mg "tuple" = none
  z_min : mg "min" = none
  z_enumerate : mg "enumerate" = none
  z_sorted : mg "sorted" = none
  z_set : mg "set" = none
  z_list : mg "list" = none
  z_isinstance : mg "isinstance" = none
  z_bool : mg "bool" = none
  z_int : mg "int" = none
  k_MOST_INS : Con0 K mg "MOST_INS" (.int 4)
  xb : ExB K (cl K w 0)
  xo_BadBeat : OexC K (cl K w 3)
  xi_BadBeat : (∀ f ∈ (["number"] : List Str), PySem.W.findIn K (.ref (cl K w 3)) f = some none) ∧ PySem.W.findIn K (.ref (cl K w 3)) "__init__" = some (some (.ref (He.ma K (cl K w 3) "__init__"))) ∧ PySem.W.typeIn K (.ref (He.ma K (cl K w 3) "__init__")) = some (.type "function")
  xt_BadMarks : ExT K (cl K w 7)
  c_Cover : Cls K (cl K w 21)
  mk_Cover : Mk K (cl K w 21) (He.ma K (He.ga K "Cover") "__init__")
  m_Cover_left : Meth K (cl K w 21) "left" (He.ma K (He.ga K "Cover") "left")
  m_Cover_many : Meth K (cl K w 21) "many" (He.ma K (He.ga K "Cover") "many")
  m_Cover_first : Meth K (cl K w 21) "first" (He.ma K (He.ga K "Cover") "first")
  fl_Cover_known : ∀ c ∈ ([21] : List Nat), Cls K (cl K w c) ∧ NoAttr K (cl K w c) "known"
  fl_Cover_marks : ∀ c ∈ ([21] : List Nat), Cls K (cl K w c) ∧ NoAttr K (cl K w c) "marks"
  f__law_start : ∃ fd, FunD K "_law_start" "_law_start" (defArgs st__law_start) (defBody st__law_start) (defScope st__law_start) [] [] (He.fAd K ("_law_start", none)) fd
  f__law_beats : ∃ fd, FunD K "_law_beats" "_law_beats" (defArgs st__law_beats) (defBody st__law_beats) (defScope st__law_beats) [] [] (He.fAd K ("_law_beats", none)) fd
  f__law_widest : ∃ fd, FunD K "_law_widest" "_law_widest" (defArgs st__law_widest) (defBody st__law_widest) (defScope st__law_widest) [] [] (He.fAd K ("_law_widest", none)) fd
  f__law_marks : ∃ fd, FunD K "_law_marks" "_law_marks" (defArgs st__law_marks) (defBody st__law_marks) (defScope st__law_marks) [] [] (He.fAd K ("_law_marks", none)) fd
  f__law_lets : ∃ fd, FunD K "_law_lets" "_law_lets" (defArgs st__law_lets) (defBody st__law_lets) (defScope st__law_lets) [] [] (He.fAd K ("_law_lets", none)) fd
  f__law_many : ∃ fd, FunD K "_law_many" "_law_many" (defArgs st__law_many) (defBody st__law_many) (defScope st__law_many) [] [] (He.fAd K ("_law_many", none)) fd
  f__law_fewest : ∃ fd, FunD K "_law_fewest" "_law_fewest" (defArgs st__law_fewest) (defBody st__law_fewest) (defScope st__law_fewest) [] [] (He.fAd K ("_law_fewest", none)) fd
  f__law_drawn : ∃ fd, FunD K "_law_drawn" "_law_drawn" (defArgs st__law_drawn) (defBody st__law_drawn) (defScope st__law_drawn) [] [] (He.fAd K ("_law_drawn", none)) fd
  f_is_word : ∃ fd, FunD K "is_word" "is_word" (defArgs st_is_word) (defBody st_is_word) (defScope st_is_word) [] [] (He.fAd K ("is_word", none)) fd
  f_need_beats : ∃ fd, FunD K "need_beats" "need_beats" (defArgs st_need_beats) (defBody st_need_beats) (defScope st_need_beats) [] [] (He.fAd K ("need_beats", none)) fd
  f_Cover_left : ∃ fd, FunD K "left" "Cover.left" (defArgs st_Cover_left) (defBody st_Cover_left) (defScope st_Cover_left) [] [] (He.fAd K ("Cover", some "left")) fd
  f_Cover_many : ∃ fd, FunD K "many" "Cover.many" (defArgs st_Cover_many) (defBody st_Cover_many) (defScope st_Cover_many) [] [] (He.fAd K ("Cover", some "many")) fd
  f_Cover_first : ∃ fd, FunD K "first" "Cover.first" (defArgs st_Cover_first) (defBody st_Cover_first) (defScope st_Cover_first) [] [] (He.fAd K ("Cover", some "first")) fd
  f_Cover_init : ∃ fd, FunD K "__init__" "Cover.__init__" (defArgs st_Cover_init) (defBody st_Cover_init) (defScope st_Cover_init) [] [] (He.fAd K ("Cover", some "__init__")) fd
  f_all_beats : ∃ fd, FunD K "all_beats" "all_beats" (defArgs st_all_beats) (defBody st_all_beats) (defScope st_all_beats) [] [] (He.fAd K ("all_beats", none)) fd
  f_all_marks : ∃ fd, FunD K "all_marks" "all_marks" (defArgs st_all_marks) (defBody st_all_marks) (defScope st_all_marks) [] [] (He.fAd K ("all_marks", none)) fd
  f_fits : ∃ fd, FunD K "fits" "fits" (defArgs st_fits) (defBody st_fits) (defScope st_fits) [] [] (He.fAd K ("fits", none)) fd
  f_wider : ∃ fd, FunD K "wider" "wider" (defArgs st_wider) (defBody st_wider) (defScope st_wider) [] [] (He.fAd K ("wider", none)) fd
  f_marks_of : ∃ fd, FunD K "marks_of" "marks_of" (defArgs st_marks_of) (defBody st_marks_of) (defScope st_marks_of) [] [] (He.fAd K ("marks_of", none)) fd
  f_fewest_of : ∃ fd, FunD K "fewest_of" "fewest_of" (defArgs st_fewest_of) (defBody st_fewest_of) (defScope st_fewest_of) [] [] (He.fAd K ("fewest_of", none)) fd
  f_fewest : ∃ fd, FunD K "fewest" "fewest" (defArgs st_fewest) (defBody st_fewest) (defScope st_fewest) [] [] (He.fAd K ("fewest", none)) fd
  f__law_same : ∃ fd, FunD K "_law_same" "_law_same" (defArgs st__law_same) (defBody st__law_same) (defScope st__law_same) [] [] (He.fAd K ("_law_same", none)) fd
  f_law : ∃ fd, FunD K "law" "law" (defArgs st_law) (defBody st_law) (defScope st_law) [] [] (He.fAd K ("law", none)) fd
  f_x_BadBeat : ∃ fd, FunD K "__init__" "BadBeat.__init__" (defArgs st_x_BadBeat) (defBody st_x_BadBeat) (defScope st_x_BadBeat) [] [] (He.fAd K ("BadBeat", some "__init__")) fd
theorem sc__law_start : FnScope ["_law_script", "_law_mixed", "_law_cell"] ["_law_script"] (defScope st__law_start) := ⟨rfl, rfl, rfl, by decide +kernel, rfl, by decide +kernel, by decide +kernel⟩
theorem sc__law_beats : FnScope ["_law_ins", "_law_rest", "_law_beat"] ["_law_ins"] (defScope st__law_beats) := ⟨rfl, rfl, rfl, by decide +kernel, rfl, by decide +kernel, by decide +kernel⟩
theorem sc__law_widest : FnScope ["_law_marks_here", "_law_found", "_law_mark", "_law_broad", "_law_k", "_law_one"] ["_law_marks_here"] (defScope st__law_widest) := ⟨rfl, rfl, rfl, by decide +kernel, rfl, by decide +kernel, by decide +kernel⟩
theorem sc__law_marks : FnScope ["_law_ins", "_law_rest", "_law_found", "_law_sign", "_law_mark"] ["_law_ins"] (defScope st__law_marks) := ⟨rfl, rfl, rfl, by decide +kernel, rfl, by decide +kernel, by decide +kernel⟩
theorem sc__law_lets : FnScope ["_law_mark", "_law_beat", "_law_k"] ["_law_mark", "_law_beat"] (defScope st__law_lets) := ⟨rfl, rfl, rfl, by decide +kernel, rfl, by decide +kernel, by decide +kernel⟩
theorem sc__law_many : FnScope ["_law_rest", "_law_marks_here", "_law_met", "_law_best", "_law_mark", "_law_less", "_law_beat"] ["_law_rest", "_law_marks_here", "_law_met"] (defScope st__law_many) := ⟨rfl, rfl, rfl, by decide +kernel, rfl, by decide +kernel, by decide +kernel⟩
theorem sc__law_fewest : FnScope ["_law_ins", "_law_some", "_law_others", "_law_good", "_law_met", "_law_found", "_law_rest", "_law_mark", "_law_less", "_law_beat"] ["_law_ins", "_law_some"] (defScope st__law_fewest) := ⟨rfl, rfl, rfl, by decide +kernel, rfl, by decide +kernel, by decide +kernel⟩
theorem sc__law_drawn : FnScope ["_law_state", "_law_many_here", "_law_found", "_law_cell"] ["_law_state", "_law_many_here"] (defScope st__law_drawn) := ⟨rfl, rfl, rfl, by decide +kernel, rfl, by decide +kernel, by decide +kernel⟩
theorem sc_is_word : FnScope ["word", "many", "signs", "sign"] ["word", "many", "signs"] (defScope st_is_word) := ⟨rfl, rfl, rfl, by decide +kernel, rfl, by decide +kernel, by decide +kernel⟩
theorem sc_need_beats : FnScope ["ins", "beats", "number", "beat"] ["ins", "beats"] (defScope st_need_beats) := ⟨rfl, rfl, rfl, by decide +kernel, rfl, by decide +kernel, by decide +kernel⟩
theorem sc_Cover_left : FnScope ["self", "rest", "beats", "beat"] ["self", "rest", "beats"] (defScope st_Cover_left) := ⟨rfl, rfl, rfl, by decide +kernel, rfl, by decide +kernel, by decide +kernel⟩
theorem sc_Cover_many : FnScope ["self", "rest", "some", "mark", "beats"] ["self", "rest"] (defScope st_Cover_many) := ⟨rfl, rfl, rfl, by decide +kernel, rfl, by decide +kernel, by decide +kernel⟩
theorem sc_Cover_first : FnScope ["self", "rest", "found", "mark", "beats", "behind"] ["self", "rest"] (defScope st_Cover_first) := ⟨rfl, rfl, rfl, by decide +kernel, rfl, by decide +kernel, by decide +kernel⟩
theorem sc_Cover_init : FnScope ["self", "marks"] ["self", "marks"] (defScope st_Cover_init) := ⟨rfl, rfl, rfl, by decide +kernel, rfl, by decide +kernel, by decide +kernel⟩
theorem sc_all_beats : FnScope ["ins", "found", "wire", "longer", "beat"] ["ins"] (defScope st_all_beats) := ⟨rfl, rfl, rfl, by decide +kernel, rfl, by decide +kernel, by decide +kernel⟩
theorem sc_all_marks : FnScope ["ins", "found", "wire", "longer", "mark", "sign"] ["ins"] (defScope st_all_marks) := ⟨rfl, rfl, rfl, by decide +kernel, rfl, by decide +kernel, by decide +kernel⟩
theorem sc_fits : FnScope ["mark", "beat", "k"] ["mark", "beat"] (defScope st_fits) := ⟨rfl, rfl, rfl, by decide +kernel, rfl, by decide +kernel, by decide +kernel⟩
theorem sc_wider : FnScope ["mark", "k"] ["mark"] (defScope st_wider) := ⟨rfl, rfl, rfl, by decide +kernel, rfl, by decide +kernel, by decide +kernel⟩
theorem sc_marks_of : FnScope ["ins", "some", "beats", "known", "mark", "good", "beat", "one"] ["ins", "some"] (defScope st_marks_of) := ⟨rfl, rfl, rfl, by decide +kernel, rfl, by decide +kernel, by decide +kernel⟩
theorem sc_fewest_of : FnScope ["ins", "some"] ["ins", "some"] (defScope st_fewest_of) := ⟨rfl, rfl, rfl, by decide +kernel, rfl, by decide +kernel, by decide +kernel⟩
theorem sc_fewest : FnScope ["ins", "some"] ["ins", "some"] (defScope st_fewest) := ⟨rfl, rfl, rfl, by decide +kernel, rfl, by decide +kernel, by decide +kernel⟩
theorem sc__law_same : FnScope ["_law_found", "_law_due", "_law_kinds", "_law_k"] ["_law_found", "_law_due"] (defScope st__law_same) := ⟨rfl, rfl, rfl, by decide +kernel, rfl, by decide +kernel, by decide +kernel⟩
theorem sc_law : FnScope ["_law_script", "_law_state", "_law_turn", "_law_ins", "_law_beats_here", "_law_often", "_law_some", "_law_marks_here", "_law_k", "_law_let", "_law_due", "_law_again", "_law_found", "_law_beat", "_law_wire", "_law_mark"] ["_law_script"] (defScope st_law) := ⟨rfl, rfl, rfl, by decide +kernel, rfl, by decide +kernel, by decide +kernel⟩
section
variable {P : Program} {w : World} {K : PySem.W.Frag} {mg : Str → Option Value} {base : Heap}
theorem sc_x_BadBeat : FnScope ["self", "number"] ["self", "number"] (defScope st_x_BadBeat) := ⟨rfl, rfl, rfl, by decide +kernel, rfl, by decide +kernel, by decide +kernel⟩
theorem x_BadBeat (T : Tx K mg w) : ExC P w (cl K w) K mg base 3 1 ["number"] := by
  obtain ⟨fd, Fu⟩ := T.f_x_BadBeat
  refine ⟨T.xo_BadBeat, T.xi_BadBeat.1, _, fd, ["self", "number"], spEx1 K (cl K w 3) "number", T.xi_BadBeat.2.1, T.xi_BadBeat.2.2, Fu.bindsN (fun _ _ _ _ _ _ us hl => match us, hl with | [_, _], _ => rfl), ?_, rfl⟩
  refine Fu.ok sc_x_BadBeat (fun vs H Q E h => ?_) (fun cdv A outer s H vs Q E hr h => ?_)
  · obtain ⟨a, y, rfl, _⟩ := h; rfl
  · obtain ⟨a, y, rfl, oex, n1, ha, k⟩ := h
    refine ⟨_, pss_cons (ps_expr (pe_beinit (by rfl) T.g_BeatError T.xb.hs1 T.xb.hrd T.xb.vV (pa_cons (pv 0) (pa_cons pe_str pa_nil)))) (pss_one (ps_ost (pv 0) (pv 1))), ?_⟩
    refine ⟨_, rfl, a, cl K w 3, [.str "it can't be"], rfl, (by show 1 ≤ 1000; decide), oex, ha, ?_⟩
    exact ⟨_, rfl, _, rfl, a, cl K w 3, rfl, oex, n1, .inl ⟨ha, fun dx hdx hne => k dx hdx hne⟩⟩
noncomputable def br__law_start : Sl → Sto → Res Fl :=
  (sSeq (sAsg (dC (.int 1)) (gVar 1))
  (sSeq (sFor (iVal (dVar 0)) (gVar 2) (sAsg (d2 modD (d2 addD (d2 addD (d2 mulD (dVar 1) (dC (.int 48271))) (dVar 2)) (dC (.int 7))) (dC (.int 2147483647))) (gVar 1)))
  (sRet (dLst (dCons (dVar 0) (dCons (dC (.int 0)) (dCons (dVar 1) (dCons (dC (.int 0)) dNil))))))))
noncomputable def Fr__law_start : List D → Sto → Res D := cutF (dFn 3 br__law_start)
theorem dr__law_start (T : Tx K mg w) : FnD P w (cl K w) K mg base 1 (He.ga K "_law_start") 1 Fr__law_start := by
  obtain ⟨fd, Fu⟩ := T.f__law_start
  exact (fnD_of Fu sc__law_start (fun _ _ _ _ _ _ us hl => match us, hl with | [_], _ => rfl) (fun cdv A outer s H E co =>
      (z2Q (z2T (i := 1) co.nd rfl (Or.inl rfl) z2S)
      (z2Q (ds_for co.po co.calm (di_val (z13 0)) (dg_name (i := 2) co.nd rfl (Or.inl rfl)) (z2R (z2T (i := 1) co.nd rfl (Or.inl rfl) (z2U op_modD (z2U op_addD (z2U op_addD (z2U op_mulD (z13 1) z2S) (z13 2)) z2S) z2S))))
      (z2R (ds_ret (de_lst (z2M (z13 0) (z2M z2S (z2M (z13 1) (z2M z2S z2P))))))))))).cut
noncomputable def b__law_drawn : Sl → Sto → Res Fl :=
  (sSeq (sIf (d2T gtD (d2 ixD (dVar 0) (dC (.int 3))) (dC (.int 0))) (sSeq (sAsg (d2 modD (d2 ixD (dVar 0) (dC (.int 3))) (dVar 1)) (gVar 2))
  (sSeq (sAsg (d2 fdivD (d2 ixD (dVar 0) (dC (.int 3))) (dVar 1)) (gSubD setD (dVar 0) (dC (.int 3))))
  (sRet (dVar 2)))) sNext)
  (sSeq (sAsg (d2 addD (d2 ixD (dVar 0) (dC (.int 1))) (dC (.int 1))) (gSubD setD (dVar 0) (dC (.int 1))))
  (sSeq (sIf (d2T leD (d2 ixD (dVar 0) (dC (.int 1))) (dCall lenD (dCons (d2 ixD (dVar 0) (dC (.int 0))) dNil))) (sSeq (sAsg (d2 ixD (d2 ixD (dVar 0) (dC (.int 0))) (d2 subD (d2 ixD (dVar 0) (dC (.int 1))) (dC (.int 1)))) (gVar 3))
  (sSeq (sAsg (dIf (d2T geD (dVar 3) (d2 powD (dC (.int 10)) (dC (.int 18)))) (d2 fdivD (dVar 3) (dVar 1)) (dC (.int 0))) (gSubD setD (dVar 0) (dC (.int 3))))
  (sRet (d2 modD (dVar 3) (dVar 1))))) sNext)
  (sSeq (sAsg (d2 modD (d2 addD (d2 mulD (d2 ixD (dVar 0) (dC (.int 2))) (dC (.int 48271))) (dC (.int 11))) (dC (.int 2147483647))) (gSubD setD (dVar 0) (dC (.int 2))))
  (sRet (d2 modD (d2 fdivD (d2 ixD (dVar 0) (dC (.int 2))) (dC (.int 7))) (dVar 1)))))))
noncomputable def F__law_drawn : List D → Sto → Res D := cutF (dFn 4 b__law_drawn)
theorem d__law_drawn (T : Tx K mg w) : FnD P w (cl K w) K mg base 1 (He.ga K "_law_drawn") 2 F__law_drawn := by
  obtain ⟨fd, Fu⟩ := T.f__law_drawn
  exact (fnD_of Fu sc__law_drawn (fun _ _ _ _ _ _ us hl => match us, hl with | [_, _], _ => rfl) (fun cdv A outer s H E co =>
      (z2Q (ds_if (dt_cmp op_gtD (de_ix (z13 0) z2S) z2S (nomark _)) (z2Q (z2T (i := 2) co.nd rfl (Or.inl rfl) (z2U op_modD (de_ix (z13 0) z2S) (z13 1)))
      (z2Q (ds_asg (z2U op_fdivD (de_ix (z13 0) z2S) (z13 1)) (dg_sub (z13 0) z2S set_lstD))
      (z2R (ds_ret (z13 2))))) dss_nil)
      (z2Q (ds_asg (z2U op_addD (de_ix (z13 0) z2S) z2S) (dg_sub (z13 0) z2S set_lstD))
      (z2Q (ds_if (dt_cmp op_leD (de_ix (z13 0) z2S) (de_callB cd_len (by rfl) T.z_len (by decide +kernel) (z2M (de_ix (z13 0) z2S) z2P)) (nomark _)) (z2Q (z2T (i := 3) co.nd rfl (Or.inl rfl) (de_ix (de_ix (z13 0) z2S) (z2U op_subD (de_ix (z13 0) z2S) z2S)))
      (z2Q (ds_asg (de_if (dt_cmp op_geD (z13 3) (z2U op_powD z2S z2S) (nomark _)) (z2U op_fdivD (z13 3) (z13 1)) z2S) (dg_sub (z13 0) z2S set_lstD))
      (z2R (ds_ret (z2U op_modD (z13 3) (z13 1)))))) dss_nil)
      (z2Q (ds_asg (z2U op_modD (z2U op_addD (z2U op_mulD (de_ix (z13 0) z2S) z2S) z2S) z2S) (dg_sub (z13 0) z2S set_lstD))
      (z2R (ds_ret (z2U op_modD (z2U op_fdivD (de_ix (z13 0) z2S) z2S) (z13 1)))))))))).cut
noncomputable def b__law_beats (Frec : List D → Sto → Res D) : Sl → Sto → Res Fl :=
  (sSeq (sIf (d2T eqD (dVar 0) (dC (.int 0))) (sRet (dLstF (dCons (dC (.str "")) dNil))) sNext)
  (sSeq (sAsg (dCallF 1 Frec (dCons (d2 subD (dVar 0) (dC (.int 1))) dNil)) (gVar 1))
  (sRet (d2 addF (dFrz (dComp [2] (iVal (dVar 1)) (gVar 2) tYesD (d2 addD (dC (.str "0")) (dVar 2)))) (dFrz (dComp [2] (iVal (dVar 1)) (gVar 2) tYesD (d2 addD (dC (.str "1")) (dVar 2))))))))
noncomputable def F__law_beats : Nat → List D → Sto → Res D
  | 0 => fun _ _ => .stuck
  | n + 1 => cutF (dFn 3 (b__law_beats (F__law_beats n)))
theorem d__law_beats (T : Tx K mg w) : ∀ n : Nat, FnD P w (cl K w) K mg base (1 + n) (He.ga K "_law_beats") 1 (F__law_beats n)
  | 0 => by
    obtain ⟨fd, Fu⟩ := T.f__law_beats
    exact fnD_stuck Fu (ps := ["_law_ins"]) (fun _ _ _ _ _ _ us hl => match us, hl with | [_], _ => rfl)
  | n + 1 => by
    have hrec := d__law_beats T n
    obtain ⟨fd, Fu⟩ := T.f__law_beats
    exact (fnD_of (k := 1 + n) Fu sc__law_beats (fun _ _ _ _ _ _ us hl => match us, hl with | [_], _ => rfl) (fun cdv A outer s H E co =>
      (z2Q (ds_if (dt_cmp (op_eqDD co.hu) (z13 0) z2S (nomark _)) (z2R (ds_ret (de_lstF (z2M de_str z2P)))) dss_nil)
      (z2Q (z2T (i := 1) co.nd rfl (Or.inl rfl) (de_call hrec (co.hr.mono (by omega)) co.px (by rfl) T.g__law_beats (z2M (z2U op_subD (z13 0) z2S) z2P)))
      (z2R (ds_ret (z2U op_addF (de_frz (de_comp (own := [("_law_beat", 2)]) co.calm co.nd (di_val (z13 1)) (blkOk_by (by kernel_rfl)) (fun _ _ _ _ _ => (dgw_name (i := 2) (by decide) (co.blk _ _ _ _ _).nd rfl (Or.inl rfl))) (fun _ _ _ _ _ => dts_nil) (fun _ _ _ _ _ => (z2U op_addD de_str (z13 2))))) (de_frz (de_comp (own := [("_law_beat", 2)]) co.calm co.nd (di_val (z13 1)) (blkOk_by (by kernel_rfl)) (fun _ _ _ _ _ => (dgw_name (i := 2) (by decide) (co.blk _ _ _ _ _).nd rfl (Or.inl rfl))) (fun _ _ _ _ _ => dts_nil) (fun _ _ _ _ _ => (z2U op_addD de_str (z13 2)))))))))))).cut
noncomputable def b__law_lets : Sl → Sto → Res Fl :=
  (sSeq (sFor (iRngD1 (dCall lenD (dCons (dVar 0) dNil))) (gVar 2) (sIf (tAndD (d2T neD (d2 ixD (dVar 0) (dVar 2)) (dC (.str "-"))) (d2T neD (d2 ixD (dVar 0) (dVar 2)) (d2 ixD (dVar 1) (dVar 2)))) (sRet (dC (.bl false))) sNext))
  (sRet (dC (.bl true))))
noncomputable def F__law_lets : List D → Sto → Res D := cutF (dFn 3 b__law_lets)
theorem d__law_lets (T : Tx K mg w) : FnD P w (cl K w) K mg base 1 (He.ga K "_law_lets") 2 F__law_lets := by
  obtain ⟨fd, Fu⟩ := T.f__law_lets
  exact (fnD_of Fu sc__law_lets (fun _ _ _ _ _ _ us hl => match us, hl with | [_, _], _ => rfl) (fun cdv A outer s H E co =>
      (z2Q (ds_for co.po co.calm (di_range1 (by rfl) T.z_range (de_callB cd_len (by rfl) T.z_len (by decide +kernel) (z2M (z13 0) z2P))) (dg_name (i := 2) co.nd rfl (Or.inl rfl)) (z2R (ds_if (dt_bool (dw_and (dt_cmp (op_neDD co.hu) (de_ix (z13 0) (z13 2)) de_str (nomark _)) (dw_and1 (dt_cmp (op_neDD co.hu) (de_ix (z13 0) (z13 2)) (de_ix (z13 1) (z13 2)) (nomark _))))) (z2R (ds_ret de_bl)) dss_nil)))
      (z2R (ds_ret de_bl))))).cut
noncomputable def b__law_marks (Frec : List D → Sto → Res D) : Sl → Sto → Res Fl :=
  (sSeq (sIf (d2T eqD (dVar 0) (dC (.int 0))) (sRet (dLstF (dCons (dC (.str "")) dNil))) sNext)
  (sSeq (sAsg (dCallF 1 Frec (dCons (d2 subD (dVar 0) (dC (.int 1))) dNil)) (gVar 1))
  (sSeq (sAsg (dLstF dNil) (gVar 2))
  (sSeq (sFor (iVal (dC (.str "-01"))) (gVar 3) (sAsg (d2 addF (dVar 2) (dFrz (dComp [4] (iVal (dVar 1)) (gVar 4) tYesD (d2 addD (dVar 3) (dVar 4))))) (gVar 2)))
  (sRet (dVar 2))))))
noncomputable def F__law_marks : Nat → List D → Sto → Res D
  | 0 => fun _ _ => .stuck
  | n + 1 => cutF (dFn 5 (b__law_marks (F__law_marks n)))
theorem d__law_marks (T : Tx K mg w) : ∀ n : Nat, FnD P w (cl K w) K mg base (1 + n) (He.ga K "_law_marks") 1 (F__law_marks n)
  | 0 => by
    obtain ⟨fd, Fu⟩ := T.f__law_marks
    exact fnD_stuck Fu (ps := ["_law_ins"]) (fun _ _ _ _ _ _ us hl => match us, hl with | [_], _ => rfl)
  | n + 1 => by
    have hrec := d__law_marks T n
    obtain ⟨fd, Fu⟩ := T.f__law_marks
    exact (fnD_of (k := 1 + n) Fu sc__law_marks (fun _ _ _ _ _ _ us hl => match us, hl with | [_], _ => rfl) (fun cdv A outer s H E co =>
      (z2Q (ds_if (dt_cmp (op_eqDD co.hu) (z13 0) z2S (nomark _)) (z2R (ds_ret (de_lstF (z2M de_str z2P)))) dss_nil)
      (z2Q (z2T (i := 1) co.nd rfl (Or.inl rfl) (de_call hrec (co.hr.mono (by omega)) co.px (by rfl) T.g__law_marks (z2M (z2U op_subD (z13 0) z2S) z2P)))
      (z2Q (z2T (i := 2) co.nd rfl (Or.inl rfl) (de_lstF z2P))
      (z2Q (ds_for co.po co.calm (di_val de_str) (dg_name (i := 3) co.nd rfl (Or.inr rfl)) (z2R (z2T (i := 2) co.nd rfl (Or.inl rfl) (z2U op_addF (z13 2) (de_frz (de_comp (own := [("_law_mark", 4)]) co.calm co.nd (di_val (z13 1)) (blkOk_by (by kernel_rfl)) (fun _ _ _ _ _ => (dgw_name (i := 4) (by decide) (co.blk _ _ _ _ _).nd rfl (Or.inl rfl))) (fun _ _ _ _ _ => dts_nil) (fun _ _ _ _ _ => (z2U op_addD (z13 3) (z13 4)))))))))
      (z2R (ds_ret (z13 2))))))))).cut
noncomputable def b__law_widest : Sl → Sto → Res Fl :=
  (sSeq (sAsg (dLst dNil) (gVar 1))
  (sSeq (sFor (iVal (dVar 0)) (gVar 2) (sSeq (sAsg (dFrz (dComp [4] (iRngD1 (dCall lenD (dCons (dVar 2) dNil))) (gVar 4) (d2T neD (d2 ixD (dVar 2) (dVar 4)) (dC (.str "-"))) (d2 addD (d2 addD (dSlice (dVar 2) oNone (oSome (dVar 4))) (dC (.str "-"))) (dSlice (dVar 2) (oSome (d2 addD (dVar 4) (dC (.int 1)))) oNone)))) (gVar 3))
  (sIf (d2T eqD (dFrz (dComp [5] (iVal (dVar 3)) (gVar 5) (d2T inD (dVar 5) (dVar 0)) (dVar 5))) (dLstF dNil)) (sExpr (dBm "list" appendD (dVar 1) (dCons (dVar 2) dNil))) sNext)))
  (sRet (dFrz (dVar 1)))))
noncomputable def F__law_widest : List D → Sto → Res D := cutF (dFn 6 b__law_widest)
theorem d__law_widest (T : Tx K mg w) : FnD P w (cl K w) K mg base 1 (He.ga K "_law_widest") 1 F__law_widest := by
  obtain ⟨fd, Fu⟩ := T.f__law_widest
  exact (fnD_of Fu sc__law_widest (fun _ _ _ _ _ _ us hl => match us, hl with | [_], _ => rfl) (fun cdv A outer s H E co =>
      (z2Q (z2T (i := 1) co.nd rfl (Or.inl rfl) (de_lst z2P))
      (z2Q (ds_for co.po co.calm (di_val (z13 0)) (dg_name (i := 2) co.nd rfl (Or.inr rfl)) (z2Q (ds_compF (i := 3) (own := [("_law_k", 4)]) co.calm co.nd rfl rfl (sw_true rfl rfl rfl (by decide +kernel)) (di_range1 (by rfl) T.z_range (de_callB cd_len (by rfl) T.z_len (by decide +kernel) (z2M (z13 2) z2P))) (blkOk_by (by kernel_rfl)) (fun _ _ _ _ _ => (dgw_name (i := 4) (by decide) (co.blk _ _ _ _ _).nd rfl (Or.inl rfl))) (fun _ _ _ _ _ => (dts_one (dt_cmp (op_neDD (co.blk _ _ _ _ _).hu) (de_ix (z13 2) (z13 4)) de_str (nomark _)))) (fun _ _ _ _ _ => (z2U op_addD (z2U op_addD (de_slice (z13 2) dpo_none (dpo_some (z13 4))) de_str) (de_slice (z13 2) (dpo_some (z2U op_addD (z13 4) z2S)) dpo_none))))
      (z2R (ds_if (dt_cmp (op_eqDD co.hu) (de_frz (de_comp (own := [("_law_one", 5)]) co.calm co.nd (di_val (z13 3)) (blkOk_by (by kernel_rfl)) (fun _ _ _ _ _ => (dgw_name (i := 5) (by decide) (co.blk _ _ _ _ _).nd rfl (Or.inl rfl))) (fun _ _ _ _ _ => (dts_one (dt_cmp (op_inDD (co.blk _ _ _ _ _).hu5) (z13 5) (z13 0)))) (fun _ _ _ _ _ => (z13 5)))) (de_lstF z2P) (nomark _)) (z2R (ds_expr (de_bm PySem.F.plainAttrs_list PySem.F.slot_list_append PySem.F.type_list_append md_append (z13 1) (z2M (z13 2) z2P)))) dss_nil))))
      (z2R (ds_ret (de_frz (z13 1)))))))).cut
noncomputable def b__law_many (Frec : List D → Sto → Res D) : Sl → Sto → Res Fl :=
  (sSeq (sIf (d2T eqD (dVar 0) (dTup dNil)) (sRet (dC (.int 0))) sNext)
  (sSeq (sIf (d2T notInDicN (dVar 0) (dVar 2)) (sSeq (sAsg (dC (.int 99)) (gVar 3))
  (sSeq (sFor (iVal (dVar 1)) (gVar 4) (sIf (tstB (dCallF 2 F__law_lets (dCons (dVar 4) (dCons (d2 ixD (dVar 0) (dC (.int 0))) dNil)))) (sSeq (sAsg (dCall tupleD (dCons (dFrz (dComp [6] (iVal (dVar 0)) (gVar 6) (tNotD (tstB (dCallF 2 F__law_lets (dCons (dVar 4) (dCons (dVar 6) dNil))))) (dVar 6))) dNil)) (gVar 5))
  (sAsg (dCall min2D (dCons (dVar 3) (dCons (d2 addD (dC (.int 1)) (dCallF 3 Frec (dCons (dVar 5) (dCons (dVar 1) (dCons (dVar 2) dNil))))) dNil))) (gVar 3))) sNext))
  (sAsg (dVar 3) (gSubD setDicN (dVar 2) (dVar 0))))) sNext)
  (sRet (d2 ixDicN (dVar 2) (dVar 0)))))
noncomputable def F__law_many : Nat → List D → Sto → Res D
  | 0 => fun _ _ => .stuck
  | n + 1 => cutF (dFn 7 (b__law_many (F__law_many n)))
theorem d__law_many (T : Tx K mg w) : ∀ n : Nat, FnD P w (cl K w) K mg base (2 + n) (He.ga K "_law_many") 3 (F__law_many n)
  | 0 => by
    obtain ⟨fd, Fu⟩ := T.f__law_many
    exact fnD_stuck Fu (ps := ["_law_rest", "_law_marks_here", "_law_met"]) (fun _ _ _ _ _ _ us hl => match us, hl with | [_, _, _], _ => rfl)
  | n + 1 => by
    have hrec := d__law_many T n
    obtain ⟨fd, Fu⟩ := T.f__law_many
    exact (fnD_of (k := 2 + n) Fu sc__law_many (fun _ _ _ _ _ _ us hl => match us, hl with | [_, _, _], _ => rfl) (fun cdv A outer s H E co =>
      (z2Q (ds_if (dt_cmp (op_eqDD co.hu) (z13 0) (de_tup z2P) (nomark _)) (z2R (ds_ret z2S)) dss_nil)
      (z2Q (ds_if (dt_cmp (op_notInDicN co.hu5 rfl) (z13 0) (z13 2)) (z2Q (z2T (i := 3) co.nd rfl (Or.inl rfl) z2S)
      (z2Q (ds_for co.po co.calm (di_val (z13 1)) (dg_name (i := 4) co.nd rfl (Or.inr rfl)) (z2R (ds_if (dt_val (de_call (d__law_lets T) (co.hr.mono (by first | decide | omega)) co.px (by rfl) T.g__law_lets (z2M (z13 4) (z2M (de_ix (z13 0) z2S) z2P)))) (z2Q (z2T (i := 5) co.nd rfl (Or.inl rfl) (de_callTy cd_tuple (by rfl) T.z_tuple (by decide +kernel) (z2M (de_frz (de_comp (own := [("_law_beat", 6)]) co.calm co.nd (di_val (z13 0)) (blkOk_by (by kernel_rfl)) (fun _ _ _ _ _ => (dgw_name (i := 6) (by decide) (co.blk _ _ _ _ _).nd rfl (Or.inl rfl))) (fun _ _ _ _ _ => (dts_one (dt_not (dt_val (de_call (d__law_lets T) ((co.blk _ _ _ _ _).hr.mono (by first | decide | omega)) (co.blk _ _ _ _ _).px (by rfl) T.g__law_lets (z2M (z13 4) (z2M (z13 6) z2P))))))) (fun _ _ _ _ _ => (z13 6)))) z2P)))
      (z2R (z2T (i := 3) co.nd rfl (Or.inl rfl) (de_callB (cd_min2 co.calm) (by rfl) T.z_min (by decide +kernel) (z2M (z13 3) (z2M (z2U op_addD z2S (de_call hrec (co.hr.mono (by omega)) co.px (by rfl) T.g__law_many (z2M (z13 5) (z2M (z13 1) (z2M (z13 2) z2P))))) z2P)))))) dss_nil)))
      (z2R (ds_asg (z13 3) (dg_sub (z13 2) (z13 0) (set_dicN co.hu5 rfl)))))) dss_nil)
      (z2R (ds_ret (de_ixDicN co.hu5 rfl (z13 2) (z13 0)))))))).cut
noncomputable def b__law_fewest : Sl → Sto → Res Fl :=
  (sSeq (sAsg (dFrz (dComp [9] (iVal (dCallF 1 (F__law_beats 40) (dCons (dVar 0) dNil))) (gVar 9) (d2T notInD (dVar 9) (dVar 1)) (dVar 9))) (gVar 2))
  (sSeq (sAsg (dFrz (dComp [7] (iVal (dCallF 1 (F__law_marks 40) (dCons (dVar 0) dNil))) (gVar 7) (d2T eqD (dFrz (dComp [9] (iVal (dVar 2)) (gVar 9) (tstB (dCallF 2 F__law_lets (dCons (dVar 7) (dCons (dVar 9) dNil)))) (dVar 9))) (dLstF dNil)) (dVar 7))) (gVar 3))
  (sSeq (sAsg (dCallF 1 F__law_widest (dCons (dFrz (dComp [7] (iVal (dVar 3)) (gVar 7) (d2T neD (dFrz (dComp [9] (iVal (dVar 1)) (gVar 9) (tstB (dCallF 2 F__law_lets (dCons (dVar 7) (dCons (dVar 9) dNil)))) (dVar 9))) (dLstF dNil)) (dVar 7))) dNil)) (gVar 3))
  (sSeq (sAsg dDispN0 (gVar 4))
  (sSeq (sAsg (dLst dNil) (gVar 5))
  (sSeq (sAsg (dCall tupleD (dCons (dVar 1) dNil)) (gVar 6))
  (sSeq (sFor (iVal (dVar 3)) (gVar 7) (sSeq (sAsg (dCall tupleD (dCons (dFrz (dComp [9] (iVal (dVar 6)) (gVar 9) (tNotD (tstB (dCallF 2 F__law_lets (dCons (dVar 7) (dCons (dVar 9) dNil))))) (dVar 9))) dNil)) (gVar 8))
  (sIf (tAndD (d2T ltD (dCall lenD (dCons (dVar 8) dNil)) (dCall lenD (dCons (dVar 6) dNil))) (d2T eqD (d2 addD (dC (.int 1)) (dCallF 3 (F__law_many 40) (dCons (dVar 8) (dCons (dVar 3) (dCons (dVar 4) dNil))))) (dCallF 3 (F__law_many 40) (dCons (dVar 6) (dCons (dVar 3) (dCons (dVar 4) dNil)))))) (sSeq (sExpr (dBm "list" appendD (dVar 5) (dCons (dVar 7) dNil)))
  (sAsg (dVar 8) (gVar 6))) sNext)))
  (sRet (dFrz (dVar 5))))))))))
noncomputable def F__law_fewest : List D → Sto → Res D := cutF (dFn 10 b__law_fewest)
theorem d__law_fewest (T : Tx K mg w) : FnD P w (cl K w) K mg base 43 (He.ga K "_law_fewest") 2 F__law_fewest := by
  obtain ⟨fd, Fu⟩ := T.f__law_fewest
  exact (fnD_of Fu sc__law_fewest (fun _ _ _ _ _ _ us hl => match us, hl with | [_, _], _ => rfl) (fun cdv A outer s H E co =>
      (z2Q (z2T (i := 2) co.nd rfl (Or.inr rfl) (de_frz (de_comp (own := [("_law_beat", 9)]) co.calm co.nd (di_val (de_call (d__law_beats T 40) (co.hr.mono (by first | decide | omega)) co.px (by rfl) T.g__law_beats (z2M (z13 0) z2P))) (blkOk_by (by kernel_rfl)) (fun _ _ _ _ _ => (dgw_name (i := 9) (by decide) (co.blk _ _ _ _ _).nd rfl (Or.inl rfl))) (fun _ _ _ _ _ => (dts_one (dt_cmp (op_notInDD (co.blk _ _ _ _ _).hu5) (z13 9) (z13 1)))) (fun _ _ _ _ _ => (z13 9)))))
      (z2Q (ds_compF (i := 3) (own := [("_law_mark", 7)]) co.calm co.nd rfl rfl (sw_true rfl rfl rfl (by decide +kernel)) (di_val (de_call (d__law_marks T 40) (co.hr.mono (by first | decide | omega)) co.px (by rfl) T.g__law_marks (z2M (z13 0) z2P))) (blkOk_by (by kernel_rfl)) (fun _ _ _ _ _ => (dgw_name (i := 7) (by decide) (co.blk _ _ _ _ _).nd rfl (Or.inr rfl))) (fun _ _ _ _ _ => (dts_one (dt_cmp (op_eqDD (co.blk _ _ _ _ _).hu) (de_frz (de_comp (own := [("_law_beat", 9)]) (co.blk _ _ _ _ _).calm (co.blk _ _ _ _ _).nd (di_val (z13 2)) (blkOk_by (by kernel_rfl)) (fun _ _ _ _ _ => (dgw_name (i := 9) (by decide) ((co.blk _ _ _ _ _).blk _ _ _ _ _).nd rfl (Or.inl rfl))) (fun _ _ _ _ _ => (dts_one (dt_val (de_call (d__law_lets T) (((co.blk _ _ _ _ _).blk _ _ _ _ _).hr.mono (by first | decide | omega)) ((co.blk _ _ _ _ _).blk _ _ _ _ _).px (by rfl) T.g__law_lets (z2M (z13 7) (z2M (z13 9) z2P)))))) (fun _ _ _ _ _ => (z13 9)))) (de_lstF z2P) (nomark _)))) (fun _ _ _ _ _ => (z13 7)))
      (z2Q (z2T (i := 3) co.nd rfl (Or.inl rfl) (de_call (d__law_widest T) (co.hr.mono (by first | decide | omega)) co.px (by rfl) T.g__law_widest (z2M (de_frz (de_comp (own := [("_law_mark", 7)]) co.calm co.nd (di_val (z13 3)) (blkOk_by (by kernel_rfl)) (fun _ _ _ _ _ => (dgw_name (i := 7) (by decide) (co.blk _ _ _ _ _).nd rfl (Or.inr rfl))) (fun _ _ _ _ _ => (dts_one (dt_cmp (op_neDD (co.blk _ _ _ _ _).hu) (de_frz (de_comp (own := [("_law_beat", 9)]) (co.blk _ _ _ _ _).calm (co.blk _ _ _ _ _).nd (di_val (z13 1)) (blkOk_by (by kernel_rfl)) (fun _ _ _ _ _ => (dgw_name (i := 9) (by decide) ((co.blk _ _ _ _ _).blk _ _ _ _ _).nd rfl (Or.inl rfl))) (fun _ _ _ _ _ => (dts_one (dt_val (de_call (d__law_lets T) (((co.blk _ _ _ _ _).blk _ _ _ _ _).hr.mono (by first | decide | omega)) ((co.blk _ _ _ _ _).blk _ _ _ _ _).px (by rfl) T.g__law_lets (z2M (z13 7) (z2M (z13 9) z2P)))))) (fun _ _ _ _ _ => (z13 9)))) (de_lstF z2P) (nomark _)))) (fun _ _ _ _ _ => (z13 7)))) z2P)))
      (z2Q (z2T (i := 4) co.nd rfl (Or.inl rfl) de_dispN0)
      (z2Q (z2T (i := 5) co.nd rfl (Or.inl rfl) (de_lst z2P))
      (z2Q (z2T (i := 6) co.nd rfl (Or.inl rfl) (de_callTy cd_tuple (by rfl) T.z_tuple (by decide +kernel) (z2M (z13 1) z2P)))
      (z2Q (ds_for co.po co.calm (di_val (z13 3)) (dg_name (i := 7) co.nd rfl (Or.inr rfl)) (z2Q (z2T (i := 8) co.nd rfl (Or.inl rfl) (de_callTy cd_tuple (by rfl) T.z_tuple (by decide +kernel) (z2M (de_frz (de_comp (own := [("_law_beat", 9)]) co.calm co.nd (di_val (z13 6)) (blkOk_by (by kernel_rfl)) (fun _ _ _ _ _ => (dgw_name (i := 9) (by decide) (co.blk _ _ _ _ _).nd rfl (Or.inl rfl))) (fun _ _ _ _ _ => (dts_one (dt_not (dt_val (de_call (d__law_lets T) ((co.blk _ _ _ _ _).hr.mono (by first | decide | omega)) (co.blk _ _ _ _ _).px (by rfl) T.g__law_lets (z2M (z13 7) (z2M (z13 9) z2P))))))) (fun _ _ _ _ _ => (z13 9)))) z2P)))
      (z2R (ds_if (dt_bool (dw_and (dt_cmp op_ltD (de_callB cd_len (by rfl) T.z_len (by decide +kernel) (z2M (z13 8) z2P)) (de_callB cd_len (by rfl) T.z_len (by decide +kernel) (z2M (z13 6) z2P)) (nomark _)) (dw_and1 (dt_cmp (op_eqDD co.hu) (z2U op_addD z2S (de_call (d__law_many T 40) (co.hr.mono (by first | decide | omega)) co.px (by rfl) T.g__law_many (z2M (z13 8) (z2M (z13 3) (z2M (z13 4) z2P))))) (de_call (d__law_many T 40) (co.hr.mono (by first | decide | omega)) co.px (by rfl) T.g__law_many (z2M (z13 6) (z2M (z13 3) (z2M (z13 4) z2P)))) (nomark _))))) (z2Q (ds_expr (de_bm PySem.F.plainAttrs_list PySem.F.slot_list_append PySem.F.type_list_append md_append (z13 5) (z2M (z13 7) z2P)))
      (z2R (z2T (i := 6) co.nd rfl (Or.inl rfl) (z13 8)))) dss_nil))))
      (z2R (ds_ret (de_frz (z13 5))))))))))))).cut
noncomputable def b_is_word : Sl → Sto → Res Fl :=
  (sRet (dAnd (d2 eqD (dCall lenD (dCons (dVar 0) dNil)) (dVar 1)) (d2 eqD (dFrz (dComp [3] (iVal (dVar 0)) (gVar 3) (d2T notInD (dVar 3) (dVar 2)) (dVar 3))) (dLstF dNil))))
noncomputable def F_is_word : List D → Sto → Res D := cutF (dFn 4 b_is_word)
theorem d_is_word (T : Tx K mg w) : FnD P w (cl K w) K mg base 1 (He.ga K "is_word") 3 F_is_word := by
  obtain ⟨fd, Fu⟩ := T.f_is_word
  exact (fnD_of Fu sc_is_word (fun _ _ _ _ _ _ us hl => match us, hl with | [_, _, _], _ => rfl) (fun cdv A outer s H E co =>
      (z2R (ds_ret (de_and (de_cmp (op_eqDD co.hu) (de_callB cd_len (by rfl) T.z_len (by decide +kernel) (z2M (z13 0) z2P)) (z13 1) (nomark _)) (de_one (de_cmp (op_eqDD co.hu) (de_frz (de_comp (own := [("sign", 3)]) co.calm co.nd (di_val (z13 0)) (blkOk_by (by kernel_rfl)) (fun _ _ _ _ _ => (dgw_name (i := 3) (by decide) (co.blk _ _ _ _ _).nd rfl (Or.inl rfl))) (fun _ _ _ _ _ => (dts_one (dt_cmp (op_notInDD (co.blk _ _ _ _ _).hu5) (z13 3) (z13 2)))) (fun _ _ _ _ _ => (z13 3)))) (de_lstF z2P) (nomark _)))))))).cut
noncomputable def b_need_beats : Sl → Sto → Res Fl :=
  (sFor (iEnumD (dVar 1)) (gTupD 2 (gsCons (gVar 2) (gsCons (gVar 3) gsNil))) (sIf (tNotD (tstB (dCallF 3 F_is_word (dCons (dVar 3) (dCons (dVar 0) (dCons (dC (.str "01")) dNil)))))) (sRaise 3 ["number"] (dCons (dVar 2) dNil)) sNext))
noncomputable def F_need_beats : List D → Sto → Res D := cutF (dFn 4 b_need_beats)
theorem d_need_beats (T : Tx K mg w) : FnD P w (cl K w) K mg base 3 (He.ga K "need_beats") 2 F_need_beats := by
  obtain ⟨fd, Fu⟩ := T.f_need_beats
  exact (fnD_of Fu sc_need_beats (fun _ _ _ _ _ _ us hl => match us, hl with | [_, _], _ => rfl) (fun cdv A outer s H E co =>
      (z2R (ds_for co.po co.calm (di_enum (by rfl) T.z_enumerate (z13 1)) (dg_tup co.calm (dgs_cons (dg_name (i := 2) co.nd rfl (Or.inl rfl)) (dgs_cons (dg_name (i := 3) co.nd rfl (Or.inl rfl)) dgs_nil))) (z2R (ds_if (dt_not (dt_val (de_call (d_is_word T) (co.hr.mono (by first | decide | omega)) co.px (by rfl) T.g_is_word (z2M (z13 3) (z2M (z13 0) (z2M de_str z2P)))))) (z2R (ds_raise (x_BadBeat T) (co.at (by first | decide | omega)) (by rfl) T.g_BadBeat (z2M (z13 2) z2P))) dss_nil)))))).cut
noncomputable def b_Cover_left : Sl → Sto → Res Fl :=
  (sRet (dCall tupleD (dCons (dFrz (dComp [3] (iVal (dVar 1)) (gVar 3) (d2T notInD (dVar 3) (dVar 2)) (dVar 3))) dNil)))
noncomputable def F_Cover_left : List D → Sto → Res D := cutF (dFn 4 b_Cover_left)
theorem d_Cover_left (T : Tx K mg w) : FnD P w (cl K w) K mg base 1 (He.ma K (He.ga K "Cover") "left") 3 F_Cover_left := by
  obtain ⟨fd, Fu⟩ := T.f_Cover_left
  exact (fnD_of Fu sc_Cover_left (fun _ _ _ _ _ _ us hl => match us, hl with | [_, _, _], _ => rfl) (fun cdv A outer s H E co =>
      (z2R (ds_ret (de_callTy cd_tuple (by rfl) T.z_tuple (by decide +kernel) (z2M (de_frz (de_comp (own := [("beat", 3)]) co.calm co.nd (di_val (z13 1)) (blkOk_by (by kernel_rfl)) (fun _ _ _ _ _ => (dgw_name (i := 3) (by decide) (co.blk _ _ _ _ _).nd rfl (Or.inl rfl))) (fun _ _ _ _ _ => (dts_one (dt_cmp (op_notInDD (co.blk _ _ _ _ _).hu5) (z13 3) (z13 2)))) (fun _ _ _ _ _ => (z13 3)))) z2P)))))).cut
noncomputable def b_Cover_many (Frec : List D → Sto → Res D) : Sl → Sto → Res Fl :=
  (sSeq (sIf (d2T notInDicN (dVar 1) (dFld [21] "known" (dVar 0))) (sSeq (sAsg (dFrz (dComp [3, 4] (iVal (dFld [21] "marks" (dVar 0))) (gTupD 2 (gsCons (gVar 3) (gsCons (gVar 4) gsNil))) (d2T inD (d2 ixD (dVar 1) (dC (.int 0))) (dVar 4)) (dVar 4))) (gVar 2))
  (sAsg (d2 addD (dC (.int 1)) (dCall minIs (dCons (dFrz (dComp [4] (iVal (dVar 2)) (gVar 4) tYesD (dMeth 21 "many" 2 Frec (dVar 0) (dCons (dMeth 21 "left" 3 F_Cover_left (dVar 0) (dCons (dVar 1) (dCons (dVar 4) dNil))) dNil)))) dNil))) (gSubD setDicN (dFld [21] "known" (dVar 0)) (dVar 1)))) sNext)
  (sRet (d2 ixDicN (dFld [21] "known" (dVar 0)) (dVar 1))))
noncomputable def F_Cover_many : Nat → List D → Sto → Res D
  | 0 => fun _ _ => .stuck
  | n + 1 => cutF (dFn 5 (b_Cover_many (F_Cover_many n)))
theorem d_Cover_many (T : Tx K mg w) : ∀ n : Nat, FnD P w (cl K w) K mg base (2 + n) (He.ma K (He.ga K "Cover") "many") 2 (F_Cover_many n)
  | 0 => by
    obtain ⟨fd, Fu⟩ := T.f_Cover_many
    exact fnD_stuck Fu (ps := ["self", "rest"]) (fun _ _ _ _ _ _ us hl => match us, hl with | [_, _], _ => rfl)
  | n + 1 => by
    have hrec := d_Cover_many T n
    obtain ⟨fd, Fu⟩ := T.f_Cover_many
    exact (fnD_of (k := 2 + n) Fu sc_Cover_many (fun _ _ _ _ _ _ us hl => match us, hl with | [_, _], _ => rfl) (fun cdv A outer s H E co =>
      (z2Q (ds_if (dt_cmp (op_notInDicN co.hu5 rfl) (z13 1) (de_fld T.fl_Cover_known (z13 0))) (z2Q (ds_compF (i := 2) (own := [("mark", 3), ("beats", 4)]) co.calm co.nd rfl rfl (sw_true rfl rfl rfl (by decide +kernel)) (di_val (de_fld T.fl_Cover_marks (z13 0))) (blkOk_by (by kernel_rfl)) (fun _ _ _ _ _ => (dgw_tup (co.blk _ _ _ _ _).calm (dgsw_cons (dgw_name (i := 3) (by decide) (co.blk _ _ _ _ _).nd rfl (Or.inl rfl)) (dgsw_cons (dgw_name (i := 4) (by decide) (co.blk _ _ _ _ _).nd rfl (Or.inl rfl)) dgsw_nil)))) (fun _ _ _ _ _ => (dts_one (dt_cmp (op_inDD (co.blk _ _ _ _ _).hu5) (de_ix (z13 1) z2S) (z13 4)))) (fun _ _ _ _ _ => (z13 4)))
      (z2R (ds_asg (z2U op_addD z2S (de_callB (cd_minIs co.calm) (by rfl) T.z_min (by decide +kernel) (z2M (de_frz (de_comp (own := [("beats", 4)]) co.calm co.nd (di_val (z13 2)) (blkOk_by (by kernel_rfl)) (fun _ _ _ _ _ => (dgw_name (i := 4) (by decide) (co.blk _ _ _ _ _).nd rfl (Or.inl rfl))) (fun _ _ _ _ _ => dts_nil) (fun _ _ _ _ _ => (de_meth (z13 0) T.c_Cover T.m_Cover_many hrec ((co.blk _ _ _ _ _).hr.mono (by omega)) (co.blk _ _ _ _ _).px (z2M (de_meth (z13 0) T.c_Cover T.m_Cover_left (d_Cover_left T) ((co.blk _ _ _ _ _).hr.mono (by first | decide | omega)) (co.blk _ _ _ _ _).px (z2M (z13 1) (z2M (z13 4) z2P))) z2P))))) z2P))) (dg_sub (de_fld T.fl_Cover_known (z13 0)) (z13 1) (set_dicN co.hu5 rfl))))) dss_nil)
      (z2R (ds_ret (de_ixDicN co.hu5 rfl (de_fld T.fl_Cover_known (z13 0)) (z13 1))))))).cut
noncomputable def br_Cover_first : Sl → Sto → Res Fl :=
  (sSeq (sAsg (dLst dNil) (gVar 2))
  (sSeq (whileD (d2T neD (dVar 1) (dTup dNil)) (sFor (iVal (dFld [21] "marks" (dVar 0))) (gTupD 2 (gsCons (gVar 3) (gsCons (gVar 4) gsNil))) (sSeq (sAsg (dMeth 21 "left" 3 F_Cover_left (dVar 0) (dCons (dVar 1) (dCons (dVar 4) dNil))) (gVar 5))
  (sIf (tAndD (d2T ltD (dCall lenD (dCons (dVar 5) dNil)) (dCall lenD (dCons (dVar 1) dNil))) (d2T eqD (d2 addD (dC (.int 1)) (dMeth 21 "many" 2 (F_Cover_many 40) (dVar 0) (dCons (dVar 5) dNil))) (dMeth 21 "many" 2 (F_Cover_many 40) (dVar 0) (dCons (dVar 1) dNil)))) (sSeq (sExpr (dBm "list" appendD (dVar 2) (dCons (dVar 3) dNil)))
  (sSeq (sAsg (dVar 5) (gVar 1))
  sBrk)) sNext))) fuelW)
  (sRet (dVar 2))))
noncomputable def Fr_Cover_first : List D → Sto → Res D := cutF (dFn 6 br_Cover_first)
theorem dr_Cover_first (T : Tx K mg w) : FnD P w (cl K w) K mg base 43 (He.ma K (He.ga K "Cover") "first") 2 Fr_Cover_first := by
  obtain ⟨fd, Fu⟩ := T.f_Cover_first
  exact (fnD_of Fu sc_Cover_first (fun _ _ _ _ _ _ us hl => match us, hl with | [_, _], _ => rfl) (fun cdv A outer s H E co =>
      (z2Q (z2T (i := 2) co.nd rfl (Or.inl rfl) (de_lst z2P))
      (z2Q (ds_while fuelW co.po (dt_cmp (op_neDD co.hu) (z13 1) (de_tup z2P) (nomark _)) (z2R (ds_for co.po co.calm (di_val (de_fld T.fl_Cover_marks (z13 0))) (dg_tup co.calm (dgs_cons (dg_name (i := 3) co.nd rfl (Or.inl rfl)) (dgs_cons (dg_name (i := 4) co.nd rfl (Or.inl rfl)) dgs_nil))) (z2Q (z2T (i := 5) co.nd rfl (Or.inl rfl) (de_meth (z13 0) T.c_Cover T.m_Cover_left (d_Cover_left T) (co.hr.mono (by first | decide | omega)) co.px (z2M (z13 1) (z2M (z13 4) z2P))))
      (z2R (ds_if (dt_bool (dw_and (dt_cmp op_ltD (de_callB cd_len (by rfl) T.z_len (by decide +kernel) (z2M (z13 5) z2P)) (de_callB cd_len (by rfl) T.z_len (by decide +kernel) (z2M (z13 1) z2P)) (nomark _)) (dw_and1 (dt_cmp (op_eqDD co.hu) (z2U op_addD z2S (de_meth (z13 0) T.c_Cover T.m_Cover_many (d_Cover_many T 40) (co.hr.mono (by first | decide | omega)) co.px (z2M (z13 5) z2P))) (de_meth (z13 0) T.c_Cover T.m_Cover_many (d_Cover_many T 40) (co.hr.mono (by first | decide | omega)) co.px (z2M (z13 1) z2P)) (nomark _))))) (z2Q (ds_expr (de_bm PySem.F.plainAttrs_list PySem.F.slot_list_append PySem.F.type_list_append md_append (z13 2) (z2M (z13 3) z2P)))
      (z2Q (z2T (i := 1) co.nd rfl (Or.inl rfl) (z13 5))
      (z2R ds_break))) dss_nil))))))
      (z2R (ds_ret (z13 2))))))).cut
noncomputable def b_Cover_init : Sl → Sto → Res Fl :=
  (sSeq (sFldD [21] "marks" (dVar 0) (dVar 1))
  (sFldD [21] "known" (dVar 0) (dDispN (dTup dNil) (dC (.int 0)))))
noncomputable def F_Cover_init : List D → Sto → Res D := cutF (dFn 2 b_Cover_init)
theorem d_Cover_init (T : Tx K mg w) : FnD P w (cl K w) K mg base 1 (He.ma K (He.ga K "Cover") "__init__") 2 F_Cover_init := by
  obtain ⟨fd, Fu⟩ := T.f_Cover_init
  exact (fnD_of Fu sc_Cover_init (fun _ _ _ _ _ _ us hl => match us, hl with | [_, _], _ => rfl) (fun cdv A outer s H E co =>
      (z2Q (ds_fld T.fl_Cover_marks (z13 0) (z13 1))
      (z2R (ds_fld T.fl_Cover_known (z13 0) (de_dispN co.hu5 rfl (de_tup z2P) z2S)))))).cut
noncomputable def b_all_beats : Sl → Sto → Res Fl :=
  (sSeq (sAsg (dLstF (dCons (dC (.str "")) dNil)) (gVar 1))
  (sSeq (sFor (iRngD1 (dVar 0)) (gVar 2) (sSeq (sAsg (dLst dNil) (gVar 3))
  (sSeq (sFor (iVal (dVar 1)) (gVar 4) (sExpr (dBm "list" extendD (dVar 3) (dCons (dLst (dCons (d2 addD (dVar 4) (dC (.str "0"))) (dCons (d2 addD (dVar 4) (dC (.str "1"))) dNil))) dNil))))
  (sAsg (dFrz (dVar 3)) (gVar 1)))))
  (sRet (dVar 1))))
noncomputable def F_all_beats : List D → Sto → Res D := cutF (dFn 5 b_all_beats)
theorem d_all_beats (T : Tx K mg w) : FnD P w (cl K w) K mg base 1 (He.ga K "all_beats") 1 F_all_beats := by
  obtain ⟨fd, Fu⟩ := T.f_all_beats
  exact (fnD_of Fu sc_all_beats (fun _ _ _ _ _ _ us hl => match us, hl with | [_], _ => rfl) (fun cdv A outer s H E co =>
      (z2Q (z2T (i := 1) co.nd rfl (Or.inl rfl) (de_lstF (z2M de_str z2P)))
      (z2Q (ds_for co.po co.calm (di_range1 (by rfl) T.z_range (z13 0)) (dg_name (i := 2) co.nd rfl (Or.inl rfl)) (z2Q (z2T (i := 3) co.nd rfl (Or.inl rfl) (de_lst z2P))
      (z2Q (ds_for co.po co.calm (di_val (z13 1)) (dg_name (i := 4) co.nd rfl (Or.inl rfl)) (z2R (ds_expr (de_bm PySem.F.plainAttrs_list PySem.F.slot_list_extend PySem.F.type_list_extend md_extend (z13 3) (z2M (de_lst (z2M (z2U op_addD (z13 4) de_str) (z2M (z2U op_addD (z13 4) de_str) z2P))) z2P)))))
      (z2R (z2T (i := 1) co.nd rfl (Or.inl rfl) (de_frz (z13 3)))))))
      (z2R (ds_ret (z13 1))))))).cut
noncomputable def b_all_marks : Sl → Sto → Res Fl :=
  (sSeq (sAsg (dLstF (dCons (dC (.str "")) dNil)) (gVar 1))
  (sSeq (sFor (iRngD1 (dVar 0)) (gVar 2) (sSeq (sAsg (dLst dNil) (gVar 3))
  (sSeq (sFor (iVal (dVar 1)) (gVar 4) (sExpr (dBm "list" extendD (dVar 3) (dCons (dComp [5] (iVal (dC (.str "-01"))) (gVar 5) tYesD (d2 addD (dVar 4) (dVar 5))) dNil))))
  (sAsg (dFrz (dVar 3)) (gVar 1)))))
  (sRet (dVar 1))))
noncomputable def F_all_marks : List D → Sto → Res D := cutF (dFn 6 b_all_marks)
theorem d_all_marks (T : Tx K mg w) : FnD P w (cl K w) K mg base 1 (He.ga K "all_marks") 1 F_all_marks := by
  obtain ⟨fd, Fu⟩ := T.f_all_marks
  exact (fnD_of Fu sc_all_marks (fun _ _ _ _ _ _ us hl => match us, hl with | [_], _ => rfl) (fun cdv A outer s H E co =>
      (z2Q (z2T (i := 1) co.nd rfl (Or.inl rfl) (de_lstF (z2M de_str z2P)))
      (z2Q (ds_for co.po co.calm (di_range1 (by rfl) T.z_range (z13 0)) (dg_name (i := 2) co.nd rfl (Or.inl rfl)) (z2Q (z2T (i := 3) co.nd rfl (Or.inl rfl) (de_lst z2P))
      (z2Q (ds_for co.po co.calm (di_val (z13 1)) (dg_name (i := 4) co.nd rfl (Or.inr rfl)) (z2R (ds_expr (de_bm PySem.F.plainAttrs_list PySem.F.slot_list_extend PySem.F.type_list_extend md_extend (z13 3) (z2M (de_comp (own := [("sign", 5)]) co.calm co.nd (di_val de_str) (blkOk_by (by kernel_rfl)) (fun _ _ _ _ _ => (dgw_name (i := 5) (by decide) (co.blk _ _ _ _ _).nd rfl (Or.inl rfl))) (fun _ _ _ _ _ => dts_nil) (fun _ _ _ _ _ => (z2U op_addD (z13 4) (z13 5)))) z2P)))))
      (z2R (z2T (i := 1) co.nd rfl (Or.inl rfl) (de_frz (z13 3)))))))
      (z2R (ds_ret (z13 1))))))).cut
noncomputable def b_fits : Sl → Sto → Res Fl :=
  (sRet (d2 eqD (dFrz (dComp [2] (iRngD1 (dCall lenD (dCons (dVar 0) dNil))) (gVar 2) (d2T notInD (d2 ixD (dVar 0) (dVar 2)) (dTup (dCons (dC (.str "-")) (dCons (d2 ixD (dVar 1) (dVar 2)) dNil)))) (dVar 2))) (dLstF dNil)))
noncomputable def F_fits : List D → Sto → Res D := cutF (dFn 3 b_fits)
theorem d_fits (T : Tx K mg w) : FnD P w (cl K w) K mg base 1 (He.ga K "fits") 2 F_fits := by
  obtain ⟨fd, Fu⟩ := T.f_fits
  exact (fnD_of Fu sc_fits (fun _ _ _ _ _ _ us hl => match us, hl with | [_, _], _ => rfl) (fun cdv A outer s H E co =>
      (z2R (ds_ret (de_cmp (op_eqDD co.hu) (de_frz (de_comp (own := [("k", 2)]) co.calm co.nd (di_range1 (by rfl) T.z_range (de_callB cd_len (by rfl) T.z_len (by decide +kernel) (z2M (z13 0) z2P))) (blkOk_by (by kernel_rfl)) (fun _ _ _ _ _ => (dgw_name (i := 2) (by decide) (co.blk _ _ _ _ _).nd rfl (Or.inl rfl))) (fun _ _ _ _ _ => (dts_one (dt_cmp (op_notInDD (co.blk _ _ _ _ _).hu5) (de_ix (z13 0) (z13 2)) (de_tup (z2M de_str (z2M (de_ix (z13 1) (z13 2)) z2P)))))) (fun _ _ _ _ _ => (z13 2)))) (de_lstF z2P) (nomark _)))))).cut
noncomputable def b_wider : Sl → Sto → Res Fl :=
  (sRet (dFrz (dComp [1] (iRngD1 (dCall lenD (dCons (dVar 0) dNil))) (gVar 1) (d2T neD (d2 ixD (dVar 0) (dVar 1)) (dC (.str "-"))) (d2 addD (d2 addD (dSlice (dVar 0) oNone (oSome (dVar 1))) (dC (.str "-"))) (dSlice (dVar 0) (oSome (d2 addD (dVar 1) (dC (.int 1)))) oNone)))))
noncomputable def F_wider : List D → Sto → Res D := cutF (dFn 2 b_wider)
theorem d_wider (T : Tx K mg w) : FnD P w (cl K w) K mg base 1 (He.ga K "wider") 1 F_wider := by
  obtain ⟨fd, Fu⟩ := T.f_wider
  exact (fnD_of Fu sc_wider (fun _ _ _ _ _ _ us hl => match us, hl with | [_], _ => rfl) (fun cdv A outer s H E co =>
      (z2R (ds_ret (de_frz (de_comp (own := [("k", 1)]) co.calm co.nd (di_range1 (by rfl) T.z_range (de_callB cd_len (by rfl) T.z_len (by decide +kernel) (z2M (z13 0) z2P))) (blkOk_by (by kernel_rfl)) (fun _ _ _ _ _ => (dgw_name (i := 1) (by decide) (co.blk _ _ _ _ _).nd rfl (Or.inl rfl))) (fun _ _ _ _ _ => (dts_one (dt_cmp (op_neDD (co.blk _ _ _ _ _).hu) (de_ix (z13 0) (z13 1)) de_str (nomark _)))) (fun _ _ _ _ _ => (z2U op_addD (z2U op_addD (de_slice (z13 0) dpo_none (dpo_some (z13 1))) de_str) (de_slice (z13 0) (dpo_some (z2U op_addD (z13 1) z2S)) dpo_none))))))))).cut
noncomputable def b_marks_of : Sl → Sto → Res Fl :=
  (sSeq (sAsg (dCallF 1 F_all_beats (dCons (dVar 0) dNil)) (gVar 2))
  (sSeq (sAsg dDisp0 (gVar 3))
  (sSeq (sFor (iVal (dCallF 1 F_all_marks (dCons (dVar 0) dNil))) (gVar 4) (sAsg (dCall tupleD (dCons (dFrz (dComp [6] (iVal (dVar 2)) (gVar 6) (tstB (dCallF 2 F_fits (dCons (dVar 4) (dCons (dVar 6) dNil)))) (dVar 6))) dNil)) (gSubD setDic (dVar 3) (dVar 4))))
  (sSeq (sAsg (dFrz (dComp [4] (iKeysD (dLockD (dVar 3))) (gVar 4) (d2T eqD (dFrz (dComp [6] (iVal (d2 ixDic3 (dVar 3) (dVar 4))) (gVar 6) (d2T notInD (dVar 6) (dVar 1)) (dVar 6))) (dLstF dNil)) (dVar 4))) (gVar 5))
  (sRet (dFrz (dComp [4] (iVal (dVar 5)) (gVar 4) (d2T eqD (dFrz (dComp [7] (iVal (dCallF 1 F_wider (dCons (dVar 4) dNil))) (gVar 7) (d2T inD (dVar 7) (dVar 5)) (dVar 7))) (dLstF dNil)) (dTup (dCons (dVar 4) (dCons (d2 ixDic3 (dVar 3) (dVar 4)) dNil))))))))))
noncomputable def F_marks_of : List D → Sto → Res D := cutF (dFn 8 b_marks_of)
theorem d_marks_of (T : Tx K mg w) : FnD P w (cl K w) K mg base 2 (He.ga K "marks_of") 2 F_marks_of := by
  obtain ⟨fd, Fu⟩ := T.f_marks_of
  exact (fnD_of Fu sc_marks_of (fun _ _ _ _ _ _ us hl => match us, hl with | [_, _], _ => rfl) (fun cdv A outer s H E co =>
      (z2Q (z2T (i := 2) co.nd rfl (Or.inl rfl) (de_call (d_all_beats T) (co.hr.mono (by first | decide | omega)) co.px (by rfl) T.g_all_beats (z2M (z13 0) z2P)))
      (z2Q (z2T (i := 3) co.nd rfl (Or.inr rfl) de_disp0)
      (z2Q (ds_for co.po co.calm (di_val (de_call (d_all_marks T) (co.hr.mono (by first | decide | omega)) co.px (by rfl) T.g_all_marks (z2M (z13 0) z2P))) (dg_name (i := 4) co.nd rfl (Or.inr rfl)) (z2R (ds_asg (de_callTy cd_tuple (by rfl) T.z_tuple (by decide +kernel) (z2M (de_frz (de_comp (own := [("beat", 6)]) co.calm co.nd (di_val (z13 2)) (blkOk_by (by kernel_rfl)) (fun _ _ _ _ _ => (dgw_name (i := 6) (by decide) (co.blk _ _ _ _ _).nd rfl (Or.inl rfl))) (fun _ _ _ _ _ => (dts_one (dt_val (de_call (d_fits T) ((co.blk _ _ _ _ _).hr.mono (by first | decide | omega)) (co.blk _ _ _ _ _).px (by rfl) T.g_fits (z2M (z13 4) (z2M (z13 6) z2P)))))) (fun _ _ _ _ _ => (z13 6)))) z2P)) (dg_sub (z13 3) (z13 4) (set_dicD co.hu5)))))
      (z2Q (z2T (i := 5) co.nd rfl (Or.inr rfl) (de_frz (de_comp (own := [("mark", 4)]) co.calm co.nd (di_keys (de_lockD (z13 3))) (blkOk_by (by kernel_rfl)) (fun _ _ _ _ _ => (dgw_name (i := 4) (by decide) (co.blk _ _ _ _ _).nd rfl (Or.inl rfl))) (fun _ _ _ _ _ => (dts_one (dt_cmp (op_eqDD (co.blk _ _ _ _ _).hu) (de_frz (de_comp (own := [("beat", 6)]) (co.blk _ _ _ _ _).calm (co.blk _ _ _ _ _).nd (di_val (de_ixDic3 (co.blk _ _ _ _ _).hu1 (z13 3) (z13 4))) (blkOk_by (by kernel_rfl)) (fun _ _ _ _ _ => (dgw_name (i := 6) (by decide) ((co.blk _ _ _ _ _).blk _ _ _ _ _).nd rfl (Or.inl rfl))) (fun _ _ _ _ _ => (dts_one (dt_cmp (op_notInDD ((co.blk _ _ _ _ _).blk _ _ _ _ _).hu5) (z13 6) (z13 1)))) (fun _ _ _ _ _ => (z13 6)))) (de_lstF z2P) (nomark _)))) (fun _ _ _ _ _ => (z13 4)))))
      (z2R (ds_ret (de_frz (de_comp (own := [("mark", 4)]) co.calm co.nd (di_val (z13 5)) (blkOk_by (by kernel_rfl)) (fun _ _ _ _ _ => (dgw_name (i := 4) (by decide) (co.blk _ _ _ _ _).nd rfl (Or.inl rfl))) (fun _ _ _ _ _ => (dts_one (dt_cmp (op_eqDD (co.blk _ _ _ _ _).hu) (de_frz (de_comp (own := [("one", 7)]) (co.blk _ _ _ _ _).calm (co.blk _ _ _ _ _).nd (di_val (de_call (d_wider T) ((co.blk _ _ _ _ _).hr.mono (by first | decide | omega)) (co.blk _ _ _ _ _).px (by rfl) T.g_wider (z2M (z13 4) z2P))) (blkOk_by (by kernel_rfl)) (fun _ _ _ _ _ => (dgw_name (i := 7) (by decide) ((co.blk _ _ _ _ _).blk _ _ _ _ _).nd rfl (Or.inl rfl))) (fun _ _ _ _ _ => (dts_one (dt_cmp (op_inDD ((co.blk _ _ _ _ _).blk _ _ _ _ _).hu5) (z13 7) (z13 5)))) (fun _ _ _ _ _ => (z13 7)))) (de_lstF z2P) (nomark _)))) (fun _ _ _ _ _ => (de_tup (z2M (z13 4) (z2M (de_ixDic3 (co.blk _ _ _ _ _).hu1 (z13 3) (z13 4)) z2P)))))))))))))).cut
noncomputable def br_fewest_of : Sl → Sto → Res Fl :=
  (sRet (dMeth 21 "first" 2 Fr_Cover_first (dMake 21 2 F_Cover_init (dCons (dCallF 2 F_marks_of (dCons (dVar 0) (dCons (dVar 1) dNil))) dNil)) (dCons (dCall tupleD (dCons (dVar 1) dNil)) dNil)))
noncomputable def Fr_fewest_of : List D → Sto → Res D := cutF (dFn 2 br_fewest_of)
theorem dr_fewest_of (T : Tx K mg w) : FnD P w (cl K w) K mg base 44 (He.ga K "fewest_of") 2 Fr_fewest_of := by
  obtain ⟨fd, Fu⟩ := T.f_fewest_of
  exact (fnD_of Fu sc_fewest_of (fun _ _ _ _ _ _ us hl => match us, hl with | [_, _], _ => rfl) (fun cdv A outer s H E co =>
      (z2R (ds_ret (de_meth (de_make T.mk_Cover (d_Cover_init T) (co.hr.mono (by first | decide | omega)) co.px (by rfl) T.g_Cover (z2M (de_call (d_marks_of T) (co.hr.mono (by first | decide | omega)) co.px (by rfl) T.g_marks_of (z2M (z13 0) (z2M (z13 1) z2P))) z2P)) T.c_Cover T.m_Cover_first (dr_Cover_first T) (co.hr.mono (by first | decide | omega)) co.px (z2M (de_callTy cd_tuple (by rfl) T.z_tuple (by decide +kernel) (z2M (z13 1) z2P)) z2P)))))).cut
noncomputable def br_fewest : Sl → Sto → Res Fl :=
  (sSeq (sIf (tNotD (d3T leD leD (dC (.int 1)) (dVar 0) (dC (.int 4)))) (sRaiseT 7) sNext)
  (sSeq (sExpr (dCallF 2 F_need_beats (dCons (dVar 0) (dCons (dVar 1) dNil))))
  (sSeq (sIf (d2T neD (dSortSetS (dVar 1)) (dCall listF (dCons (dVar 1) dNil))) (sRaiseT 7) sNext)
  (sRet (dCallF 2 Fr_fewest_of (dCons (dVar 0) (dCons (dVar 1) dNil)))))))
noncomputable def Fr_fewest : List D → Sto → Res D := cutF (dFn 2 br_fewest)
theorem dr_fewest (T : Tx K mg w) : FnD P w (cl K w) K mg base 45 (He.ga K "fewest") 2 Fr_fewest := by
  obtain ⟨fd, Fu⟩ := T.f_fewest
  exact (fnD_of Fu sc_fewest (fun _ _ _ _ _ _ us hl => match us, hl with | [_, _], _ => rfl) (fun cdv A outer s H E co =>
      (z2Q (ds_if (dt_not (dt_chain op_leD op_leD z2S (z13 0) (de_con T.k_MOST_INS (by rfl)))) (z2R (ds_raiseT T.xt_BadMarks co (by rfl) T.g_BadMarks)) dss_nil)
      (z2Q (ds_expr (de_call (d_need_beats T) (co.hr.mono (by first | decide | omega)) co.px (by rfl) T.g_need_beats (z2M (z13 0) (z2M (z13 1) z2P))))
      (z2Q (ds_if (dt_cmp (op_neDD co.hu) (de_sortSetS co.hu5 co.calm (by rfl) T.z_sorted (by rfl) T.z_set (z13 1)) (de_callTy cd_listF (by rfl) T.z_list (by decide +kernel) (z2M (z13 1) z2P)) (nomark _)) (z2R (ds_raiseT T.xt_BadMarks co (by rfl) T.g_BadMarks)) dss_nil)
      (z2R (ds_ret (de_call (dr_fewest_of T) (co.hr.mono (by first | decide | omega)) co.px (by rfl) T.g_fewest_of (z2M (z13 0) (z2M (z13 1) z2P)))))))))).cut
noncomputable def b__law_same (Frec : List D → Sto → Res D) : Sl → Sto → Res Fl :=
  (sSeq (sIf (tstB (dIsi ["tuple", "list"] (dVar 1))) (sSeq (sIf (tOrD (tNotD (tstB (dIsi ["tuple", "list"] (dVar 0)))) (d2T neD (dIsi ["list"] (dVar 0)) (dIsi ["list"] (dVar 1)))) (sRet (dC (.bl false))) sNext)
  (sSeq (sIf (d2T neD (dCall lenD (dCons (dVar 0) dNil)) (dCall lenD (dCons (dVar 1) dNil))) (sRet (dC (.bl false))) sNext)
  (sRet (d2 eqD (dFrz (dComp [3] (iRngD1 (dCall lenD (dCons (dVar 1) dNil))) (gVar 3) (tNotD (tstB (dCallF 2 Frec (dCons (d2 ixD (dVar 0) (dVar 3)) (dCons (d2 ixD (dVar 1) (dVar 3)) dNil))))) (dVar 3))) (dLstF dNil))))) sNext)
  (sSeq (sAsg (dAnd (d2 eqD (dIsi ["bool"] (dVar 0)) (dIsi ["bool"] (dVar 1))) (d2 eqD (dIsi ["int"] (dVar 0)) (dIsi ["int"] (dVar 1)))) (gVar 2))
  (sRet (dAnd (dVar 2) (d2 eqD (dVar 0) (dVar 1))))))
noncomputable def F__law_same : Nat → List D → Sto → Res D
  | 0 => fun _ _ => .stuck
  | n + 1 => cutF (dFn 4 (b__law_same (F__law_same n)))
theorem d__law_same (T : Tx K mg w) : ∀ n : Nat, FnD P w (cl K w) K mg base (1 + n) (He.ga K "_law_same") 2 (F__law_same n)
  | 0 => by
    obtain ⟨fd, Fu⟩ := T.f__law_same
    exact fnD_stuck Fu (ps := ["_law_found", "_law_due"]) (fun _ _ _ _ _ _ us hl => match us, hl with | [_, _], _ => rfl)
  | n + 1 => by
    have hrec := d__law_same T n
    obtain ⟨fd, Fu⟩ := T.f__law_same
    exact (fnD_of (k := 1 + n) Fu sc__law_same (fun _ _ _ _ _ _ us hl => match us, hl with | [_, _], _ => rfl) (fun cdv A outer s H E co =>
      (z2Q (ds_if (dt_val (de_isi2 (by rfl) T.z_isinstance (z13 1) (by rfl) T.z_tuple (by rfl) (by decide +kernel) (by rfl) T.z_list (by rfl) (by decide +kernel))) (z2Q (ds_if (dt_bool (dw_or (dt_not (dt_val (de_isi2 (by rfl) T.z_isinstance (z13 0) (by rfl) T.z_tuple (by rfl) (by decide +kernel) (by rfl) T.z_list (by rfl) (by decide +kernel)))) (dw_or1 (dt_cmp (op_neDD co.hu) (de_isi (by rfl) T.z_isinstance (z13 0) (by rfl) T.z_list (by rfl) (by decide +kernel)) (de_isi (by rfl) T.z_isinstance (z13 1) (by rfl) T.z_list (by rfl) (by decide +kernel)) (nomark _))))) (z2R (ds_ret de_bl)) dss_nil)
      (z2Q (ds_if (dt_cmp (op_neDD co.hu) (de_callB cd_len (by rfl) T.z_len (by decide +kernel) (z2M (z13 0) z2P)) (de_callB cd_len (by rfl) T.z_len (by decide +kernel) (z2M (z13 1) z2P)) (nomark _)) (z2R (ds_ret de_bl)) dss_nil)
      (z2R (ds_ret (de_cmp (op_eqDD co.hu) (de_frz (de_comp (own := [("_law_k", 3)]) co.calm co.nd (di_range1 (by rfl) T.z_range (de_callB cd_len (by rfl) T.z_len (by decide +kernel) (z2M (z13 1) z2P))) (blkOk_by (by kernel_rfl)) (fun _ _ _ _ _ => (dgw_name (i := 3) (by decide) (co.blk _ _ _ _ _).nd rfl (Or.inl rfl))) (fun _ _ _ _ _ => (dts_one (dt_not (dt_val (de_call hrec ((co.blk _ _ _ _ _).hr.mono (by omega)) (co.blk _ _ _ _ _).px (by rfl) T.g__law_same (z2M (de_ix (z13 0) (z13 3)) (z2M (de_ix (z13 1) (z13 3)) z2P))))))) (fun _ _ _ _ _ => (z13 3)))) (de_lstF z2P) (nomark _)))))) dss_nil)
      (z2Q (z2T (i := 2) co.nd rfl (Or.inl rfl) (de_and (de_cmp (op_eqDD co.hu) (de_isi (by rfl) T.z_isinstance (z13 0) (by rfl) T.z_bool (by rfl) (by decide +kernel)) (de_isi (by rfl) T.z_isinstance (z13 1) (by rfl) T.z_bool (by rfl) (by decide +kernel)) (nomark _)) (de_one (de_cmp (op_eqDD co.hu) (de_isi (by rfl) T.z_isinstance (z13 0) (by rfl) T.z_int (by rfl) (by decide +kernel)) (de_isi (by rfl) T.z_isinstance (z13 1) (by rfl) T.z_int (by rfl) (by decide +kernel)) (nomark _)))))
      (z2R (ds_ret (de_and (z13 2) (de_one (de_cmp (op_eqDD co.hu) (z13 0) (z13 1) (nomark _)))))))))).cut
noncomputable def b_law : Sl → Sto → Res Fl :=
  (sSeq (sAsg (dCallF 1 Fr__law_start (dCons (dFrz (dVar 0)) dNil)) (gVar 1))
  (sSeq (sFor (iRngD1 (dC (.int 3))) (gVar 2) (sSeq (sAsg (d2 ixD (dLstF (dCons (dC (.int 4)) (dCons (dC (.int 4)) (dCons (d2 addD (dC (.int 1)) (dCallF 2 F__law_drawn (dCons (dVar 1) (dCons (dC (.int 4)) dNil)))) dNil)))) (dVar 2)) (gVar 3))
  (sSeq (sAsg (dCallF 1 (F__law_beats 40) (dCons (dVar 3) dNil)) (gVar 4))
  (sSeq (sAsg (d2 addD (dC (.int 2)) (dCallF 2 F__law_drawn (dCons (dVar 1) (dCons (dC (.int 3)) dNil)))) (gVar 5))
  (sSeq (sAsg (dFrz (dComp [13] (iVal (dVar 4)) (gVar 13) (d2T gtD (dCallF 2 F__law_drawn (dCons (dVar 1) (dCons (dVar 5) dNil))) (dC (.int 0))) (dVar 13))) (gVar 6))
  (sSeq (sAsg (dLst dNil) (gVar 7))
  (sSeq (sFor (iRngD1 (d2 addD (dC (.int 1)) (dCallF 2 F__law_drawn (dCons (dVar 1) (dCons (dC (.int 4)) dNil))))) (gVar 8) (sExpr (dBm "list" appendD (dVar 7) (dCons (dBm "str" joinD (dC (.str "")) (dCons (dFrz (dComp [14] (iRngD1 (dVar 3)) (gVar 14) tYesD (d2 ixD (dC (.str "-01")) (dCallF 2 F__law_drawn (dCons (dVar 1) (dCons (dC (.int 3)) dNil)))))) dNil)) dNil))))
  (sSeq (sAsg (dFrz (dComp [13] (iVal (dVar 4)) (gVar 13) (d2T neD (dFrz (dComp [15] (iVal (dVar 7)) (gVar 15) (tstB (dCallF 2 F__law_lets (dCons (dVar 15) (dCons (dVar 13) dNil)))) (dVar 15))) (dLstF dNil)) (dVar 13))) (gVar 9))
  (sSeq (sAsg (d2 ixD (dLstF (dCons (dVar 6) (dCons (dVar 9) (dCons (dVar 4) (dCons (dFrz (dComp [13] (iVal (dVar 4)) (gVar 13) (d2T gtD (d2 modD (dBm "str" countSD (dVar 13) (dCons (dC (.str "1")) dNil)) (dC (.int 3))) (dC (.int 0))) (dVar 13))) dNil))))) (dCallF 2 F__law_drawn (dCons (dVar 1) (dCons (dC (.int 4)) dNil)))) (gVar 6))
  (sSeq (sAsg (dCallF 2 F__law_fewest (dCons (dVar 3) (dCons (dVar 6) dNil))) (gVar 10))
  (sFor (iRngD1 (dC (.int 2))) (gVar 11) (sSeq (sAsg (dCallF 2 Fr_fewest (dCons (dVar 3) (dCons (dCall listF (dCons (dVar 6) dNil)) dNil))) (gVar 12))
  (sSeq (sIf (tNotD (tstB (dCallF 2 (F__law_same 40) (dCons (dVar 12) (dCons (dVar 10) dNil))))) (sRet (dC (.bl false))) sNext)
  (sExpr (dBm "list" appendD (dVar 12) (dCons (dC (.str "")) dNil))))))))))))))))
  (sRet (dC (.bl true)))))
noncomputable def F_law : List D → Sto → Res D := dFn 16 b_law
theorem d_law (T : Tx K mg w) {fd : FuncData} (Fu : FunD K "law" "law" (defArgs st_law) (defBody st_law) (defScope st_law) [] [] (He.fAd K ("law", none)) fd) : (∀ (s : Shared) (u : Value), BindsTo s fd ⟨[u], []⟩ [("_law_script", u)]) ∧ ∀ base : Heap, FnOk P w K mg base (L2.CX P w) 46 (He.ga K "law") fd ["_law_script"] (spD (cl K w) K 1 F_law) :=
  fnD_law Fu sc_law (fun _ _ _ _ _ _ us hl => match us, hl with | [_], _ => rfl) (fun base cdv A outer s H E co =>
      (z2Q (z2T (i := 1) co.nd rfl (Or.inr rfl) (de_call (dr__law_start T) (co.hr.mono (by first | decide | omega)) co.px (by rfl) T.g__law_start (z2M (de_frz (z13 0)) z2P)))
      (z2Q (ds_for co.po co.calm (di_range1 (by rfl) T.z_range z2S) (dg_name (i := 2) co.nd rfl (Or.inl rfl)) (z2Q (z2T (i := 3) co.nd rfl (Or.inl rfl) (de_ix (de_lstF (z2M z2S (z2M z2S (z2M (z2U op_addD z2S (de_call (d__law_drawn T) (co.hr.mono (by first | decide | omega)) co.px (by rfl) T.g__law_drawn (z2M (z13 1) (z2M z2S z2P)))) z2P)))) (z13 2)))
      (z2Q (z2T (i := 4) co.nd rfl (Or.inl rfl) (de_call (d__law_beats T 40) (co.hr.mono (by first | decide | omega)) co.px (by rfl) T.g__law_beats (z2M (z13 3) z2P)))
      (z2Q (z2T (i := 5) co.nd rfl (Or.inr rfl) (z2U op_addD z2S (de_call (d__law_drawn T) (co.hr.mono (by first | decide | omega)) co.px (by rfl) T.g__law_drawn (z2M (z13 1) (z2M z2S z2P)))))
      (z2Q (ds_compF (i := 6) (own := [("_law_beat", 13)]) co.calm co.nd rfl rfl (sw_true rfl rfl rfl (by decide +kernel)) (di_val (z13 4)) (blkOk_by (by kernel_rfl)) (fun _ _ _ _ _ => (dgw_name (i := 13) (by decide) (co.blk _ _ _ _ _).nd rfl (Or.inl rfl))) (fun _ _ _ _ _ => (dts_one (dt_cmp op_gtD (de_call (d__law_drawn T) ((co.blk _ _ _ _ _).hr.mono (by first | decide | omega)) (co.blk _ _ _ _ _).px (by rfl) T.g__law_drawn (z2M (z13 1) (z2M (z13 5) z2P))) z2S (nomark _)))) (fun _ _ _ _ _ => (z13 13)))
      (z2Q (z2T (i := 7) co.nd rfl (Or.inr rfl) (de_lst z2P))
      (z2Q (ds_for co.po co.calm (di_range1 (by rfl) T.z_range (z2U op_addD z2S (de_call (d__law_drawn T) (co.hr.mono (by first | decide | omega)) co.px (by rfl) T.g__law_drawn (z2M (z13 1) (z2M z2S z2P))))) (dg_name (i := 8) co.nd rfl (Or.inl rfl)) (z2R (ds_expr (de_bm PySem.F.plainAttrs_list PySem.F.slot_list_append PySem.F.type_list_append md_append (z13 7) (z2M (de_bm PySem.F.plainAttrs_str PySem.F.slot_str_join PySem.F.type_str_join md_join de_str (z2M (de_frz (de_comp (own := [("_law_wire", 14)]) co.calm co.nd (di_range1 (by rfl) T.z_range (z13 3)) (blkOk_by (by kernel_rfl)) (fun _ _ _ _ _ => (dgw_name (i := 14) (by decide) (co.blk _ _ _ _ _).nd rfl (Or.inl rfl))) (fun _ _ _ _ _ => dts_nil) (fun _ _ _ _ _ => (de_ix de_str (de_call (d__law_drawn T) ((co.blk _ _ _ _ _).hr.mono (by first | decide | omega)) (co.blk _ _ _ _ _).px (by rfl) T.g__law_drawn (z2M (z13 1) (z2M z2S z2P))))))) z2P)) z2P)))))
      (z2Q (ds_compF (i := 9) (own := [("_law_beat", 13)]) co.calm co.nd rfl rfl (sw_true rfl rfl rfl (by decide +kernel)) (di_val (z13 4)) (blkOk_by (by kernel_rfl)) (fun _ _ _ _ _ => (dgw_name (i := 13) (by decide) (co.blk _ _ _ _ _).nd rfl (Or.inr rfl))) (fun _ _ _ _ _ => (dts_one (dt_cmp (op_neDD (co.blk _ _ _ _ _).hu) (de_frz (de_comp (own := [("_law_mark", 15)]) (co.blk _ _ _ _ _).calm (co.blk _ _ _ _ _).nd (di_val (z13 7)) (blkOk_by (by kernel_rfl)) (fun _ _ _ _ _ => (dgw_name (i := 15) (by decide) ((co.blk _ _ _ _ _).blk _ _ _ _ _).nd rfl (Or.inl rfl))) (fun _ _ _ _ _ => (dts_one (dt_val (de_call (d__law_lets T) (((co.blk _ _ _ _ _).blk _ _ _ _ _).hr.mono (by first | decide | omega)) ((co.blk _ _ _ _ _).blk _ _ _ _ _).px (by rfl) T.g__law_lets (z2M (z13 15) (z2M (z13 13) z2P)))))) (fun _ _ _ _ _ => (z13 15)))) (de_lstF z2P) (nomark _)))) (fun _ _ _ _ _ => (z13 13)))
      (z2Q (z2T (i := 6) co.nd rfl (Or.inl rfl) (de_ix (de_lstF (z2M (z13 6) (z2M (z13 9) (z2M (z13 4) (z2M (de_frz (de_comp (own := [("_law_beat", 13)]) co.calm co.nd (di_val (z13 4)) (blkOk_by (by kernel_rfl)) (fun _ _ _ _ _ => (dgw_name (i := 13) (by decide) (co.blk _ _ _ _ _).nd rfl (Or.inl rfl))) (fun _ _ _ _ _ => (dts_one (dt_cmp op_gtD (z2U op_modD (de_bm PySem.F.plainAttrs_str PySem.F.slot_str_count PySem.F.type_str_count md_countS (z13 13) (z2M de_str z2P)) z2S) z2S (nomark _)))) (fun _ _ _ _ _ => (z13 13)))) z2P))))) (de_call (d__law_drawn T) (co.hr.mono (by first | decide | omega)) co.px (by rfl) T.g__law_drawn (z2M (z13 1) (z2M z2S z2P)))))
      (z2Q (z2T (i := 10) co.nd rfl (Or.inl rfl) (de_call (d__law_fewest T) (co.hr.mono (by first | decide | omega)) co.px (by rfl) T.g__law_fewest (z2M (z13 3) (z2M (z13 6) z2P))))
      (z2R (ds_for co.po co.calm (di_range1 (by rfl) T.z_range z2S) (dg_name (i := 11) co.nd rfl (Or.inl rfl)) (z2Q (z2T (i := 12) co.nd rfl (Or.inl rfl) (de_call (dr_fewest T) (co.hr.mono (by first | decide | omega)) co.px (by rfl) T.g_fewest (z2M (z13 3) (z2M (de_callTy cd_listF (by rfl) T.z_list (by decide +kernel) (z2M (z13 6) z2P)) z2P))))
      (z2Q (ds_if (dt_not (dt_val (de_call (d__law_same T 40) (co.hr.mono (by first | decide | omega)) co.px (by rfl) T.g__law_same (z2M (z13 12) (z2M (z13 10) z2P))))) (z2R (ds_ret de_bl)) dss_nil)
      (z2R (ds_expr (de_bm PySem.F.plainAttrs_list PySem.F.slot_list_append PySem.F.type_list_append md_append (z13 12) (z2M de_str z2P))))))))))))))))))
      (z2R (ds_ret de_bl)))))
end
def fa : List He.Fa := [.glo "_law_start", .glo "_law_beats", .glo "_law_widest", .glo "_law_marks", .glo "_law_lets", .glo "_law_many", .glo "_law_fewest", .glo "_law_drawn", .glo "is_word", .glo "need_beats", .glo "all_beats", .glo "all_marks", .glo "fits", .glo "wider", .glo "marks_of", .glo "fewest_of", .glo "fewest", .glo "_law_same", .glo "law", .glo "BeatError", .glo "BadBeat", .glo "BadMarks", .glo "Cover", .free "range", .free "len", .free "tuple", .free "min", .free "enumerate", .free "sorted", .free "set", .free "list", .free "isinstance", .free "bool", .free "int", .exc "BadMarks", .cls "Cover", .mkr "Cover", .meth "Cover" "left", .meth "Cover" "many", .meth "Cover" "first", .noat "Cover" "known", .noat "Cover" "marks"]
def fn : List He.DefD := [⟨("_law_start", none), "_law_start", "_law_start", defArgs st__law_start, defBody st__law_start, defScope st__law_start, [], []⟩,
  ⟨("_law_beats", none), "_law_beats", "_law_beats", defArgs st__law_beats, defBody st__law_beats, defScope st__law_beats, [], []⟩,
  ⟨("_law_widest", none), "_law_widest", "_law_widest", defArgs st__law_widest, defBody st__law_widest, defScope st__law_widest, [], []⟩,
  ⟨("_law_marks", none), "_law_marks", "_law_marks", defArgs st__law_marks, defBody st__law_marks, defScope st__law_marks, [], []⟩,
  ⟨("_law_lets", none), "_law_lets", "_law_lets", defArgs st__law_lets, defBody st__law_lets, defScope st__law_lets, [], []⟩,
  ⟨("_law_many", none), "_law_many", "_law_many", defArgs st__law_many, defBody st__law_many, defScope st__law_many, [], []⟩,
  ⟨("_law_fewest", none), "_law_fewest", "_law_fewest", defArgs st__law_fewest, defBody st__law_fewest, defScope st__law_fewest, [], []⟩,
  ⟨("_law_drawn", none), "_law_drawn", "_law_drawn", defArgs st__law_drawn, defBody st__law_drawn, defScope st__law_drawn, [], []⟩,
  ⟨("is_word", none), "is_word", "is_word", defArgs st_is_word, defBody st_is_word, defScope st_is_word, [], []⟩,
  ⟨("need_beats", none), "need_beats", "need_beats", defArgs st_need_beats, defBody st_need_beats, defScope st_need_beats, [], []⟩,
  ⟨("Cover", some "left"), "left", "Cover.left", defArgs st_Cover_left, defBody st_Cover_left, defScope st_Cover_left, [], []⟩,
  ⟨("Cover", some "many"), "many", "Cover.many", defArgs st_Cover_many, defBody st_Cover_many, defScope st_Cover_many, [], []⟩,
  ⟨("Cover", some "first"), "first", "Cover.first", defArgs st_Cover_first, defBody st_Cover_first, defScope st_Cover_first, [], []⟩,
  ⟨("Cover", some "__init__"), "__init__", "Cover.__init__", defArgs st_Cover_init, defBody st_Cover_init, defScope st_Cover_init, [], []⟩,
  ⟨("all_beats", none), "all_beats", "all_beats", defArgs st_all_beats, defBody st_all_beats, defScope st_all_beats, [], []⟩,
  ⟨("all_marks", none), "all_marks", "all_marks", defArgs st_all_marks, defBody st_all_marks, defScope st_all_marks, [], []⟩,
  ⟨("fits", none), "fits", "fits", defArgs st_fits, defBody st_fits, defScope st_fits, [], []⟩,
  ⟨("wider", none), "wider", "wider", defArgs st_wider, defBody st_wider, defScope st_wider, [], []⟩,
  ⟨("marks_of", none), "marks_of", "marks_of", defArgs st_marks_of, defBody st_marks_of, defScope st_marks_of, [], []⟩,
  ⟨("fewest_of", none), "fewest_of", "fewest_of", defArgs st_fewest_of, defBody st_fewest_of, defScope st_fewest_of, [], []⟩,
  ⟨("fewest", none), "fewest", "fewest", defArgs st_fewest, defBody st_fewest, defScope st_fewest, [], []⟩,
  ⟨("_law_same", none), "_law_same", "_law_same", defArgs st__law_same, defBody st__law_same, defScope st__law_same, [], []⟩,
  ⟨("law", none), "law", "law", defArgs st_law, defBody st_law, defScope st_law, [], []⟩,
  ⟨("BadBeat", some "__init__"), "__init__", "BadBeat.__init__", defArgs st_x_BadBeat, defBody st_x_BadBeat, defScope st_x_BadBeat, [], []⟩]
def exl (K : PySem.W.Frag) : List Bool := [globB K "MOST_INS" (.int 4),
  exBB K (He.ga K "BeatError"),
  oexB K (He.ga K "BadBeat"),
  initB K (He.ga K "BadBeat") ["number"]]
def exB (K : PySem.W.Frag) : Bool := (exl K).all id
theorem tx_of {K : PySem.W.Frag} {h : Heap} {mg : Str → Option Value} {w : World} (X : K.In h) (G : h.Ns mainGlobals mg) (c : He.SaysD fa fn K) (e : exB K = true) : Tx K mg w := by
  have exs : ∀ (i : Nat) {b : Bool}, (exl K)[i]? = some b → b = true := fun i b hb => List.all_eq_true.mp e b (List.mem_of_getElem? hb)
  refine {
    g__law_start := He.glo_ok X G (c.fact 0 rfl)
    g__law_beats := He.glo_ok X G (c.fact 1 rfl)
    g__law_widest := He.glo_ok X G (c.fact 2 rfl)
    g__law_marks := He.glo_ok X G (c.fact 3 rfl)
    g__law_lets := He.glo_ok X G (c.fact 4 rfl)
    g__law_many := He.glo_ok X G (c.fact 5 rfl)
    g__law_fewest := He.glo_ok X G (c.fact 6 rfl)
    g__law_drawn := He.glo_ok X G (c.fact 7 rfl)
    g_is_word := He.glo_ok X G (c.fact 8 rfl)
    g_need_beats := He.glo_ok X G (c.fact 9 rfl)
    g_all_beats := He.glo_ok X G (c.fact 10 rfl)
    g_all_marks := He.glo_ok X G (c.fact 11 rfl)
    g_fits := He.glo_ok X G (c.fact 12 rfl)
    g_wider := He.glo_ok X G (c.fact 13 rfl)
    g_marks_of := He.glo_ok X G (c.fact 14 rfl)
    g_fewest_of := He.glo_ok X G (c.fact 15 rfl)
    g_fewest := He.glo_ok X G (c.fact 16 rfl)
    g__law_same := He.glo_ok X G (c.fact 17 rfl)
    g_law := He.glo_ok X G (c.fact 18 rfl)
    g_BeatError := He.glo_ok X G (c.fact 19 rfl)
    g_BadBeat := He.glo_ok X G (c.fact 20 rfl)
    g_BadMarks := He.glo_ok X G (c.fact 21 rfl)
    g_Cover := He.glo_ok X G (c.fact 22 rfl)
    z_range := He.free_ok X G (c.fact 23 rfl)
    z_len := He.free_ok X G (c.fact 24 rfl)
    z_tuple := He.free_ok X G (c.fact 25 rfl)
    z_min := He.free_ok X G (c.fact 26 rfl)
    z_enumerate := He.free_ok X G (c.fact 27 rfl)
    z_sorted := He.free_ok X G (c.fact 28 rfl)
    z_set := He.free_ok X G (c.fact 29 rfl)
    z_list := He.free_ok X G (c.fact 30 rfl)
    z_isinstance := He.free_ok X G (c.fact 31 rfl)
    z_bool := He.free_ok X G (c.fact 32 rfl)
    z_int := He.free_ok X G (c.fact 33 rfl)
    k_MOST_INS := globB_ok X G (exs 0 rfl)
    xb := exBB_ok (exs 1 rfl)
    xo_BadBeat := oexB_ok (exs 2 rfl)
    xi_BadBeat := initB_ok (exs 3 rfl)
    xt_BadMarks := exT_ok (c.fact 34 rfl)
    c_Cover := He.cls_ok (c.fact 35 rfl)
    mk_Cover := He.mkr_ok (c.fact 36 rfl)
    m_Cover_left := He.meth_ok (c.fact 37 rfl)
    m_Cover_many := He.meth_ok (c.fact 38 rfl)
    m_Cover_first := He.meth_ok (c.fact 39 rfl)
    fl_Cover_known := ?_
    fl_Cover_marks := ?_
    f__law_start := c.def_ 0 rfl
    f__law_beats := c.def_ 1 rfl
    f__law_widest := c.def_ 2 rfl
    f__law_marks := c.def_ 3 rfl
    f__law_lets := c.def_ 4 rfl
    f__law_many := c.def_ 5 rfl
    f__law_fewest := c.def_ 6 rfl
    f__law_drawn := c.def_ 7 rfl
    f_is_word := c.def_ 8 rfl
    f_need_beats := c.def_ 9 rfl
    f_Cover_left := c.def_ 10 rfl
    f_Cover_many := c.def_ 11 rfl
    f_Cover_first := c.def_ 12 rfl
    f_Cover_init := c.def_ 13 rfl
    f_all_beats := c.def_ 14 rfl
    f_all_marks := c.def_ 15 rfl
    f_fits := c.def_ 16 rfl
    f_wider := c.def_ 17 rfl
    f_marks_of := c.def_ 18 rfl
    f_fewest_of := c.def_ 19 rfl
    f_fewest := c.def_ 20 rfl
    f__law_same := c.def_ 21 rfl
    f_law := c.def_ 22 rfl
    f_x_BadBeat := c.def_ 23 rfl }
  · exact fun z hz => by
      have hz2 : z = 21 := by simpa using hz
      subst hz2
      exact ⟨He.cls_ok (c.fact 35 rfl), He.noat_ok (c.fact 40 rfl)⟩
  · exact fun z hz => by
      have hz2 : z = 21 := by simpa using hz
      subst hz2
      exact ⟨He.cls_ok (c.fact 35 rfl), He.noat_ok (c.fact 41 rfl)⟩
abbrev R : PySem.W.OpenRow := PySem.W.OpenLaw.row PySem.Challenge.rw_tablebeat_k41_whole_fewest_marks_of_any
abbrev hk : PySem.W.Hook := hookE 5 fa fn exB
def ob (s : PySem.W.SharedT) : He.AlD × Bool := obE 5 fa fn exB (HandSHeadRun.getT s)
theorem ob_eq (s : PySem.W.SharedT) : ob s = hk.obs s.abs := obE_eq (HandSHeadRun.getT_eq s)
def loose0 : List Str := ["__name__", "BeatError", "BadBeat", "BadMarks", "MOST_INS", "is_word", "all_beats", "need_beats", "fits", "all_marks", "wider", "marks_of"]
def loose1 : List Str := ["Cover", "fewest_of", "fewest", "_law_start", "_law_drawn", "_law_same", "_law_beats", "_law_lets", "_law_marks", "_law_many", "_law_widest", "_law_fewest"]
def loose : List Str := loose0 ++ loose1
end Lw

namespace Lw
open PySem PySem.Spec PyProof.Rows L2 DL
def isSt (o : DO) : Prop := ∃ (ns : List Int) (i mx lf : Int), o = .lst [.frl (ns.map .int), .int i, .int mx, .int lf] ∧ 0 ≤ i
def At (l : Nat) (S : Sto) : Prop := ∃ o, S[l]? = some o ∧ isSt o
def Dr (l : Nat) (S S' : Sto) : Prop := ∃ o, S' = S.set l o ∧ isSt o ∧ l < S.length
theorem At.lt {l : Nat} {S : Sto} (h : At l S) : l < S.length := by
  obtain ⟨o, e, _⟩ := h
  exact (List.getElem?_eq_some_iff.mp e).1
theorem At.self {l : Nat} {S : Sto} (h : At l S) : Dr l S S := by
  have hl := h.lt
  obtain ⟨o, e, hs⟩ := h
  refine ⟨o, ?_, hs, hl⟩
  obtain ⟨_, e2⟩ := List.getElem?_eq_some_iff.mp e
  rw [← e2, List.set_getElem_self]
theorem Dr.at {l : Nat} {S S' : Sto} (h : Dr l S S') : At l S' := by
  obtain ⟨o, rfl, hs, hl⟩ := h
  exact ⟨o, List.getElem?_set_self hl, hs⟩
theorem Dr.len {l : Nat} {S S' : Sto} (h : Dr l S S') : S'.length = S.length := by
  obtain ⟨o, rfl, _, _⟩ := h
  simp
theorem Dr.lt {l : Nat} {S S' : Sto} (h : Dr l S S') : l < S.length := h.choose_spec.2.2
theorem Dr.trans {l : Nat} {A B C : Sto} (a : Dr l A B) (b : Dr l B C) : Dr l A C := by
  obtain ⟨o, rfl, _, hl⟩ := a
  obtain ⟨o', rfl, hs, _⟩ := b
  exact ⟨o', by rw [List.set_set], hs, hl⟩
theorem Dr.get {l k : Nat} {S S' : Sto} (h : Dr l S S') (n : k ≠ l) : S'[k]? = S[k]? := by
  obtain ⟨o, rfl, _, _⟩ := h
  rw [List.getElem?_set_ne (Ne.symm n)]
theorem At.app {l : Nat} {S : Sto} (T : Sto) (h : At l S) : At l (S ++ T) := by
  have hl := h.lt
  obtain ⟨o, e, hs⟩ := h
  exact ⟨o, by rw [List.getElem?_append_left hl]; exact e, hs⟩
theorem Dr.app {l : Nat} {S T S' : Sto} (h : Dr l (S ++ T) S') (hl : l < S.length) : ∃ S1, S' = S1 ++ T ∧ Dr l S S1 := by
  obtain ⟨o, rfl, hs, _⟩ := h
  exact ⟨S.set l o, by rw [List.set_append_left _ _ hl], o, rfl, hs, hl⟩
theorem st_blw {n : Nat} {o : DO} (h : isSt o) : o.blw n = true := by
  obtain ⟨ns, i, mx, lf, rfl, _⟩ := h
  show (D.blw n (.frl (ns.map .int)) && _) = true
  have : D.blw n (.frl (ns.map .int)) = true := gd_blw (n := 1) _ (fun d hd => by obtain ⟨k, _, rfl⟩ := List.mem_map.mp hd; exact gd_int)
  rw [this]; rfl
def Gn (l : Nat) (S : Sto) (r : Res D) (P : D → Prop) : Prop := ∃ d S', r = .ok d S' ∧ Dr l S S' ∧ P d
theorem Gn.w {l : Nat} {S : Sto} {r : Res D} {P : D → Prop} {Q : D → Sto → Prop} {X : Exc → Sto → Prop} (h : Gn l S r P) (hq : ∀ d S', Dr l S S' → P d → Q d S') : Wp r Q X := by
  obtain ⟨d, S', rfl, hd, hp⟩ := h
  exact hq d S' hd hp
theorem Gn.wT {l : Nat} {S T : Sto} {r : Res D} {P : D → Prop} {Q : D → Sto → Prop} {X : Exc → Sto → Prop} (h : Gn l (S ++ T) r P) (hl : l < S.length) (hq : ∀ d S', Dr l S S' → P d → Q d (S' ++ T)) : Wp r Q X := by
  obtain ⟨d, S', rfl, hd, hp⟩ := h
  obtain ⟨S1, rfl, hd1⟩ := hd.app hl
  exact hq d S1 hd1 hp
theorem Gn.mono {l : Nat} {S : Sto} {r : Res D} {P P' : D → Prop} (h : Gn l S r P) (hp : ∀ d, P d → P' d) : Gn l S r P' := by
  obtain ⟨d, S', e, hd, h⟩ := h
  exact ⟨d, S', e, hd, hp d h⟩
theorem fn_gn {n l : Nat} {b : Sl → Sto → Res Fl} {ds : List D} {S : Sto} {P : D → Prop} (h : Wp (b (startD n ds) S) (kFn fun d S' => ∃ S1 T, S' = S1 ++ T ∧ Dr l S S1 ∧ d.blw S.length = true ∧ P d) NX) : Gn l S (cutF (dFn n b) ds S) P := by
  have h' : Wp (dFn n b ds S) (fun d S' => ∃ S1 T, S' = S1 ++ T ∧ Dr l S S1 ∧ d.blw S.length = true ∧ P d) NX := by rw [z2l]; exact h
  obtain ⟨d, S', e, S1, T, rfl, hd, hb, hp⟩ := Wp.ok h'
  refine ⟨d, S1, ?_, hd, hp⟩
  obtain ⟨o, rfl, hs, hl⟩ := hd
  unfold cutF
  rw [e, cut_set hb (st_blw hs)]
theorem Dr.out {l : Nat} {S S' : Sto} {d : D} {P : D → Prop} (h : Dr l S S') (hb : d.blw S.length = true) (hp : P d) : ∃ S1 T, S' = S1 ++ T ∧ Dr l S S1 ∧ d.blw S.length = true ∧ P d := ⟨S', [], by simp, h, hb, hp⟩
theorem pow18 {S : Sto} {Q : D → Sto → Prop} {X : Exc → Sto → Prop} : Wp (powD (.int 10) (.int 18) S) Q X = Q (.int 1000000000000000000) S := by
  have e : powD (.int 10) (.int 18) S = .ok (.int 1000000000000000000) S := by
    simp only [powD]
    rw [if_pos (powOk_of (by decide))]
    rfl
  rw [e]; rfl
theorem draw {l : Nat} {S : Sto} {many : Int} (h : At l S) (hm : 0 < many := by omega) (hl : many < 10 ^ 40 := by omega) :
    Gn l S (F__law_drawn [.ref l, .int many] S) (fun d => ∃ v, d = .int v ∧ 0 ≤ v ∧ v < many) := by
  have hlt := h.lt
  have hlg := fd_ok hm hl
  obtain ⟨o, hS, ns, i, mx, lf, rfl, hi⟩ := h
  have x1 : ixN 4 1 = some 1 := rfl
  have x2 : ixN 4 2 = some 2 := rfl
  have x3 : ixN 4 3 = some 3 := rfl
  have fin : ∀ (i' mx' lf' v : Int), 0 ≤ i' → 0 ≤ v → v < many → ∃ S1 T, (S.set l (.lst [.frl (ns.map .int), .int i', .int mx', .int lf'])) = S1 ++ T ∧ Dr l S S1 ∧ (D.int v).blw S.length = true ∧ ∃ w, D.int v = .int w ∧ 0 ≤ w ∧ w < many := fun i' mx' lf' v h h0 h1 =>
    Dr.out (P := fun d => ∃ w, d = .int w ∧ 0 ≤ w ∧ w < many) ⟨_, rfl, ⟨ns, i', mx', lf', rfl, h⟩, hlt⟩ rfl ⟨v, rfl, h0, h1⟩
  unfold F__law_drawn
  refine fn_gn ?_
  unfold b__law_drawn
  simp only [z1T, w_dC, z1L, z1i, z1W, z1Y, w_d2, z2o, w_d3, z2m, z1Z, z1e, z1J, z1g, z1U, z2p, z1G, z2n, z1V, z1f, z1M, z2q, z1I, z1m, z1R, z1K, z1N, z1c, zL, z1a, z1Q, z1S, zN, z1j, zP, zM, z19, z1h, z1l, z1d, zR, z16, z1O, z18, z1n, zK, z17, z15, zO, zI, z1k, z2r, z1X, z1b, zH, z1w, z2K, z1F, w_ok, z2v, z1x, z2l, z27, z1C, z2h, z23, z2O, z2N, z2g, z1s, zU, z12, z28, z2b, z2c, z20, z2k, z21, z2i, z2F, z2D, z2B, z2L, z2y, z2H, z2t, z2A, z29, z1P, z1H, z2f, z14, z1r, Int.reduceToNat, Int.reduceLE, Int.reduceLT, Int.reduceNeg, startD, List.map_cons, List.map_nil, List.length_cons, List.length_nil, List.replicate, List.cons_append, List.nil_append, List.getElem?_cons_zero, List.getElem?_cons_succ, List.set_cons_zero, List.set_cons_succ, Nat.reduceAdd, Nat.reduceSub, Nat.reduceEqDiff, if_true, if_false, Bool.false_eq_true, decide_true, decide_false, Int.reduceEq, Int.reduceAdd, Int.reduceSub, Int.reduceMul, Bool.not_true, Bool.not_false, c_0, c_1, c_2, c_3, c_4, c_5, c_6, c_7, c_8, c_9, c_10, c_11, c_12, sz_0, sz_1, sz_2, sz_3, sz_4, sz_5, sz_6, sz_7, sz_8, sz_9, z2J, z2I, z2E, z2s, z2x, z2z, z2w, Bool.true_eq_false, eq_self, za, zb, z4, z7, z5, z3, zw, zy, zi, zr, zp, z8, zn, zj, ze, zg, zh, z6, zz, zu, zf, zq, zo, z9, zD, zE, zm, zt, zA, zc, zG, zB, zl, zv, zx, zd, z2j, z2a, zS, z1E, z1q, z25, z2C, z2u, z2G, zY, z26, z2d, zT, z1p, z1D, z24, z1o, zF, z1u, zQ, z1t, z1B, zC, zX, z10, z2e, z22, z1z, z1A, z1y, zV, z11, z1v, zJ, zW, zZ, w_ixL2 hS]
  by_cases h1 : (0 : Int) < lf
  · simp only [h1, z1T, w_dC, z1L, z1i, z1W, z1Y, w_d2, z2o, w_d3, z2m, z1Z, z1e, z1J, z1g, z1U, z2p, z1G, z2n, z1V, z1f, z1M, z2q, z1I, z1m, z1R, z1K, z1N, z1c, zL, z1a, z1Q, z1S, zN, z1j, zP, zM, z19, z1h, z1l, z1d, zR, z16, z1O, z18, z1n, zK, z17, z15, zO, zI, z1k, z2r, z1X, z1b, zH, z1w, z2K, z1F, w_ok, z2v, z1x, z2l, z27, z1C, z2h, z23, z2O, z2N, z2g, z1s, zU, z12, z28, z2b, z2c, z20, z2k, z21, z2i, z2F, z2D, z2B, z2L, z2y, z2H, z2t, z2A, z29, z1P, z1H, z2f, z14, z1r, Int.reduceToNat, Int.reduceLE, Int.reduceLT, Int.reduceNeg, startD, List.map_cons, List.map_nil, List.length_cons, List.length_nil, List.replicate, List.cons_append, List.nil_append, List.getElem?_cons_zero, List.getElem?_cons_succ, List.set_cons_zero, List.set_cons_succ, Nat.reduceAdd, Nat.reduceSub, Nat.reduceEqDiff, if_true, if_false, Bool.false_eq_true, decide_true, decide_false, Int.reduceEq, Int.reduceAdd, Int.reduceSub, Int.reduceMul, Bool.not_true, Bool.not_false, c_0, c_1, c_2, c_3, c_4, c_5, c_6, c_7, c_8, c_9, c_10, c_11, c_12, sz_0, sz_1, sz_2, sz_3, sz_4, sz_5, sz_6, sz_7, sz_8, sz_9, z2J, z2I, z2E, z2s, z2x, z2z, z2w, Bool.true_eq_false, eq_self, za, zb, z4, z7, z5, z3, zw, zy, zi, zr, zp, z8, zn, zj, ze, zg, zh, z6, zz, zu, zf, zq, zo, z9, zD, zE, zm, zt, zA, zc, zG, zB, zl, zv, zx, zd, z2j, z2a, zS, z1E, z1q, z25, z2C, z2u, z2G, zY, z26, z2d, zT, z1p, z1D, z24, z1o, zF, z1u, zQ, z1t, z1B, zC, zX, z10, z2e, z22, z1z, z1A, z1y, zV, z11, z1v, zJ, zW, zZ, w_ixL2 hS, w_modI hm, w_fdivI hlg, w_setL2 hS, x3]
    exact fin i mx _ _ hi (Int.emod_nonneg _ (by omega)) (Int.emod_lt_of_pos _ hm)
  · have hS1 : (S.set l (.lst [.frl (ns.map .int), .int (i + 1), .int mx, .int lf]))[l]? = some (.lst [.frl (ns.map .int), .int (i + 1), .int mx, .int lf]) := set_same hlt
    simp only [h1, z1T, w_dC, z1L, z1i, z1W, z1Y, w_d2, z2o, w_d3, z2m, z1Z, z1e, z1J, z1g, z1U, z2p, z1G, z2n, z1V, z1f, z1M, z2q, z1I, z1m, z1R, z1K, z1N, z1c, zL, z1a, z1Q, z1S, zN, z1j, zP, zM, z19, z1h, z1l, z1d, zR, z16, z1O, z18, z1n, zK, z17, z15, zO, zI, z1k, z2r, z1X, z1b, zH, z1w, z2K, z1F, w_ok, z2v, z1x, z2l, z27, z1C, z2h, z23, z2O, z2N, z2g, z1s, zU, z12, z28, z2b, z2c, z20, z2k, z21, z2i, z2F, z2D, z2B, z2L, z2y, z2H, z2t, z2A, z29, z1P, z1H, z2f, z14, z1r, Int.reduceToNat, Int.reduceLE, Int.reduceLT, Int.reduceNeg, startD, List.map_cons, List.map_nil, List.length_cons, List.length_nil, List.replicate, List.cons_append, List.nil_append, List.getElem?_cons_zero, List.getElem?_cons_succ, List.set_cons_zero, List.set_cons_succ, Nat.reduceAdd, Nat.reduceSub, Nat.reduceEqDiff, if_true, if_false, Bool.false_eq_true, decide_true, decide_false, Int.reduceEq, Int.reduceAdd, Int.reduceSub, Int.reduceMul, Bool.not_true, Bool.not_false, c_0, c_1, c_2, c_3, c_4, c_5, c_6, c_7, c_8, c_9, c_10, c_11, c_12, sz_0, sz_1, sz_2, sz_3, sz_4, sz_5, sz_6, sz_7, sz_8, sz_9, z2J, z2I, z2E, z2s, z2x, z2z, z2w, Bool.true_eq_false, eq_self, za, zb, z4, z7, z5, z3, zw, zy, zi, zr, zp, z8, zn, zj, ze, zg, zh, z6, zz, zu, zf, zq, zo, z9, zD, zE, zm, zt, zA, zc, zG, zB, zl, zv, zx, zd, z2j, z2a, zS, z1E, z1q, z25, z2C, z2u, z2G, zY, z26, z2d, zT, z1p, z1D, z24, z1o, zF, z1u, zQ, z1t, z1B, zC, zX, z10, z2e, z22, z1z, z1A, z1y, zV, z11, z1v, zJ, zW, zZ, w_ixL2 hS, w_setL2 hS, x1, w_ixL2 hS1, z1P, List.length_map]
    by_cases h2 : i + 1 ≤ ((ns.length : Nat) : Int)
    · have h2' : i.toNat < ns.length := by omega
      have ea : atI (ns.map D.int) (i + 1 - 1) = some (.int ns[i.toNat]) := by
        rw [show i + 1 - 1 = i by omega, z14 hi]
        simp [h2']
      simp only [h2, z1T, w_dC, z1L, z1i, z1W, z1Y, w_d2, z2o, w_d3, z2m, z1Z, z1e, z1J, z1g, z1U, z2p, z1G, z2n, z1V, z1f, z1M, z2q, z1I, z1m, z1R, z1K, z1N, z1c, zL, z1a, z1Q, z1S, zN, z1j, zP, zM, z19, z1h, z1l, z1d, zR, z16, z1O, z18, z1n, zK, z17, z15, zO, zI, z1k, z2r, z1X, z1b, zH, z1w, z2K, z1F, w_ok, z2v, z1x, z2l, z27, z1C, z2h, z23, z2O, z2N, z2g, z1s, zU, z12, z28, z2b, z2c, z20, z2k, z21, z2i, z2F, z2D, z2B, z2L, z2y, z2H, z2t, z2A, z29, z1P, z1H, z2f, z14, z1r, Int.reduceToNat, Int.reduceLE, Int.reduceLT, Int.reduceNeg, startD, List.map_cons, List.map_nil, List.length_cons, List.length_nil, List.replicate, List.cons_append, List.nil_append, List.getElem?_cons_zero, List.getElem?_cons_succ, List.set_cons_zero, List.set_cons_succ, Nat.reduceAdd, Nat.reduceSub, Nat.reduceEqDiff, if_true, if_false, Bool.false_eq_true, decide_true, decide_false, Int.reduceEq, Int.reduceAdd, Int.reduceSub, Int.reduceMul, Bool.not_true, Bool.not_false, c_0, c_1, c_2, c_3, c_4, c_5, c_6, c_7, c_8, c_9, c_10, c_11, c_12, sz_0, sz_1, sz_2, sz_3, sz_4, sz_5, sz_6, sz_7, sz_8, sz_9, z2J, z2I, z2E, z2s, z2x, z2z, z2w, Bool.true_eq_false, eq_self, za, zb, z4, z7, z5, z3, zw, zy, zi, zr, zp, z8, zn, zj, ze, zg, zh, z6, zz, zu, zf, zq, zo, z9, zD, zE, zm, zt, zA, zc, zG, zB, zl, zv, zx, zd, z2j, z2a, zS, z1E, z1q, z25, z2C, z2u, z2G, zY, z26, z2d, zT, z1p, z1D, z24, z1o, zF, z1u, zQ, z1t, z1B, zC, zX, z10, z2e, z22, z1z, z1A, z1y, zV, z11, z1v, zJ, zW, zZ, w_ixL2 hS1, ea, pow18]
      generalize ns[i.toNat] = cc
      by_cases h3 : (1000000000000000000 : Int) ≤ cc
      · simp only [h3, z1T, w_dC, z1L, z1i, z1W, z1Y, w_d2, z2o, w_d3, z2m, z1Z, z1e, z1J, z1g, z1U, z2p, z1G, z2n, z1V, z1f, z1M, z2q, z1I, z1m, z1R, z1K, z1N, z1c, zL, z1a, z1Q, z1S, zN, z1j, zP, zM, z19, z1h, z1l, z1d, zR, z16, z1O, z18, z1n, zK, z17, z15, zO, zI, z1k, z2r, z1X, z1b, zH, z1w, z2K, z1F, w_ok, z2v, z1x, z2l, z27, z1C, z2h, z23, z2O, z2N, z2g, z1s, zU, z12, z28, z2b, z2c, z20, z2k, z21, z2i, z2F, z2D, z2B, z2L, z2y, z2H, z2t, z2A, z29, z1P, z1H, z2f, z14, z1r, Int.reduceToNat, Int.reduceLE, Int.reduceLT, Int.reduceNeg, startD, List.map_cons, List.map_nil, List.length_cons, List.length_nil, List.replicate, List.cons_append, List.nil_append, List.getElem?_cons_zero, List.getElem?_cons_succ, List.set_cons_zero, List.set_cons_succ, Nat.reduceAdd, Nat.reduceSub, Nat.reduceEqDiff, if_true, if_false, Bool.false_eq_true, decide_true, decide_false, Int.reduceEq, Int.reduceAdd, Int.reduceSub, Int.reduceMul, Bool.not_true, Bool.not_false, c_0, c_1, c_2, c_3, c_4, c_5, c_6, c_7, c_8, c_9, c_10, c_11, c_12, sz_0, sz_1, sz_2, sz_3, sz_4, sz_5, sz_6, sz_7, sz_8, sz_9, z2J, z2I, z2E, z2s, z2x, z2z, z2w, Bool.true_eq_false, eq_self, za, zb, z4, z7, z5, z3, zw, zy, zi, zr, zp, z8, zn, zj, ze, zg, zh, z6, zz, zu, zf, zq, zo, z9, zD, zE, zm, zt, zA, zc, zG, zB, zl, zv, zx, zd, z2j, z2a, zS, z1E, z1q, z25, z2C, z2u, z2G, zY, z26, z2d, zT, z1p, z1D, z24, z1o, zF, z1u, zQ, z1t, z1B, zC, zX, z10, z2e, z22, z1z, z1A, z1y, zV, z11, z1v, zJ, zW, zZ, w_fdivI hlg, w_setL2 hS1, x3, w_modI hm, List.set_set]
        exact fin (i + 1) mx _ _ (by omega) (Int.emod_nonneg _ (by omega)) (Int.emod_lt_of_pos _ hm)
      · simp only [h3, z1T, w_dC, z1L, z1i, z1W, z1Y, w_d2, z2o, w_d3, z2m, z1Z, z1e, z1J, z1g, z1U, z2p, z1G, z2n, z1V, z1f, z1M, z2q, z1I, z1m, z1R, z1K, z1N, z1c, zL, z1a, z1Q, z1S, zN, z1j, zP, zM, z19, z1h, z1l, z1d, zR, z16, z1O, z18, z1n, zK, z17, z15, zO, zI, z1k, z2r, z1X, z1b, zH, z1w, z2K, z1F, w_ok, z2v, z1x, z2l, z27, z1C, z2h, z23, z2O, z2N, z2g, z1s, zU, z12, z28, z2b, z2c, z20, z2k, z21, z2i, z2F, z2D, z2B, z2L, z2y, z2H, z2t, z2A, z29, z1P, z1H, z2f, z14, z1r, Int.reduceToNat, Int.reduceLE, Int.reduceLT, Int.reduceNeg, startD, List.map_cons, List.map_nil, List.length_cons, List.length_nil, List.replicate, List.cons_append, List.nil_append, List.getElem?_cons_zero, List.getElem?_cons_succ, List.set_cons_zero, List.set_cons_succ, Nat.reduceAdd, Nat.reduceSub, Nat.reduceEqDiff, if_true, if_false, Bool.false_eq_true, decide_true, decide_false, Int.reduceEq, Int.reduceAdd, Int.reduceSub, Int.reduceMul, Bool.not_true, Bool.not_false, c_0, c_1, c_2, c_3, c_4, c_5, c_6, c_7, c_8, c_9, c_10, c_11, c_12, sz_0, sz_1, sz_2, sz_3, sz_4, sz_5, sz_6, sz_7, sz_8, sz_9, z2J, z2I, z2E, z2s, z2x, z2z, z2w, Bool.true_eq_false, eq_self, za, zb, z4, z7, z5, z3, zw, zy, zi, zr, zp, z8, zn, zj, ze, zg, zh, z6, zz, zu, zf, zq, zo, z9, zD, zE, zm, zt, zA, zc, zG, zB, zl, zv, zx, zd, z2j, z2a, zS, z1E, z1q, z25, z2C, z2u, z2G, zY, z26, z2d, zT, z1p, z1D, z24, z1o, zF, z1u, zQ, z1t, z1B, zC, zX, z10, z2e, z22, z1z, z1A, z1y, zV, z11, z1v, zJ, zW, zZ, w_setL2 hS1, x3, w_modI hm, List.set_set]
        exact fin (i + 1) mx _ _ (by omega) (Int.emod_nonneg _ (by omega)) (Int.emod_lt_of_pos _ hm)
    · have hS2 : ∀ m, (S.set l (.lst [.frl (ns.map .int), .int (i + 1), .int m, .int lf]))[l]? = some (.lst [.frl (ns.map .int), .int (i + 1), .int m, .int lf]) := fun m => set_same hlt
      simp only [h2, z1T, w_dC, z1L, z1i, z1W, z1Y, w_d2, z2o, w_d3, z2m, z1Z, z1e, z1J, z1g, z1U, z2p, z1G, z2n, z1V, z1f, z1M, z2q, z1I, z1m, z1R, z1K, z1N, z1c, zL, z1a, z1Q, z1S, zN, z1j, zP, zM, z19, z1h, z1l, z1d, zR, z16, z1O, z18, z1n, zK, z17, z15, zO, zI, z1k, z2r, z1X, z1b, zH, z1w, z2K, z1F, w_ok, z2v, z1x, z2l, z27, z1C, z2h, z23, z2O, z2N, z2g, z1s, zU, z12, z28, z2b, z2c, z20, z2k, z21, z2i, z2F, z2D, z2B, z2L, z2y, z2H, z2t, z2A, z29, z1P, z1H, z2f, z14, z1r, Int.reduceToNat, Int.reduceLE, Int.reduceLT, Int.reduceNeg, startD, List.map_cons, List.map_nil, List.length_cons, List.length_nil, List.replicate, List.cons_append, List.nil_append, List.getElem?_cons_zero, List.getElem?_cons_succ, List.set_cons_zero, List.set_cons_succ, Nat.reduceAdd, Nat.reduceSub, Nat.reduceEqDiff, if_true, if_false, Bool.false_eq_true, decide_true, decide_false, Int.reduceEq, Int.reduceAdd, Int.reduceSub, Int.reduceMul, Bool.not_true, Bool.not_false, c_0, c_1, c_2, c_3, c_4, c_5, c_6, c_7, c_8, c_9, c_10, c_11, c_12, sz_0, sz_1, sz_2, sz_3, sz_4, sz_5, sz_6, sz_7, sz_8, sz_9, z2J, z2I, z2E, z2s, z2x, z2z, z2w, Bool.true_eq_false, eq_self, za, zb, z4, z7, z5, z3, zw, zy, zi, zr, zp, z8, zn, zj, ze, zg, zh, z6, zz, zu, zf, zq, zo, z9, zD, zE, zm, zt, zA, zc, zG, zB, zl, zv, zx, zd, z2j, z2a, zS, z1E, z1q, z25, z2C, z2u, z2G, zY, z26, z2d, zT, z1p, z1D, z24, z1o, zF, z1u, zQ, z1t, z1B, zC, zX, z10, z2e, z22, z1z, z1A, z1y, zV, z11, z1v, zJ, zW, zZ, w_ixL2 hS1, w_mulI (a := mx) (b := 48271) (mul_r (mul_okI (by decide) (by decide))), w_modI (show (0 : Int) < 2147483647 by decide), w_setL2 hS1, x2, List.set_set, w_ixL2 (hS2 _), w_fdivI (fd_ok (b := 7) (by decide) (by decide)), w_modI hm]
      exact fin (i + 1) _ lf _ (by omega) (Int.emod_nonneg _ (by omega)) (Int.emod_lt_of_pos _ hm)
theorem start_ok {ns : List Int} {S : Sto} : ∃ o, Fr__law_start [.frl (ns.map .int)] S = .ok (.ref S.length) (S ++ [o]) ∧ isSt o := by
  have h : Wp (dFn 3 br__law_start [.frl (ns.map .int)] S) (fun d S' => ∃ mx, d = .ref S.length ∧ S' = S ++ [.lst [.frl (ns.map .int), .int 0, .int mx, .int 0]]) NX := by
    rw [z2l]
    unfold br__law_start
    simp only [z1T, w_dC, z1L, z1i, z1W, z1Y, w_d2, z2o, w_d3, z2m, z1Z, z1e, z1J, z1g, z1U, z2p, z1G, z2n, z1V, z1f, z1M, z2q, z1I, z1m, z1R, z1K, z1N, z1c, zL, z1a, z1Q, z1S, zN, z1j, zP, zM, z19, z1h, z1l, z1d, zR, z16, z1O, z18, z1n, zK, z17, z15, zO, zI, z1k, z2r, z1X, z1b, zH, z1w, z2K, z1F, w_ok, z2v, z1x, z2l, z27, z1C, z2h, z23, z2O, z2N, z2g, z1s, zU, z12, z28, z2b, z2c, z20, z2k, z21, z2i, z2F, z2D, z2B, z2L, z2y, z2H, z2t, z2A, z29, z1P, z1H, z2f, z14, z1r, Int.reduceToNat, Int.reduceLE, Int.reduceLT, Int.reduceNeg, startD, List.map_cons, List.map_nil, List.length_cons, List.length_nil, List.replicate, List.cons_append, List.nil_append, List.getElem?_cons_zero, List.getElem?_cons_succ, List.set_cons_zero, List.set_cons_succ, Nat.reduceAdd, Nat.reduceSub, Nat.reduceEqDiff, if_true, if_false, Bool.false_eq_true, decide_true, decide_false, Int.reduceEq, Int.reduceAdd, Int.reduceSub, Int.reduceMul, Bool.not_true, Bool.not_false, c_0, c_1, c_2, c_3, c_4, c_5, c_6, c_7, c_8, c_9, c_10, c_11, c_12, sz_0, sz_1, sz_2, sz_3, sz_4, sz_5, sz_6, sz_7, sz_8, sz_9, z2J, z2I, z2E, z2s, z2x, z2z, z2w, Bool.true_eq_false, eq_self, za, zb, z4, z7, z5, z3, zw, zy, zi, zr, zp, z8, zn, zj, ze, zg, zh, z6, zz, zu, zf, zq, zo, z9, zD, zE, zm, zt, zA, zc, zG, zB, zl, zv, zx, zd, z2j, z2a, zS, z1E, z1q, z25, z2C, z2u, z2G, zY, z26, z2d, zT, z1p, z1D, z24, z1o, zF, z1u, zQ, z1t, z1B, zC, zX, z10, z2e, z22, z1z, z1A, z1y, zV, z11, z1v, zJ, zW, zZ, itemsD]
    refine w_loopP D.int (fun _ sd S' => S' = S ∧ ∃ a v, sd = [some (.frl (ns.map .int)), some (.int v), a]) ns (fun _ _ _ _ _ _ => rfl) ⟨rfl, none, 1, rfl⟩ ?_ ?_
    · rintro sd S' ⟨rfl, a, v, rfl⟩
      simp only [z1T, w_dC, z1L, z1i, z1W, z1Y, w_d2, z2o, w_d3, z2m, z1Z, z1e, z1J, z1g, z1U, z2p, z1G, z2n, z1V, z1f, z1M, z2q, z1I, z1m, z1R, z1K, z1N, z1c, zL, z1a, z1Q, z1S, zN, z1j, zP, zM, z19, z1h, z1l, z1d, zR, z16, z1O, z18, z1n, zK, z17, z15, zO, zI, z1k, z2r, z1X, z1b, zH, z1w, z2K, z1F, w_ok, z2v, z1x, z2l, z27, z1C, z2h, z23, z2O, z2N, z2g, z1s, zU, z12, z28, z2b, z2c, z20, z2k, z21, z2i, z2F, z2D, z2B, z2L, z2y, z2H, z2t, z2A, z29, z1P, z1H, z2f, z14, z1r, Int.reduceToNat, Int.reduceLE, Int.reduceLT, Int.reduceNeg, startD, List.map_cons, List.map_nil, List.length_cons, List.length_nil, List.replicate, List.cons_append, List.nil_append, List.getElem?_cons_zero, List.getElem?_cons_succ, List.set_cons_zero, List.set_cons_succ, Nat.reduceAdd, Nat.reduceSub, Nat.reduceEqDiff, if_true, if_false, Bool.false_eq_true, decide_true, decide_false, Int.reduceEq, Int.reduceAdd, Int.reduceSub, Int.reduceMul, Bool.not_true, Bool.not_false, c_0, c_1, c_2, c_3, c_4, c_5, c_6, c_7, c_8, c_9, c_10, c_11, c_12, sz_0, sz_1, sz_2, sz_3, sz_4, sz_5, sz_6, sz_7, sz_8, sz_9, z2J, z2I, z2E, z2s, z2x, z2z, z2w, Bool.true_eq_false, eq_self, za, zb, z4, z7, z5, z3, zw, zy, zi, zr, zp, z8, zn, zj, ze, zg, zh, z6, zz, zu, zf, zq, zo, z9, zD, zE, zm, zt, zA, zc, zG, zB, zl, zv, zx, zd, z2j, z2a, zS, z1E, z1q, z25, z2C, z2u, z2G, zY, z26, z2d, zT, z1p, z1D, z24, z1o, zF, z1u, zQ, z1t, z1B, zC, zX, z10, z2e, z22, z1z, z1A, z1y, zV, z11, z1v, zJ, zW, zZ]
      exact ⟨v, trivial, rfl⟩
    · rintro pre c post sd S' e ⟨rfl, a, v, rfl⟩
      simp only [z1T, w_dC, z1L, z1i, z1W, z1Y, w_d2, z2o, w_d3, z2m, z1Z, z1e, z1J, z1g, z1U, z2p, z1G, z2n, z1V, z1f, z1M, z2q, z1I, z1m, z1R, z1K, z1N, z1c, zL, z1a, z1Q, z1S, zN, z1j, zP, zM, z19, z1h, z1l, z1d, zR, z16, z1O, z18, z1n, zK, z17, z15, zO, zI, z1k, z2r, z1X, z1b, zH, z1w, z2K, z1F, w_ok, z2v, z1x, z2l, z27, z1C, z2h, z23, z2O, z2N, z2g, z1s, zU, z12, z28, z2b, z2c, z20, z2k, z21, z2i, z2F, z2D, z2B, z2L, z2y, z2H, z2t, z2A, z29, z1P, z1H, z2f, z14, z1r, Int.reduceToNat, Int.reduceLE, Int.reduceLT, Int.reduceNeg, startD, List.map_cons, List.map_nil, List.length_cons, List.length_nil, List.replicate, List.cons_append, List.nil_append, List.getElem?_cons_zero, List.getElem?_cons_succ, List.set_cons_zero, List.set_cons_succ, Nat.reduceAdd, Nat.reduceSub, Nat.reduceEqDiff, if_true, if_false, Bool.false_eq_true, decide_true, decide_false, Int.reduceEq, Int.reduceAdd, Int.reduceSub, Int.reduceMul, Bool.not_true, Bool.not_false, c_0, c_1, c_2, c_3, c_4, c_5, c_6, c_7, c_8, c_9, c_10, c_11, c_12, sz_0, sz_1, sz_2, sz_3, sz_4, sz_5, sz_6, sz_7, sz_8, sz_9, z2J, z2I, z2E, z2s, z2x, z2z, z2w, Bool.true_eq_false, eq_self, za, zb, z4, z7, z5, z3, zw, zy, zi, zr, zp, z8, zn, zj, ze, zg, zh, z6, zz, zu, zf, zq, zo, z9, zD, zE, zm, zt, zA, zc, zG, zB, zl, zv, zx, zd, z2j, z2a, zS, z1E, z1q, z25, z2C, z2u, z2G, zY, z26, z2d, zT, z1p, z1D, z24, z1o, zF, z1u, zQ, z1t, z1B, zC, zX, z10, z2e, z22, z1z, z1A, z1y, zV, z11, z1v, zJ, zW, zZ, w_mulI (a := v) (b := 48271) (mul_r (mul_okI (by decide) (by decide))), w_modI (show (0 : Int) < 2147483647 by decide)]
      exact ⟨trivial, _, _, rfl⟩
  obtain ⟨d, S', e, mx, rfl, rfl⟩ := Wp.ok h
  refine ⟨_, ?_, ns, 0, mx, 0, rfl, by decide⟩
  unfold Fr__law_start cutF
  rw [e]
  have hb : D.blws S.length [.frl (ns.map .int), .int 0, .int mx, .int 0] = true := st_blw (o := .lst [.frl (ns.map .int), .int 0, .int mx, .int 0]) ⟨ns, 0, mx, 0, rfl, by decide⟩
  simp only [cutR]
  rw [if_pos (cutOk_app S _), if_neg (by simp [D.blw]), get_last]
  simp only
  rw [if_pos ⟨hb, Nat.le_refl _⟩, List.take_left]
theorem compG {l : Nat} (P : D → D → Prop) {vs : List Nat} {fi : Sl → Sto → Res ItD} {ga : D → Sl → Sto → Res Sl} {ft : Sl → Sto → Res Bool} {fe : Sl → Sto → Res D} {sd : Sl} {S : Sto} {Q : D → Sto → Prop} {X : Exc → Sto → Prop} (hlt : l < S.length)
    (hi : Wp (fi sd S) (fun it S1 => Dr l S S1 ∧ it.items.length ≤ sizeLine ∧ (∀ S', it.chk S' = true) ∧
      (∀ x ∈ it.items, ∀ S' T, Dr l S S' → Wp (ga x (wipeD sd vs) (S' ++ T)) (fun sd1 S2 => S2 = S' ++ T ∧ Wp (ft sd1 (S' ++ T)) (fun b S3 => b = true ∧ S3 = S' ++ T ∧ Wp (fe sd1 (S' ++ T)) (fun y S4 => ∃ S5, S4 = S5 ++ T ∧ Dr l S' S5 ∧ P x y) NX) NX) NX) ∧
      (∀ x ∈ it.items, ∀ y, P x y → y.blw S.length = true) ∧ ∀ ys S', Dr l S S' → All2 P it.items ys → Q (.frl ys) S') NX) : Wp (dFrz (dComp vs fi ga ft fe) sd S) Q X := by
  obtain ⟨it, S1, e1, d1, hl, hc, hx, hb, hq⟩ := ok_of_wp hi
  have key : ∀ (ys : List D) (acc : List D) (S2 : Sto), (∀ a ∈ ys, a ∈ it.items) → acc.length + ys.length ≤ sizeLine → Dr l S S2 → ∃ zs S3, compD it.chk ga ft fe S1.length (wipeD sd vs) ys (S2 ++ [.lst acc]) = .ok () (S3 ++ [.lst (acc ++ zs)]) ∧ Dr l S S3 ∧ All2 P ys zs := by
    intro ys
    induction ys with
    | nil =>
      intro acc S2 _ _ hd
      refine ⟨[], S2, ?_, hd, .nil⟩
      show (if it.chk (S2 ++ [.lst acc]) = true then Res.ok () (S2 ++ [.lst acc]) else .stuck) = _
      rw [if_pos (hc _)]
      simp
    | cons a ys ih =>
      intro acc S2 hm hlen hd
      have hlen' : acc.length + 1 + ys.length ≤ sizeLine := by simp at hlen; omega
      obtain ⟨sd1, S3, g1, rfl, h2⟩ := ok_of_wp (hx a (hm a (by simp)) S2 [.lst acc] hd)
      obtain ⟨b, S4, g2, rfl, rfl, h3⟩ := ok_of_wp h2
      obtain ⟨y, S5, g3, S6, rfl, d6, hy⟩ := ok_of_wp h3
      have hS : S6.length = S1.length := by rw [(hd.trans d6).len, d1.len]
      obtain ⟨zs, S7, g4, d7, f7⟩ := ih (acc ++ [y]) S6 (fun z hz => hm z (by simp [hz])) (by simp; omega) (hd.trans d6)
      refine ⟨y :: zs, S7, ?_, d7, .cons hy f7⟩
      unfold compD
      rw [if_pos (hc _), g1]
      simp only [Res.noExc, Res.bind, g2, if_true, g3]
      rw [← hS, get_last]
      simp only
      rw [if_pos (by omega), set_last, hS, g4]
      simp
  obtain ⟨zs, S3, g, d3, f3⟩ := key it.items [] S1 (fun _ h => h) (by simpa using hl) d1
  have hS : S3.length = S1.length := by rw [d3.len, d1.len]
  have e : dFrz (dComp vs fi ga ft fe) sd S = .ok (.frl zs) S3 := by
    unfold dFrz dComp
    rw [e1]
    show ((compD it.chk ga ft fe S1.length (wipeD sd vs) it.items (S1 ++ [.lst []])).bind fun _ S2 => Res.ok (D.ref S1.length) S2).bind _ = _
    rw [g]
    show frzD S (.ref S1.length) (S3 ++ [.lst ([] ++ zs)]) = _
    unfold frzD
    rw [← hS, List.nil_append]
    simp only [get_last]
    have hbz : D.blws S.length zs = true := by
      refine blws_all fun d hd => ?_
      obtain ⟨a, ha, hp⟩ := f3.mem d hd
      exact hb a ha d hp
    obtain ⟨o, rfl, hs, _⟩ := d3
    have hL : (S.set l o).length = S.length := by simp
    rw [hL]
    rw [if_pos ⟨Nat.le_refl _, cutOk_set S _ l o (st_blw hs), hbz⟩]
    congr 1
    rw [List.take_append_of_le_length (by simp)]
    exact List.take_of_length_le (by simp)
  rw [e]
  exact hq zs S3 d3 f3

def cb (b : Bool) : Nat := if b then 49 else 48
def wB (l : List Bool) : List Nat := l.map cb
theorem wB_len (l : List Bool) : (wB l).length = l.length := by simp [wB]
theorem cb_lt (b : Bool) : cb b < 1114112 := by cases b <;> decide
theorem wB_ok (l : List Bool) : Wok (wB l) := fun c hc => by
  obtain ⟨b, _, rfl⟩ := List.mem_map.mp hc
  exact cb_lt b
theorem cb_mem (b : Bool) : cb b ∈ [48, 49] := by cases b <;> decide
theorem cb_inj {a b : Bool} (h : cb a = cb b) : a = b := by cases a <;> cases b <;> first | rfl | cases h
theorem wB_inj {a b : List Bool} (h : wB a = wB b) : a = b := List.map_inj_right (fun _ _ => cb_inj) |>.mp h
theorem strsD_W : ∀ ws : List (List Nat), strsD (ws.map fun w => D.str (W w)) = some (ws.map W)
  | [] => rfl
  | w :: ws => by
    rw [List.map_cons]
    show (strsD _).map _ = _
    rw [strsD_W ws]; rfl
theorem join_W : ∀ ws : List (List Nat), Str.join (W []) (ws.map W) = W ws.flatten
  | [] => rfl
  | [w] => by simp [Str.join]
  | w :: v :: ws => by
    have ih := join_W (v :: ws)
    show W w ++ W [] ++ Str.join (W []) ((v :: ws).map W) = _
    rw [ih, W_app, W_app]; simp
theorem sum_W (ws : List (List Nat)) : ((ws.map W).map (·.length)).sum = ws.flatten.length := by
  induction ws with
  | nil => rfl
  | cons w ws ih => simp only [List.map_cons, List.sum_cons, List.flatten_cons, List.length_append, ih, W_len]
theorem join_ok {ws : List (List Nat)} {S : Sto} (h : ws.flatten.length ≤ 16777216) : joinD (.str (W [])) [.frl (ws.map fun w => .str (W w))] S = .ok (.str (W ws.flatten)) S := by
  simp only [joinD, seqD, strsD_W]
  have hz : ((ws.map W).map (·.length)).sum + (ws.map W).length * (W []).length ≤ 16777216 := by rw [sum_W, W_len]; simpa using h
  rw [if_pos hz]
  have hj : Txt.join (W []) (ws.map W) = Str.join (W []) (ws.map W) := StrLaws.glued_eq_join _ _
  rw [hj, join_W]
theorem flat_one (cs : List Nat) : (cs.map fun c => [c]).flatten = cs := by
  induction cs with
  | nil => rfl
  | cons c cs ih => simp [ih]
theorem join_signs {cs : List Nat} {S : Sto} (h : cs.length ≤ 16777216) : joinD (.str (W [])) [.frl (cs.map fun c => .str (W [c]))] S = .ok (.str (W cs)) S := by
  have e : (cs.map fun c => D.str (W [c])) = (cs.map fun c => [c]).map fun w => D.str (W w) := by simp
  rw [e, join_ok (by rw [flat_one]; exact h), flat_one]
theorem ix_W {l : List Nat} {i : Int} {S : Sto} {c : Nat} (hl : l.length ≤ sizeLine) (h : atI l i = some c) : ixD (.str (W l)) (.int i) S = .ok (.str (W [c])) S := by
  simp only [ixD]
  rw [if_pos (by rw [W_len]; exact hl), W_cps, h]
  rfl
theorem szn {n : Nat} (h : n ≤ 16777216) : n ≤ sizeLine := by rw [sizeLine_eq]; exact h
def isWord (w : List Nat) (many : Int) (signs : List Nat) : Bool := decide ((w.length : Int) = many) && w.all fun c => decide (c ∈ signs)
theorem is_word_ok {w signs : List Nat} {many : Int} {S : Sto} (hw : Wok w) (h : w.length ≤ 16777216) : F_is_word [.str (W w), .int many, .str (W signs)] S = .ok (.bl (isWord w many signs)) S := by
  unfold F_is_word
  refine fn_ok rfl ?_
  unfold b_is_word
  simp only [z1T, w_dC, z1L, z1i, z1W, z1Y, w_d2, z2o, w_d3, z2m, z1Z, z1e, z1J, z1g, z1U, z2p, z1G, z2n, z1V, z1f, z1M, z2q, z1I, z1m, z1R, z1K, z1N, z1c, zL, z1a, z1Q, z1S, zN, z1j, zP, zM, z19, z1h, z1l, z1d, zR, z16, z1O, z18, z1n, zK, z17, z15, zO, zI, z1k, z2r, z1X, z1b, zH, z1w, z2K, z1F, w_ok, z2v, z1x, z2l, z27, z1C, z2h, z23, z2O, z2N, z2g, z1s, zU, z12, z28, z2b, z2c, z20, z2k, z21, z2i, z2F, z2D, z2B, z2L, z2y, z2H, z2t, z2A, z29, z1P, z1H, z2f, z14, z1r, Int.reduceToNat, Int.reduceLE, Int.reduceLT, Int.reduceNeg, startD, List.map_cons, List.map_nil, List.length_cons, List.length_nil, List.replicate, List.cons_append, List.nil_append, List.getElem?_cons_zero, List.getElem?_cons_succ, List.set_cons_zero, List.set_cons_succ, Nat.reduceAdd, Nat.reduceSub, Nat.reduceEqDiff, if_true, if_false, Bool.false_eq_true, decide_true, decide_false, Int.reduceEq, Int.reduceAdd, Int.reduceSub, Int.reduceMul, Bool.not_true, Bool.not_false, c_0, c_1, c_2, c_3, c_4, c_5, c_6, c_7, c_8, c_9, c_10, c_11, c_12, sz_0, sz_1, sz_2, sz_3, sz_4, sz_5, sz_6, sz_7, sz_8, sz_9, z2J, z2I, z2E, z2s, z2x, z2z, z2w, Bool.true_eq_false, eq_self, za, zb, z4, z7, z5, z3, zw, zy, zi, zr, zp, z8, zn, zj, ze, zg, zh, z6, zz, zu, zf, zq, zo, z9, zD, zE, zm, zt, zA, zc, zG, zB, zl, zv, zx, zd, z2j, z2a, zS, z1E, z1q, z25, z2C, z2u, z2G, zY, z26, z2d, zT, z1p, z1D, z24, z1o, zF, z1u, zQ, z1t, z1B, zC, zX, z10, z2e, z22, z1z, z1A, z1y, zV, z11, z1v, zJ, zW, zZ, w_lenS (show (W w).length ≤ sizeLine by rw [W_len]; exact szn h), W_len]
  by_cases e : (w.length : Int) = many
  · simp only [e, z1T, w_dC, z1L, z1i, z1W, z1Y, w_d2, z2o, w_d3, z2m, z1Z, z1e, z1J, z1g, z1U, z2p, z1G, z2n, z1V, z1f, z1M, z2q, z1I, z1m, z1R, z1K, z1N, z1c, zL, z1a, z1Q, z1S, zN, z1j, zP, zM, z19, z1h, z1l, z1d, zR, z16, z1O, z18, z1n, zK, z17, z15, zO, zI, z1k, z2r, z1X, z1b, zH, z1w, z2K, z1F, w_ok, z2v, z1x, z2l, z27, z1C, z2h, z23, z2O, z2N, z2g, z1s, zU, z12, z28, z2b, z2c, z20, z2k, z21, z2i, z2F, z2D, z2B, z2L, z2y, z2H, z2t, z2A, z29, z1P, z1H, z2f, z14, z1r, Int.reduceToNat, Int.reduceLE, Int.reduceLT, Int.reduceNeg, startD, List.map_cons, List.map_nil, List.length_cons, List.length_nil, List.replicate, List.cons_append, List.nil_append, List.getElem?_cons_zero, List.getElem?_cons_succ, List.set_cons_zero, List.set_cons_succ, Nat.reduceAdd, Nat.reduceSub, Nat.reduceEqDiff, if_true, if_false, Bool.false_eq_true, decide_true, decide_false, Int.reduceEq, Int.reduceAdd, Int.reduceSub, Int.reduceMul, Bool.not_true, Bool.not_false, c_0, c_1, c_2, c_3, c_4, c_5, c_6, c_7, c_8, c_9, c_10, c_11, c_12, sz_0, sz_1, sz_2, sz_3, sz_4, sz_5, sz_6, sz_7, sz_8, sz_9, z2J, z2I, z2E, z2s, z2x, z2z, z2w, Bool.true_eq_false, eq_self, za, zb, z4, z7, z5, z3, zw, zy, zi, zr, zp, z8, zn, zj, ze, zg, zh, z6, zz, zu, zf, zq, zo, z9, zD, zE, zm, zt, zA, zc, zG, zB, zl, zv, zx, zd, z2j, z2a, zS, z1E, z1q, z25, z2C, z2u, z2G, zY, z26, z2d, zT, z1p, z1D, z24, z1o, zF, z1u, zQ, z1t, z1B, zC, zX, z10, z2e, z22, z1z, z1A, z1y, zV, z11, z1v, zJ, zW, zZ]
    have hc : dFrz (dComp [3] (iVal (dVar 0)) (gVar 3) (d2T notInD (dVar 3) (dVar 2)) (dVar 3)) [some (.str (W w)), some (.int many), some (.str (W signs)), none] S = .ok (.frl ((w.filter fun c => !decide (c ∈ signs)).map fun c => .str (W [c]))) S := by
      refine compF w (fun c => .str (W [c])) _ _ ?_ (Nat.le_trans (List.length_filter_le _ _) (szn h)) ?_ ?_
      · simp only [z1T, w_dC, z1L, z1i, z1W, z1Y, w_d2, z2o, w_d3, z2m, z1Z, z1e, z1J, z1g, z1U, z2p, z1G, z2n, z1V, z1f, z1M, z2q, z1I, z1m, z1R, z1K, z1N, z1c, zL, z1a, z1Q, z1S, zN, z1j, zP, zM, z19, z1h, z1l, z1d, zR, z16, z1O, z18, z1n, zK, z17, z15, zO, zI, z1k, z2r, z1X, z1b, zH, z1w, z2K, z1F, w_ok, z2v, z1x, z2l, z27, z1C, z2h, z23, z2O, z2N, z2g, z1s, zU, z12, z28, z2b, z2c, z20, z2k, z21, z2i, z2F, z2D, z2B, z2L, z2y, z2H, z2t, z2A, z29, z1P, z1H, z2f, z14, z1r, Int.reduceToNat, Int.reduceLE, Int.reduceLT, Int.reduceNeg, startD, List.map_cons, List.map_nil, List.length_cons, List.length_nil, List.replicate, List.cons_append, List.nil_append, List.getElem?_cons_zero, List.getElem?_cons_succ, List.set_cons_zero, List.set_cons_succ, Nat.reduceAdd, Nat.reduceSub, Nat.reduceEqDiff, if_true, if_false, Bool.false_eq_true, decide_true, decide_false, Int.reduceEq, Int.reduceAdd, Int.reduceSub, Int.reduceMul, Bool.not_true, Bool.not_false, c_0, c_1, c_2, c_3, c_4, c_5, c_6, c_7, c_8, c_9, c_10, c_11, c_12, sz_0, sz_1, sz_2, sz_3, sz_4, sz_5, sz_6, sz_7, sz_8, sz_9, z2J, z2I, z2E, z2s, z2x, z2z, z2w, Bool.true_eq_false, eq_self, za, zb, z4, z7, z5, z3, zw, zy, zi, zr, zp, z8, zn, zj, ze, zg, zh, z6, zz, zu, zf, zq, zo, z9, zD, zE, zm, zt, zA, zc, zG, zB, zl, zv, zx, zd, z2j, z2a, zS, z1E, z1q, z25, z2C, z2u, z2G, zY, z26, z2d, zT, z1p, z1D, z24, z1o, zF, z1u, zQ, z1t, z1B, zC, zX, z10, z2e, z22, z1z, z1A, z1y, zV, z11, z1v, zJ, zW, zZ, itemsD, signsD, W_cps]
        exact ⟨trivial, rfl, fun _ _ => rfl⟩
      · intro c _ S' _
        simp only [z1T, w_dC, z1L, z1i, z1W, z1Y, w_d2, z2o, w_d3, z2m, z1Z, z1e, z1J, z1g, z1U, z2p, z1G, z2n, z1V, z1f, z1M, z2q, z1I, z1m, z1R, z1K, z1N, z1c, zL, z1a, z1Q, z1S, zN, z1j, zP, zM, z19, z1h, z1l, z1d, zR, z16, z1O, z18, z1n, zK, z17, z15, zO, zI, z1k, z2r, z1X, z1b, zH, z1w, z2K, z1F, w_ok, z2v, z1x, z2l, z27, z1C, z2h, z23, z2O, z2N, z2g, z1s, zU, z12, z28, z2b, z2c, z20, z2k, z21, z2i, z2F, z2D, z2B, z2L, z2y, z2H, z2t, z2A, z29, z1P, z1H, z2f, z14, z1r, Int.reduceToNat, Int.reduceLE, Int.reduceLT, Int.reduceNeg, startD, List.map_cons, List.map_nil, List.length_cons, List.length_nil, List.replicate, List.cons_append, List.nil_append, List.getElem?_cons_zero, List.getElem?_cons_succ, List.set_cons_zero, List.set_cons_succ, Nat.reduceAdd, Nat.reduceSub, Nat.reduceEqDiff, if_true, if_false, Bool.false_eq_true, decide_true, decide_false, Int.reduceEq, Int.reduceAdd, Int.reduceSub, Int.reduceMul, Bool.not_true, Bool.not_false, c_0, c_1, c_2, c_3, c_4, c_5, c_6, c_7, c_8, c_9, c_10, c_11, c_12, sz_0, sz_1, sz_2, sz_3, sz_4, sz_5, sz_6, sz_7, sz_8, sz_9, z2J, z2I, z2E, z2s, z2x, z2z, z2w, Bool.true_eq_false, eq_self, za, zb, z4, z7, z5, z3, zw, zy, zi, zr, zp, z8, zn, zj, ze, zg, zh, z6, zz, zu, zf, zq, zo, z9, zD, zE, zm, zt, zA, zc, zG, zB, zl, zv, zx, zd, z2j, z2a, zS, z1E, z1q, z25, z2C, z2u, z2G, zY, z26, z2d, zT, z1p, z1D, z24, z1o, zF, z1u, zQ, z1t, z1B, zC, zX, z10, z2e, z22, z1z, z1A, z1y, zV, z11, z1v, zJ, zW, zZ, wipeD, notInD, has_sign]
        exact ⟨trivial, trivial, trivial, fun _ => ⟨trivial, trivial⟩⟩
      · intro c _ _; rfl
    simp only [hc, z1T, w_dC, z1L, z1i, z1W, z1Y, w_d2, z2o, w_d3, z2m, z1Z, z1e, z1J, z1g, z1U, z2p, z1G, z2n, z1V, z1f, z1M, z2q, z1I, z1m, z1R, z1K, z1N, z1c, zL, z1a, z1Q, z1S, zN, z1j, zP, zM, z19, z1h, z1l, z1d, zR, z16, z1O, z18, z1n, zK, z17, z15, zO, zI, z1k, z2r, z1X, z1b, zH, z1w, z2K, z1F, w_ok, z2v, z1x, z2l, z27, z1C, z2h, z23, z2O, z2N, z2g, z1s, zU, z12, z28, z2b, z2c, z20, z2k, z21, z2i, z2F, z2D, z2B, z2L, z2y, z2H, z2t, z2A, z29, z1P, z1H, z2f, z14, z1r, Int.reduceToNat, Int.reduceLE, Int.reduceLT, Int.reduceNeg, startD, List.map_cons, List.map_nil, List.length_cons, List.length_nil, List.replicate, List.cons_append, List.nil_append, List.getElem?_cons_zero, List.getElem?_cons_succ, List.set_cons_zero, List.set_cons_succ, Nat.reduceAdd, Nat.reduceSub, Nat.reduceEqDiff, if_true, if_false, Bool.false_eq_true, decide_true, decide_false, Int.reduceEq, Int.reduceAdd, Int.reduceSub, Int.reduceMul, Bool.not_true, Bool.not_false, c_0, c_1, c_2, c_3, c_4, c_5, c_6, c_7, c_8, c_9, c_10, c_11, c_12, sz_0, sz_1, sz_2, sz_3, sz_4, sz_5, sz_6, sz_7, sz_8, sz_9, z2J, z2I, z2E, z2s, z2x, z2z, z2w, Bool.true_eq_false, eq_self, za, zb, z4, z7, z5, z3, zw, zy, zi, zr, zp, z8, zn, zj, ze, zg, zh, z6, zz, zu, zf, zq, zo, z9, zD, zE, zm, zt, zA, zc, zG, zB, zl, zv, zx, zd, z2j, z2a, zS, z1E, z1q, z25, z2C, z2u, z2G, zY, z26, z2d, zT, z1p, z1D, z24, z1o, zF, z1u, zQ, z1t, z1B, zC, zX, z10, z2e, z22, z1z, z1A, z1y, zV, z11, z1v, zJ, zW, zZ]
    rw [w_eqNil (n := 0) fun c hc => gd_W fun x hx => by rw [List.mem_singleton] at hx; rw [hx]; exact hw c hc]
    simp only [z1T, w_dC, z1L, z1i, z1W, z1Y, w_d2, z2o, w_d3, z2m, z1Z, z1e, z1J, z1g, z1U, z2p, z1G, z2n, z1V, z1f, z1M, z2q, z1I, z1m, z1R, z1K, z1N, z1c, zL, z1a, z1Q, z1S, zN, z1j, zP, zM, z19, z1h, z1l, z1d, zR, z16, z1O, z18, z1n, zK, z17, z15, zO, zI, z1k, z2r, z1X, z1b, zH, z1w, z2K, z1F, w_ok, z2v, z1x, z2l, z27, z1C, z2h, z23, z2O, z2N, z2g, z1s, zU, z12, z28, z2b, z2c, z20, z2k, z21, z2i, z2F, z2D, z2B, z2L, z2y, z2H, z2t, z2A, z29, z1P, z1H, z2f, z14, z1r, Int.reduceToNat, Int.reduceLE, Int.reduceLT, Int.reduceNeg, startD, List.map_cons, List.map_nil, List.length_cons, List.length_nil, List.replicate, List.cons_append, List.nil_append, List.getElem?_cons_zero, List.getElem?_cons_succ, List.set_cons_zero, List.set_cons_succ, Nat.reduceAdd, Nat.reduceSub, Nat.reduceEqDiff, if_true, if_false, Bool.false_eq_true, decide_true, decide_false, Int.reduceEq, Int.reduceAdd, Int.reduceSub, Int.reduceMul, Bool.not_true, Bool.not_false, c_0, c_1, c_2, c_3, c_4, c_5, c_6, c_7, c_8, c_9, c_10, c_11, c_12, sz_0, sz_1, sz_2, sz_3, sz_4, sz_5, sz_6, sz_7, sz_8, sz_9, z2J, z2I, z2E, z2s, z2x, z2z, z2w, Bool.true_eq_false, eq_self, za, zb, z4, z7, z5, z3, zw, zy, zi, zr, zp, z8, zn, zj, ze, zg, zh, z6, zz, zu, zf, zq, zo, z9, zD, zE, zm, zt, zA, zc, zG, zB, zl, zv, zx, zd, z2j, z2a, zS, z1E, z1q, z25, z2C, z2u, z2G, zY, z26, z2d, zT, z1p, z1D, z24, z1o, zF, z1u, zQ, z1t, z1B, zC, zX, z10, z2e, z22, z1z, z1A, z1y, zV, z11, z1v, zJ, zW, zZ]
    refine ⟨?_, app_nil S⟩
    simp [isWord, e]
  · simp only [e, z1T, w_dC, z1L, z1i, z1W, z1Y, w_d2, z2o, w_d3, z2m, z1Z, z1e, z1J, z1g, z1U, z2p, z1G, z2n, z1V, z1f, z1M, z2q, z1I, z1m, z1R, z1K, z1N, z1c, zL, z1a, z1Q, z1S, zN, z1j, zP, zM, z19, z1h, z1l, z1d, zR, z16, z1O, z18, z1n, zK, z17, z15, zO, zI, z1k, z2r, z1X, z1b, zH, z1w, z2K, z1F, w_ok, z2v, z1x, z2l, z27, z1C, z2h, z23, z2O, z2N, z2g, z1s, zU, z12, z28, z2b, z2c, z20, z2k, z21, z2i, z2F, z2D, z2B, z2L, z2y, z2H, z2t, z2A, z29, z1P, z1H, z2f, z14, z1r, Int.reduceToNat, Int.reduceLE, Int.reduceLT, Int.reduceNeg, startD, List.map_cons, List.map_nil, List.length_cons, List.length_nil, List.replicate, List.cons_append, List.nil_append, List.getElem?_cons_zero, List.getElem?_cons_succ, List.set_cons_zero, List.set_cons_succ, Nat.reduceAdd, Nat.reduceSub, Nat.reduceEqDiff, if_true, if_false, Bool.false_eq_true, decide_true, decide_false, Int.reduceEq, Int.reduceAdd, Int.reduceSub, Int.reduceMul, Bool.not_true, Bool.not_false, c_0, c_1, c_2, c_3, c_4, c_5, c_6, c_7, c_8, c_9, c_10, c_11, c_12, sz_0, sz_1, sz_2, sz_3, sz_4, sz_5, sz_6, sz_7, sz_8, sz_9, z2J, z2I, z2E, z2s, z2x, z2z, z2w, Bool.true_eq_false, eq_self, za, zb, z4, z7, z5, z3, zw, zy, zi, zr, zp, z8, zn, zj, ze, zg, zh, z6, zz, zu, zf, zq, zo, z9, zD, zE, zm, zt, zA, zc, zG, zB, zl, zv, zx, zd, z2j, z2a, zS, z1E, z1q, z25, z2C, z2u, z2G, zY, z26, z2d, zT, z1p, z1D, z24, z1o, zF, z1u, zQ, z1t, z1B, zC, zX, z10, z2e, z22, z1z, z1A, z1y, zV, z11, z1v, zJ, zW, zZ]
    refine ⟨?_, app_nil S⟩
    simp [isWord, e]

def b01 : List Nat := [48, 49]
def allB : Nat → List (List Bool)
  | 0 => [[]]
  | n + 1 => (allB n).map (false :: ·) ++ (allB n).map (true :: ·)
theorem allB_len : ∀ (n : Nat) (b : List Bool), b ∈ allB n → b.length = n
  | 0, b, h => by simp [allB] at h; simp [h]
  | n + 1, b, h => by
    simp only [allB, List.mem_append, List.mem_map] at h
    rcases h with ⟨a, ha, rfl⟩ | ⟨a, ha, rfl⟩ <;> simp [allB_len n a ha]
theorem allB_many : ∀ n : Nat, (allB n).length = 2 ^ n
  | 0 => rfl
  | n + 1 => by simp only [allB, List.length_append, List.length_map, allB_many n]; omega
theorem allB_mem : ∀ b : List Bool, b ∈ allB b.length
  | [] => by simp [allB]
  | c :: b => by
    have := allB_mem b
    cases c <;> simp [allB, this]
def sW (b : List Bool) : D := .str (W (wB b))

theorem pow_le {ins : Nat} (h : ins ≤ 4) : 2 ^ ins ≤ 16 := by
  have : ins = 0 ∨ ins = 1 ∨ ins = 2 ∨ ins = 3 ∨ ins = 4 := by omega
  rcases this with rfl | rfl | rfl | rfl | rfl <;> decide
theorem get_mid {A T : Sto} {o : DO} {n : Nat} (h : A.length = n) : (A ++ o :: T)[n]? = some o := by
  subst h; simp
theorem set_mid {A T : Sto} {o o' : DO} {n : Nat} (h : A.length = n) : (A ++ o :: T).set n o' = A ++ o' :: T := by
  subst h
  rw [List.set_append_right _ _ (Nat.le_refl _)]
  simp
theorem isTy_lst {l : Nat} {xs : List D} {S : Sto} (h : S[l]? = some (.lst xs)) : isTy "list" (.ref l) S = true := by
  simp only [isTy, h]
  rfl
theorem w_tupF {xs : List D} {S : Sto} {Q : D → Sto → Prop} {X : Exc → Sto → Prop} : Wp (tupleD [.frl xs] S) Q X = Q (.tup xs) S := rfl
theorem w_min2 {a b : Int} {S : Sto} {Q : D → Sto → Prop} {X : Exc → Sto → Prop} : Wp (min2D [.int a, .int b] S) Q X = Q (.int (if b < a then b else a)) S := rfl

def allE : Nat → List (List Bool)
  | 0 => [[]]
  | n + 1 => (allE n).flatMap fun b => [b ++ [false], b ++ [true]]
theorem allE_eq {n : Nat} (h : n ≤ 4) : allE n = allB n := by
  have : n = 0 ∨ n = 1 ∨ n = 2 ∨ n = 3 ∨ n = 4 := by omega
  rcases this with rfl | rfl | rfl | rfl | rfl <;> decide
theorem allE_len : ∀ (n : Nat) (b : List Bool), b ∈ allE n → b.length = n
  | 0, b, h => by simp [allE] at h; simp [h]
  | n + 1, b, h => by
    simp only [allE, List.mem_flatMap, List.mem_cons, List.not_mem_nil, or_false] at h
    obtain ⟨a, ha, rfl | rfl⟩ := h <;> simp [allE_len n a ha]
theorem fl_len : ∀ pre : List (List Bool), (pre.flatMap fun b => [b ++ [false], b ++ [true]]).length = 2 * pre.length
  | [] => rfl
  | b :: pre => by
    have := fl_len pre
    rw [List.flatMap_cons, List.length_append, this, List.length_cons]
    simp
    omega
theorem w_extL {l k : Nat} {xs ys : List D} {S : Sto} {Q : D → Sto → Prop} {X : Exc → Sto → Prop} (hl : S[l]? = some (.lst xs)) (hk : S[k]? = some (.lst ys)) (hz : xs.length + ys.length ≤ sizeLine) : Wp (extendD (.ref l) [.ref k] S) Q X = Q .non (S.set l (.lst (xs ++ ys))) := by
  simp only [extendD, hl, hk]
  rw [if_pos hz]; rfl
theorem frz_at {l : Nat} {xs : List D} {S : Sto} (h : S[l]? = some (.lst xs)) : frzD S (.ref l) S = .ok (.frl xs) (S.set l .dead) := by
  have hl : l < S.length := (List.getElem?_eq_some_iff.mp h).1
  simp only [frzD, h]
  rw [if_neg (fun z => by have := z.1; omega)]
theorem sW_blw {k : Nat} {bs : List (List Bool)} : (D.frl (bs.map sW)).blw k = true := gd_blw (n := 1) _ (gd_frl (gd_map fun _ _ => gd_W (wB_ok _)))
theorem all_beats_ok {n : Nat} {S : Sto} (hn : n ≤ 4) : F_all_beats [.int ((n : Nat) : Int)] S = .ok (.frl ((allB n).map sW)) S := by
  rw [← allE_eq hn]
  unfold F_all_beats
  refine fn_ok sW_blw ?_
  unfold b_all_beats
  simp only [z1T, w_dC, z1L, z1i, z1W, z1Y, w_d2, z2o, w_d3, z2m, z1Z, z1e, z1J, z1g, z1U, z2p, z1G, z2n, z1V, z1f, z1M, z2q, z1I, z1m, z1R, z1K, z1N, z1c, zL, z1a, z1Q, z1S, zN, z1j, zP, zM, z19, z1h, z1l, z1d, zR, z16, z1O, z18, z1n, zK, z17, z15, zO, zI, z1k, z2r, z1X, z1b, zH, z1w, z2K, z1F, w_ok, z2v, z1x, z2l, z27, z1C, z2h, z23, z2O, z2N, z2g, z1s, zU, z12, z28, z2b, z2c, z20, z2k, z21, z2i, z2F, z2D, z2B, z2L, z2y, z2H, z2t, z2A, z29, z1P, z1H, z2f, z14, z1r, Int.reduceToNat, Int.reduceLE, Int.reduceLT, Int.reduceNeg, startD, List.map_cons, List.map_nil, List.length_cons, List.length_nil, List.replicate, List.cons_append, List.nil_append, List.getElem?_cons_zero, List.getElem?_cons_succ, List.set_cons_zero, List.set_cons_succ, Nat.reduceAdd, Nat.reduceSub, Nat.reduceEqDiff, if_true, if_false, Bool.false_eq_true, decide_true, decide_false, Int.reduceEq, Int.reduceAdd, Int.reduceSub, Int.reduceMul, Bool.not_true, Bool.not_false, c_0, c_1, c_2, c_3, c_4, c_5, c_6, c_7, c_8, c_9, c_10, c_11, c_12, sz_0, sz_1, sz_2, sz_3, sz_4, sz_5, sz_6, sz_7, sz_8, sz_9, z2J, z2I, z2E, z2s, z2x, z2z, z2w, Bool.true_eq_false, eq_self, za, zb, z4, z7, z5, z3, zw, zy, zi, zr, zp, z8, zn, zj, ze, zg, zh, z6, zz, zu, zf, zq, zo, z9, zD, zE, zm, zt, zA, zc, zG, zB, zl, zv, zx, zd, z2j, z2a, zS, z1E, z1q, z25, z2C, z2u, z2G, zY, z26, z2d, zT, z1p, z1D, z24, z1o, zF, z1u, zQ, z1t, z1B, zC, zX, z10, z2e, z22, z1z, z1A, z1y, zV, z11, z1v, zJ, zW, zZ]
  rw [w_ite (rng_ok (by omega))]
  simp only [z1T, w_dC, z1L, z1i, z1W, z1Y, w_d2, z2o, w_d3, z2m, z1Z, z1e, z1J, z1g, z1U, z2p, z1G, z2n, z1V, z1f, z1M, z2q, z1I, z1m, z1R, z1K, z1N, z1c, zL, z1a, z1Q, z1S, zN, z1j, zP, zM, z19, z1h, z1l, z1d, zR, z16, z1O, z18, z1n, zK, z17, z15, zO, zI, z1k, z2r, z1X, z1b, zH, z1w, z2K, z1F, w_ok, z2v, z1x, z2l, z27, z1C, z2h, z23, z2O, z2N, z2g, z1s, zU, z12, z28, z2b, z2c, z20, z2k, z21, z2i, z2F, z2D, z2B, z2L, z2y, z2H, z2t, z2A, z29, z1P, z1H, z2f, z14, z1r, Int.reduceToNat, Int.reduceLE, Int.reduceLT, Int.reduceNeg, startD, List.map_cons, List.map_nil, List.length_cons, List.length_nil, List.replicate, List.cons_append, List.nil_append, List.getElem?_cons_zero, List.getElem?_cons_succ, List.set_cons_zero, List.set_cons_succ, Nat.reduceAdd, Nat.reduceSub, Nat.reduceEqDiff, if_true, if_false, Bool.false_eq_true, decide_true, decide_false, Int.reduceEq, Int.reduceAdd, Int.reduceSub, Int.reduceMul, Bool.not_true, Bool.not_false, c_0, c_1, c_2, c_3, c_4, c_5, c_6, c_7, c_8, c_9, c_10, c_11, c_12, sz_0, sz_1, sz_2, sz_3, sz_4, sz_5, sz_6, sz_7, sz_8, sz_9, z2J, z2I, z2E, z2s, z2x, z2z, z2w, Bool.true_eq_false, eq_self, za, zb, z4, z7, z5, z3, zw, zy, zi, zr, zp, z8, zn, zj, ze, zg, zh, z6, zz, zu, zf, zq, zo, z9, zD, zE, zm, zt, zA, zc, zG, zB, zl, zv, zx, zd, z2j, z2a, zS, z1E, z1q, z25, z2C, z2u, z2G, zY, z26, z2d, zT, z1p, z1D, z24, z1o, zF, z1u, zQ, z1t, z1B, zC, zX, z10, z2e, z22, z1z, z1A, z1y, zV, z11, z1v, zJ, zW, zZ, Int.toNat_natCast]
  refine w_rangeP (fun i sd S' => ∃ (T : Sto) (a2 a3 a4 : Option D), S' = S ++ T ∧ sd = [some (.int ((n : Nat) : Int)), some (.frl ((allE i).map sW)), a2, a3, a4]) 0 n (fun _ _ _ _ _ => rfl) ⟨[], _, _, _, by simp, by simp only [allE, List.map_cons, List.map_nil, sW, W_empty]; rfl⟩ ?_ ?_
  · rintro sd S' ⟨T, a2, a3, a4, rfl, rfl⟩
    simp only [z1T, w_dC, z1L, z1i, z1W, z1Y, w_d2, z2o, w_d3, z2m, z1Z, z1e, z1J, z1g, z1U, z2p, z1G, z2n, z1V, z1f, z1M, z2q, z1I, z1m, z1R, z1K, z1N, z1c, zL, z1a, z1Q, z1S, zN, z1j, zP, zM, z19, z1h, z1l, z1d, zR, z16, z1O, z18, z1n, zK, z17, z15, zO, zI, z1k, z2r, z1X, z1b, zH, z1w, z2K, z1F, w_ok, z2v, z1x, z2l, z27, z1C, z2h, z23, z2O, z2N, z2g, z1s, zU, z12, z28, z2b, z2c, z20, z2k, z21, z2i, z2F, z2D, z2B, z2L, z2y, z2H, z2t, z2A, z29, z1P, z1H, z2f, z14, z1r, Int.reduceToNat, Int.reduceLE, Int.reduceLT, Int.reduceNeg, startD, List.map_cons, List.map_nil, List.length_cons, List.length_nil, List.replicate, List.cons_append, List.nil_append, List.getElem?_cons_zero, List.getElem?_cons_succ, List.set_cons_zero, List.set_cons_succ, Nat.reduceAdd, Nat.reduceSub, Nat.reduceEqDiff, if_true, if_false, Bool.false_eq_true, decide_true, decide_false, Int.reduceEq, Int.reduceAdd, Int.reduceSub, Int.reduceMul, Bool.not_true, Bool.not_false, c_0, c_1, c_2, c_3, c_4, c_5, c_6, c_7, c_8, c_9, c_10, c_11, c_12, sz_0, sz_1, sz_2, sz_3, sz_4, sz_5, sz_6, sz_7, sz_8, sz_9, z2J, z2I, z2E, z2s, z2x, z2z, z2w, Bool.true_eq_false, eq_self, za, zb, z4, z7, z5, z3, zw, zy, zi, zr, zp, z8, zn, zj, ze, zg, zh, z6, zz, zu, zf, zq, zo, z9, zD, zE, zm, zt, zA, zc, zG, zB, zl, zv, zx, zd, z2j, z2a, zS, z1E, z1q, z25, z2C, z2u, z2G, zY, z26, z2d, zT, z1p, z1D, z24, z1o, zF, z1u, zQ, z1t, z1B, zC, zX, z10, z2e, z22, z1z, z1A, z1y, zV, z11, z1v, zJ, zW, zZ]
    exact ⟨trivial, _, rfl⟩
  · rintro i sd S' hi ⟨T, a2, a3, a4, rfl, rfl⟩
    have p16 : ∀ k, k ≤ 4 → (allE k).length ≤ 16 := fun k hk => by
      rw [allE_eq hk, allB_many]; exact pow_le hk
    simp only [z1T, w_dC, z1L, z1i, z1W, z1Y, w_d2, z2o, w_d3, z2m, z1Z, z1e, z1J, z1g, z1U, z2p, z1G, z2n, z1V, z1f, z1M, z2q, z1I, z1m, z1R, z1K, z1N, z1c, zL, z1a, z1Q, z1S, zN, z1j, zP, zM, z19, z1h, z1l, z1d, zR, z16, z1O, z18, z1n, zK, z17, z15, zO, zI, z1k, z2r, z1X, z1b, zH, z1w, z2K, z1F, w_ok, z2v, z1x, z2l, z27, z1C, z2h, z23, z2O, z2N, z2g, z1s, zU, z12, z28, z2b, z2c, z20, z2k, z21, z2i, z2F, z2D, z2B, z2L, z2y, z2H, z2t, z2A, z29, z1P, z1H, z2f, z14, z1r, Int.reduceToNat, Int.reduceLE, Int.reduceLT, Int.reduceNeg, startD, List.map_cons, List.map_nil, List.length_cons, List.length_nil, List.replicate, List.cons_append, List.nil_append, List.getElem?_cons_zero, List.getElem?_cons_succ, List.set_cons_zero, List.set_cons_succ, Nat.reduceAdd, Nat.reduceSub, Nat.reduceEqDiff, if_true, if_false, Bool.false_eq_true, decide_true, decide_false, Int.reduceEq, Int.reduceAdd, Int.reduceSub, Int.reduceMul, Bool.not_true, Bool.not_false, c_0, c_1, c_2, c_3, c_4, c_5, c_6, c_7, c_8, c_9, c_10, c_11, c_12, sz_0, sz_1, sz_2, sz_3, sz_4, sz_5, sz_6, sz_7, sz_8, sz_9, z2J, z2I, z2E, z2s, z2x, z2z, z2w, Bool.true_eq_false, eq_self, za, zb, z4, z7, z5, z3, zw, zy, zi, zr, zp, z8, zn, zj, ze, zg, zh, z6, zz, zu, zf, zq, zo, z9, zD, zE, zm, zt, zA, zc, zG, zB, zl, zv, zx, zd, z2j, z2a, zS, z1E, z1q, z25, z2C, z2u, z2G, zY, z26, z2d, zT, z1p, z1D, z24, z1o, zF, z1u, zQ, z1t, z1B, zC, zX, z10, z2e, z22, z1z, z1A, z1y, zV, z11, z1v, zJ, zW, zZ, itemsD]
    have step : ∀ (pre : List (List Bool)) (x : List Bool), (pre ++ [x]).flatMap (fun b => [b ++ [false], b ++ [true]]) = pre.flatMap (fun b => [b ++ [false], b ++ [true]]) ++ [x ++ [false], x ++ [true]] := fun pre x => by simp
    refine w_loopP sW (fun pre sd S' => ∃ (U : Sto) (a4 : Option D), S' = (S ++ T) ++ .lst ((pre.flatMap fun b => [b ++ [false], b ++ [true]]).map sW) :: U ∧ sd = [some (.int ((n : Nat) : Int)), some (.frl ((allE i).map sW)), some (.int (0 + ((i : Nat) : Int))), some (.ref (S ++ T).length), a4]) (allE i) (fun _ _ _ _ _ _ => rfl) ⟨[], _, rfl, rfl⟩ ?_ ?_
    · rintro sd S' ⟨U, a4, rfl, rfl⟩
      simp only [z1T, w_dC, z1L, z1i, z1W, z1Y, w_d2, z2o, w_d3, z2m, z1Z, z1e, z1J, z1g, z1U, z2p, z1G, z2n, z1V, z1f, z1M, z2q, z1I, z1m, z1R, z1K, z1N, z1c, zL, z1a, z1Q, z1S, zN, z1j, zP, zM, z19, z1h, z1l, z1d, zR, z16, z1O, z18, z1n, zK, z17, z15, zO, zI, z1k, z2r, z1X, z1b, zH, z1w, z2K, z1F, w_ok, z2v, z1x, z2l, z27, z1C, z2h, z23, z2O, z2N, z2g, z1s, zU, z12, z28, z2b, z2c, z20, z2k, z21, z2i, z2F, z2D, z2B, z2L, z2y, z2H, z2t, z2A, z29, z1P, z1H, z2f, z14, z1r, Int.reduceToNat, Int.reduceLE, Int.reduceLT, Int.reduceNeg, startD, List.map_cons, List.map_nil, List.length_cons, List.length_nil, List.replicate, List.cons_append, List.nil_append, List.getElem?_cons_zero, List.getElem?_cons_succ, List.set_cons_zero, List.set_cons_succ, Nat.reduceAdd, Nat.reduceSub, Nat.reduceEqDiff, if_true, if_false, Bool.false_eq_true, decide_true, decide_false, Int.reduceEq, Int.reduceAdd, Int.reduceSub, Int.reduceMul, Bool.not_true, Bool.not_false, c_0, c_1, c_2, c_3, c_4, c_5, c_6, c_7, c_8, c_9, c_10, c_11, c_12, sz_0, sz_1, sz_2, sz_3, sz_4, sz_5, sz_6, sz_7, sz_8, sz_9, z2J, z2I, z2E, z2s, z2x, z2z, z2w, Bool.true_eq_false, eq_self, za, zb, z4, z7, z5, z3, zw, zy, zi, zr, zp, z8, zn, zj, ze, zg, zh, z6, zz, zu, zf, zq, zo, z9, zD, zE, zm, zt, zA, zc, zG, zB, zl, zv, zx, zd, z2j, z2a, zS, z1E, z1q, z25, z2C, z2u, z2G, zY, z26, z2d, zT, z1p, z1D, z24, z1o, zF, z1u, zQ, z1t, z1B, zC, zX, z10, z2e, z22, z1z, z1A, z1y, zV, z11, z1v, zJ, zW, zZ, w_dFrz]
      rw [frz_at (get_mid rfl)]
      exact ⟨T ++ .dead :: U, _, _, _, by rw [set_mid rfl, List.append_assoc], rfl⟩
    · rintro pre b post sd S' e ⟨U, a4, rfl, rfl⟩
      have hb : b ∈ allE i := by rw [e]; simp
      have hbl := allE_len i b hb
      have hpl : pre.length ≤ 16 := by
        have := p16 i (by omega)
        rw [e] at this
        simp at this
        omega
      have eW : ∀ (c : Bool), W (wB b ++ [cb c]) = W (wB (b ++ [c])) := fun c => by simp [wB]
      have get0 : ((S ++ T) ++ DO.lst ((pre.flatMap fun b => [b ++ [false], b ++ [true]]).map sW) :: U)[(S ++ T).length]? = some (.lst ((pre.flatMap fun b => [b ++ [false], b ++ [true]]).map sW)) := get_mid rfl
      simp only [z1T, w_dC, z1L, z1i, z1W, z1Y, w_d2, z2o, w_d3, z2m, z1Z, z1e, z1J, z1g, z1U, z2p, z1G, z2n, z1V, z1f, z1M, z2q, z1I, z1m, z1R, z1K, z1N, z1c, zL, z1a, z1Q, z1S, zN, z1j, zP, zM, z19, z1h, z1l, z1d, zR, z16, z1O, z18, z1n, zK, z17, z15, zO, zI, z1k, z2r, z1X, z1b, zH, z1w, z2K, z1F, w_ok, z2v, z1x, z2l, z27, z1C, z2h, z23, z2O, z2N, z2g, z1s, zU, z12, z28, z2b, z2c, z20, z2k, z21, z2i, z2F, z2D, z2B, z2L, z2y, z2H, z2t, z2A, z29, z1P, z1H, z2f, z14, z1r, Int.reduceToNat, Int.reduceLE, Int.reduceLT, Int.reduceNeg, startD, List.map_cons, List.map_nil, List.length_cons, List.length_nil, List.replicate, List.cons_append, List.nil_append, List.getElem?_cons_zero, List.getElem?_cons_succ, List.set_cons_zero, List.set_cons_succ, Nat.reduceAdd, Nat.reduceSub, Nat.reduceEqDiff, if_true, if_false, Bool.false_eq_true, decide_true, decide_false, Int.reduceEq, Int.reduceAdd, Int.reduceSub, Int.reduceMul, Bool.not_true, Bool.not_false, c_0, c_1, c_2, c_3, c_4, c_5, c_6, c_7, c_8, c_9, c_10, c_11, c_12, sz_0, sz_1, sz_2, sz_3, sz_4, sz_5, sz_6, sz_7, sz_8, sz_9, z2J, z2I, z2E, z2s, z2x, z2z, z2w, Bool.true_eq_false, eq_self, za, zb, z4, z7, z5, z3, zw, zy, zi, zr, zp, z8, zn, zj, ze, zg, zh, z6, zz, zu, zf, zq, zo, z9, zD, zE, zm, zt, zA, zc, zG, zB, zl, zv, zx, zd, z2j, z2a, zS, z1E, z1q, z25, z2C, z2u, z2G, zY, z26, z2d, zT, z1p, z1D, z24, z1o, zF, z1u, zQ, z1t, z1B, zC, zX, z10, z2e, z22, z1z, z1A, z1y, zV, z11, z1v, zJ, zW, zZ]
      rw [w_ite (isTy_lst get0)]
      simp only [z1T, w_dC, z1L, z1i, z1W, z1Y, w_d2, z2o, w_d3, z2m, z1Z, z1e, z1J, z1g, z1U, z2p, z1G, z2n, z1V, z1f, z1M, z2q, z1I, z1m, z1R, z1K, z1N, z1c, zL, z1a, z1Q, z1S, zN, z1j, zP, zM, z19, z1h, z1l, z1d, zR, z16, z1O, z18, z1n, zK, z17, z15, zO, zI, z1k, z2r, z1X, z1b, zH, z1w, z2K, z1F, w_ok, z2v, z1x, z2l, z27, z1C, z2h, z23, z2O, z2N, z2g, z1s, zU, z12, z28, z2b, z2c, z20, z2k, z21, z2i, z2F, z2D, z2B, z2L, z2y, z2H, z2t, z2A, z29, z1P, z1H, z2f, z14, z1r, Int.reduceToNat, Int.reduceLE, Int.reduceLT, Int.reduceNeg, startD, List.map_cons, List.map_nil, List.length_cons, List.length_nil, List.replicate, List.cons_append, List.nil_append, List.getElem?_cons_zero, List.getElem?_cons_succ, List.set_cons_zero, List.set_cons_succ, Nat.reduceAdd, Nat.reduceSub, Nat.reduceEqDiff, if_true, if_false, Bool.false_eq_true, decide_true, decide_false, Int.reduceEq, Int.reduceAdd, Int.reduceSub, Int.reduceMul, Bool.not_true, Bool.not_false, c_0, c_1, c_2, c_3, c_4, c_5, c_6, c_7, c_8, c_9, c_10, c_11, c_12, sz_0, sz_1, sz_2, sz_3, sz_4, sz_5, sz_6, sz_7, sz_8, sz_9, z2J, z2I, z2E, z2s, z2x, z2z, z2w, Bool.true_eq_false, eq_self, za, zb, z4, z7, z5, z3, zw, zy, zi, zr, zp, z8, zn, zj, ze, zg, zh, z6, zz, zu, zf, zq, zo, z9, zD, zE, zm, zt, zA, zc, zG, zB, zl, zv, zx, zd, z2j, z2a, zS, z1E, z1q, z25, z2C, z2u, z2G, zY, z26, z2d, zT, z1p, z1D, z24, z1o, zF, z1u, zQ, z1t, z1B, zC, zX, z10, z2e, z22, z1z, z1A, z1y, zV, z11, z1v, zJ, zW, zZ, sW, W_0, W_1]
      rw [w_addS (by rw [W_len, W_len, wB_len]; exact szn (by simp; omega)), W_app]
      simp only [z1T, w_dC, z1L, z1i, z1W, z1Y, w_d2, z2o, w_d3, z2m, z1Z, z1e, z1J, z1g, z1U, z2p, z1G, z2n, z1V, z1f, z1M, z2q, z1I, z1m, z1R, z1K, z1N, z1c, zL, z1a, z1Q, z1S, zN, z1j, zP, zM, z19, z1h, z1l, z1d, zR, z16, z1O, z18, z1n, zK, z17, z15, zO, zI, z1k, z2r, z1X, z1b, zH, z1w, z2K, z1F, w_ok, z2v, z1x, z2l, z27, z1C, z2h, z23, z2O, z2N, z2g, z1s, zU, z12, z28, z2b, z2c, z20, z2k, z21, z2i, z2F, z2D, z2B, z2L, z2y, z2H, z2t, z2A, z29, z1P, z1H, z2f, z14, z1r, Int.reduceToNat, Int.reduceLE, Int.reduceLT, Int.reduceNeg, startD, List.map_cons, List.map_nil, List.length_cons, List.length_nil, List.replicate, List.cons_append, List.nil_append, List.getElem?_cons_zero, List.getElem?_cons_succ, List.set_cons_zero, List.set_cons_succ, Nat.reduceAdd, Nat.reduceSub, Nat.reduceEqDiff, if_true, if_false, Bool.false_eq_true, decide_true, decide_false, Int.reduceEq, Int.reduceAdd, Int.reduceSub, Int.reduceMul, Bool.not_true, Bool.not_false, c_0, c_1, c_2, c_3, c_4, c_5, c_6, c_7, c_8, c_9, c_10, c_11, c_12, sz_0, sz_1, sz_2, sz_3, sz_4, sz_5, sz_6, sz_7, sz_8, sz_9, z2J, z2I, z2E, z2s, z2x, z2z, z2w, Bool.true_eq_false, eq_self, za, zb, z4, z7, z5, z3, zw, zy, zi, zr, zp, z8, zn, zj, ze, zg, zh, z6, zz, zu, zf, zq, zo, z9, zD, zE, zm, zt, zA, zc, zG, zB, zl, zv, zx, zd, z2j, z2a, zS, z1E, z1q, z25, z2C, z2u, z2G, zY, z26, z2d, zT, z1p, z1D, z24, z1o, zF, z1u, zQ, z1t, z1B, zC, zX, z10, z2e, z22, z1z, z1A, z1y, zV, z11, z1v, zJ, zW, zZ]
      rw [w_addS (by rw [W_len, W_len, wB_len]; exact szn (by simp; omega)), W_app]
      simp only [z1T, w_dC, z1L, z1i, z1W, z1Y, w_d2, z2o, w_d3, z2m, z1Z, z1e, z1J, z1g, z1U, z2p, z1G, z2n, z1V, z1f, z1M, z2q, z1I, z1m, z1R, z1K, z1N, z1c, zL, z1a, z1Q, z1S, zN, z1j, zP, zM, z19, z1h, z1l, z1d, zR, z16, z1O, z18, z1n, zK, z17, z15, zO, zI, z1k, z2r, z1X, z1b, zH, z1w, z2K, z1F, w_ok, z2v, z1x, z2l, z27, z1C, z2h, z23, z2O, z2N, z2g, z1s, zU, z12, z28, z2b, z2c, z20, z2k, z21, z2i, z2F, z2D, z2B, z2L, z2y, z2H, z2t, z2A, z29, z1P, z1H, z2f, z14, z1r, Int.reduceToNat, Int.reduceLE, Int.reduceLT, Int.reduceNeg, startD, List.map_cons, List.map_nil, List.length_cons, List.length_nil, List.replicate, List.cons_append, List.nil_append, List.getElem?_cons_zero, List.getElem?_cons_succ, List.set_cons_zero, List.set_cons_succ, Nat.reduceAdd, Nat.reduceSub, Nat.reduceEqDiff, if_true, if_false, Bool.false_eq_true, decide_true, decide_false, Int.reduceEq, Int.reduceAdd, Int.reduceSub, Int.reduceMul, Bool.not_true, Bool.not_false, c_0, c_1, c_2, c_3, c_4, c_5, c_6, c_7, c_8, c_9, c_10, c_11, c_12, sz_0, sz_1, sz_2, sz_3, sz_4, sz_5, sz_6, sz_7, sz_8, sz_9, z2J, z2I, z2E, z2s, z2x, z2z, z2w, Bool.true_eq_false, eq_self, za, zb, z4, z7, z5, z3, zw, zy, zi, zr, zp, z8, zn, zj, ze, zg, zh, z6, zz, zu, zf, zq, zo, z9, zD, zE, zm, zt, zA, zc, zG, zB, zl, zv, zx, zd, z2j, z2a, zS, z1E, z1q, z25, z2C, z2u, z2G, zY, z26, z2d, zT, z1p, z1D, z24, z1o, zF, z1u, zQ, z1t, z1B, zC, zX, z10, z2e, z22, z1z, z1A, z1y, zV, z11, z1v, zJ, zW, zZ]
      have e1 : ((S ++ T) ++ DO.lst ((pre.flatMap fun b => [b ++ [false], b ++ [true]]).map sW) :: U) ++ [DO.lst [.str (W (wB b ++ [48])), .str (W (wB b ++ [49]))]] = (S ++ T) ++ DO.lst ((pre.flatMap fun b => [b ++ [false], b ++ [true]]).map sW) :: (U ++ [DO.lst [.str (W (wB b ++ [48])), .str (W (wB b ++ [49]))]]) := by simp
      have hfl : ((pre.flatMap fun b => [b ++ [false], b ++ [true]]).map sW).length ≤ 100 := by
        rw [List.length_map, fl_len]
        omega
      have hl2 : (((S ++ T) ++ DO.lst ((pre.flatMap fun b => [b ++ [false], b ++ [true]]).map sW) :: U) ++ [DO.lst [.str (W (wB b ++ [48])), .str (W (wB b ++ [49]))]])[(S ++ T).length]? = some (.lst ((pre.flatMap fun b => [b ++ [false], b ++ [true]]).map sW)) := by rw [e1]; exact get_mid rfl
      rw [w_extL hl2 get_last (szn (by simp only [List.length_cons, List.length_nil]; omega)), e1, set_mid rfl]
      refine ⟨U ++ [DO.lst [.str (W (wB b ++ [48])), .str (W (wB b ++ [49]))]], some (D.str (W (wB b))), ?_, rfl⟩
      rw [step, List.map_append]
      have e2 : [D.str (W (wB b ++ [48])), D.str (W (wB b ++ [49]))] = [b ++ [false], b ++ [true]].map sW := by simp [sW, wB, cb]
      rw [e2]

theorem compR {α : Type} (xs : List α) (en : α → D) (P : α → Bool) (f : α → D) {vs : List Nat} {fi : Sl → Sto → Res ItD} {ga : D → Sl → Sto → Res Sl} {ft : Sl → Sto → Res Bool} {fe : Sl → Sto → Res D} {sd : Sl} {S : Sto}
    (hi : Wp (fi sd S) (fun it S1 => S1 = S ∧ it.items = xs.map en ∧ ∀ S', Grow S S' → it.chk S' = true) NX) (hl : (xs.filter P).length ≤ sizeLine)
    (hx : ∀ a ∈ xs, ∀ S', Grow S S' → Wp (ga (en a) (wipeD sd vs) S') (fun sd1 S1 => S1 = S' ∧ Wp (ft sd1 S') (fun b S2 => S2 = S' ∧ b = P a ∧ (P a = true → Wp (fe sd1 S') (fun y S3 => S3 = S' ∧ y = f a) NX)) NX) NX) : dComp vs fi ga ft fe sd S = .ok (.ref S.length) (S ++ [.lst ((xs.filter P).map f)]) := by
  obtain ⟨it, S1, e1, rfl, e2, e3⟩ := ok_of_wp hi
  have key : ∀ (ys : List α) (acc : List D), (∀ a ∈ ys, a ∈ xs) → acc.length + (ys.filter P).length ≤ sizeLine → compD it.chk ga ft fe S1.length (wipeD sd vs) (ys.map en) (S1 ++ [.lst acc]) = .ok () (S1 ++ [.lst (acc ++ (ys.filter P).map f)]) := by
    intro ys
    induction ys with
    | nil =>
      intro acc _ _
      show (if it.chk (S1 ++ [.lst acc]) = true then Res.ok () (S1 ++ [.lst acc]) else .stuck) = _
      rw [if_pos (e3 _ (Grow.one _ _))]
      simp
    | cons a ys ih =>
      intro acc hm hlen
      obtain ⟨sd1, S2, g1, rfl, h2⟩ := ok_of_wp (hx a (hm a (by simp)) (S1 ++ [.lst acc]) (Grow.one _ _))
      obtain ⟨b, S3, g2, rfl, rfl, h3⟩ := ok_of_wp h2
      rw [List.map_cons]
      unfold compD
      rw [if_pos (e3 _ (Grow.one _ _)), g1]
      simp only [Res.noExc, Res.bind, g2]
      cases hp : P a with
      | false =>
        rw [List.filter_cons_of_neg (by simp [hp])] at hlen ⊢
        rw [if_neg (by simp), ih acc (fun z hz => hm z (by simp [hz])) hlen]
      | true =>
        rw [List.filter_cons_of_pos hp] at hlen ⊢
        have hlen' : acc.length + 1 + (ys.filter P).length ≤ sizeLine := by simp at hlen; omega
        obtain ⟨y, S4, g3, rfl, rfl⟩ := ok_of_wp (h3 hp)
        rw [if_pos rfl, g3]
        simp only [Res.noExc, Res.bind]
        rw [List.getElem?_append_right (Nat.le_refl _)]
        simp only [Nat.sub_self, List.getElem?_cons_zero]
        rw [if_pos (by omega), set_last, ih (acc ++ [f a]) (fun z hz => hm z (by simp [hz])) (by simp; omega)]
        simp
  unfold dComp
  rw [e1]
  show ((compD it.chk ga ft fe S1.length (wipeD sd vs) it.items (S1 ++ [.lst []])).bind fun _ S2 => Res.ok (D.ref S1.length) S2) = _
  rw [e2, key xs [] (fun _ h => h) (by simpa using hl)]
  rfl

theorem compS {α : Type} (xs : List α) (en : α → D) (J : List α → List D → Sto → Prop) {vs : List Nat} {fi : Sl → Sto → Res ItD} {ga : D → Sl → Sto → Res Sl} {ft : Sl → Sto → Res Bool} {fe : Sl → Sto → Res D} {sd : Sl} {S : Sto} {Q : D → Sto → Prop} {X : Exc → Sto → Prop}
    (hi : Wp (fi sd S) (fun it S1 => it.items = xs.map en ∧ (∀ S', it.chk S' = true) ∧ J [] [] S1) NX) (hl : xs.length ≤ sizeLine) (hJ : ∀ pre ys S', J pre ys S' → S'.length = S.length)
    (hx : ∀ pre a post ys S' o, xs = pre ++ a :: post → J pre ys S' → Wp (ga (en a) (wipeD sd vs) (S' ++ [o])) (fun sd1 S2 => S2 = S' ++ [o] ∧ Wp (ft sd1 (S' ++ [o])) (fun b S3 => b = true ∧ S3 = S' ++ [o] ∧ Wp (fe sd1 (S' ++ [o])) (fun y S4 => ∃ S5, S4 = S5 ++ [o] ∧ J (pre ++ [a]) (ys ++ [y]) S5) NX) NX) NX)
    (hq : ∀ ys S', ys.length = xs.length → J xs ys S' → cutOk S S' = true ∧ D.blws S.length ys = true ∧ Q (.frl ys) S') : Wp (dFrz (dComp vs fi ga ft fe) sd S) Q X := by
  obtain ⟨it, S1, e1, e2, hc, j0⟩ := ok_of_wp hi
  have key : ∀ (post pre : List α) (acc : List D) (S2 : Sto), xs = pre ++ post → acc.length = pre.length → J pre acc S2 → ∃ zs S3, compD it.chk ga ft fe S1.length (wipeD sd vs) (post.map en) (S2 ++ [.lst acc]) = .ok () (S3 ++ [.lst zs]) ∧ zs.length = xs.length ∧ J xs zs S3 := by
    intro post
    induction post with
    | nil =>
      intro pre acc S2 e hlen hj
      rw [List.append_nil] at e
      subst e
      refine ⟨acc, S2, ?_, hlen, hj⟩
      show (if it.chk (S2 ++ [.lst acc]) = true then Res.ok () (S2 ++ [.lst acc]) else .stuck) = _
      rw [if_pos (hc _)]
    | cons a post ih =>
      intro pre acc S2 e hlen hj
      have hlt : acc.length < sizeLine := by
        have := congrArg List.length e
        simp at this
        omega
      obtain ⟨sd1, S3, g1, rfl, h2⟩ := ok_of_wp (hx pre a post acc S2 (.lst acc) e hj)
      obtain ⟨b, S4, g2, rfl, rfl, h3⟩ := ok_of_wp h2
      obtain ⟨y, S5, g3, S6, rfl, j6⟩ := ok_of_wp h3
      have hS : S6.length = S1.length := by rw [hJ _ _ _ j6, hJ _ _ _ j0]
      obtain ⟨zs, S7, g4, l7, j7⟩ := ih (pre ++ [a]) (acc ++ [y]) S6 (by rw [e]; simp) (by simp [hlen]) j6
      refine ⟨zs, S7, ?_, l7, j7⟩
      rw [List.map_cons]
      unfold compD
      rw [if_pos (hc _), g1]
      simp only [Res.noExc, Res.bind, g2, if_true, g3]
      rw [← hS, get_last]
      simp only
      rw [if_pos hlt, set_last, hS, g4]
  obtain ⟨zs, S3, g, l3, j3⟩ := key xs [] [] S1 rfl rfl j0
  obtain ⟨hcut, hb, hfin⟩ := hq zs S3 l3 j3
  have hS : S3.length = S1.length := by rw [hJ _ _ _ j3, hJ _ _ _ j0]
  have hS0 : S3.length = S.length := hJ _ _ _ j3
  have hcut' : cutOk S (S3 ++ [.lst zs]) = true := by
    unfold cutOk at hcut ⊢
    rw [Bool.and_eq_true] at hcut ⊢
    refine ⟨decide_eq_true (by simp; omega), List.all_eq_true.mpr fun i hi => ?_⟩
    have hi' := List.mem_range.mp hi
    rw [List.getElem?_append_left (by omega)]
    exact List.all_eq_true.mp hcut.2 i hi
  have e : dFrz (dComp vs fi ga ft fe) sd S = .ok (.frl zs) S3 := by
    unfold dFrz dComp
    rw [e1]
    show ((compD it.chk ga ft fe S1.length (wipeD sd vs) it.items (S1 ++ [.lst []])).bind fun _ S2 => Res.ok (D.ref S1.length) S2).bind _ = _
    rw [e2, g]
    show frzD S (.ref S1.length) (S3 ++ [.lst zs]) = _
    unfold frzD
    rw [← hS]
    simp only [get_last]
    rw [if_pos ⟨by omega, hcut', hb⟩, ← hS0]
    simp
  rw [e]
  exact hfin

abbrev Mk : Type := List (Option Bool)
def cM : Option Bool → Nat
  | none => 45
  | some b => cb b
def wM (m : Mk) : List Nat := m.map cM
def mW (m : Mk) : D := .str (W (wM m))
theorem wM_len (m : Mk) : (wM m).length = m.length := by simp [wM]
theorem cM_lt (o : Option Bool) : cM o < 1114112 := by cases o with
  | none => decide
  | some b => exact cb_lt b
theorem wM_ok (m : Mk) : Wok (wM m) := fun c hc => by
  obtain ⟨b, _, rfl⟩ := List.mem_map.mp hc
  exact cM_lt b
theorem cM_inj {a b : Option Bool} (h : cM a = cM b) : a = b := by
  cases a <;> cases b
  · rfl
  · rename_i b; cases b <;> cases h
  · rename_i b; cases b <;> cases h
  · exact congrArg some (cb_inj h)
theorem wM_inj {a b : Mk} (h : wM a = wM b) : a = b := List.map_inj_right (fun _ _ => cM_inj) |>.mp h
def fk (m : Mk) (b : List Bool) (k : Nat) : Bool := match m.getD k none with
  | none => true
  | some x => x == b.getD k false
def ft (m : Mk) (b : List Bool) : Bool := (List.range m.length).all (fk m b)
theorem ft_iff {m : Mk} {b : List Bool} : ft m b = true ↔ ∀ k, k < m.length → fk m b k = true := by
  unfold ft
  rw [List.all_eq_true]
  exact ⟨fun h k hk => h k (List.mem_range.mpr hk), fun h k hk => h k (List.mem_range.mp hk)⟩
theorem at_wM {m : Mk} {k : Nat} (h : k < m.length) : atI (wM m) ((k : Nat) : Int) = some (cM (m.getD k none)) := by
  rw [z14 (by omega)]
  simp [wM, h]
theorem at_wB {b : List Bool} {k : Nat} (h : k < b.length) : atI (wB b) ((k : Nat) : Int) = some (cb (b.getD k false)) := by
  rw [z14 (by omega)]
  simp [wB, h]
theorem fk_dec {m : Mk} {b : List Bool} {k : Nat} : decide ([cM (m.getD k none)] = [45] ∨ [cM (m.getD k none)] = [cb (b.getD k false)]) = fk m b k := by
  unfold fk
  cases m.getD k none with
  | none => rfl
  | some x => cases x <;> cases b.getD k false <;> rfl
theorem fits_ok {m : Mk} {b : List Bool} {S : Sto} (hl : m.length ≤ b.length) (hb : b.length ≤ 100) : F_fits [.str (W (wM m)), .str (W (wB b))] S = .ok (.bl (ft m b)) S := by
  unfold F_fits
  refine fn_ok rfl ?_
  unfold b_fits
  have hc : dFrz (dComp [2] (iRngD1 (dCall lenD (dCons (dVar 0) dNil))) (gVar 2) (d2T notInD (d2 ixD (dVar 0) (dVar 2)) (dTup (dCons (dC (.str "-")) (dCons (d2 ixD (dVar 1) (dVar 2)) dNil)))) (dVar 2)) [some (.str (W (wM m))), some (.str (W (wB b))), none] S = .ok (.frl (((List.range m.length).filter fun k => !fk m b k).map fun k => .int ((k : Nat) : Int))) S := by
    refine compF (List.range m.length) (fun k => .int ((k : Nat) : Int)) _ _ ?_ (Nat.le_trans (List.length_filter_le _ _) (szn (by simp; omega))) ?_ ?_
    · simp only [z1T, w_dC, z1L, z1i, z1W, z1Y, w_d2, z2o, w_d3, z2m, z1Z, z1e, z1J, z1g, z1U, z2p, z1G, z2n, z1V, z1f, z1M, z2q, z1I, z1m, z1R, z1K, z1N, z1c, zL, z1a, z1Q, z1S, zN, z1j, zP, zM, z19, z1h, z1l, z1d, zR, z16, z1O, z18, z1n, zK, z17, z15, zO, zI, z1k, z2r, z1X, z1b, zH, z1w, z2K, z1F, w_ok, z2v, z1x, z2l, z27, z1C, z2h, z23, z2O, z2N, z2g, z1s, zU, z12, z28, z2b, z2c, z20, z2k, z21, z2i, z2F, z2D, z2B, z2L, z2y, z2H, z2t, z2A, z29, z1P, z1H, z2f, z14, z1r, Int.reduceToNat, Int.reduceLE, Int.reduceLT, Int.reduceNeg, startD, List.map_cons, List.map_nil, List.length_cons, List.length_nil, List.replicate, List.cons_append, List.nil_append, List.getElem?_cons_zero, List.getElem?_cons_succ, List.set_cons_zero, List.set_cons_succ, Nat.reduceAdd, Nat.reduceSub, Nat.reduceEqDiff, if_true, if_false, Bool.false_eq_true, decide_true, decide_false, Int.reduceEq, Int.reduceAdd, Int.reduceSub, Int.reduceMul, Bool.not_true, Bool.not_false, c_0, c_1, c_2, c_3, c_4, c_5, c_6, c_7, c_8, c_9, c_10, c_11, c_12, sz_0, sz_1, sz_2, sz_3, sz_4, sz_5, sz_6, sz_7, sz_8, sz_9, z2J, z2I, z2E, z2s, z2x, z2z, z2w, Bool.true_eq_false, eq_self, za, zb, z4, z7, z5, z3, zw, zy, zi, zr, zp, z8, zn, zj, ze, zg, zh, z6, zz, zu, zf, zq, zo, z9, zD, zE, zm, zt, zA, zc, zG, zB, zl, zv, zx, zd, z2j, z2a, zS, z1E, z1q, z25, z2C, z2u, z2G, zY, z26, z2d, zT, z1p, z1D, z24, z1o, zF, z1u, zQ, z1t, z1B, zC, zX, z10, z2e, z22, z1z, z1A, z1y, zV, z11, z1v, zJ, zW, zZ, w_lenS (show (W (wM m)).length ≤ sizeLine by rw [W_len, wM_len]; exact szn (by omega)), W_len, wM_len]
      rw [w_ite (rng_ok (by omega))]
      simp only [z1T, w_dC, z1L, z1i, z1W, z1Y, w_d2, z2o, w_d3, z2m, z1Z, z1e, z1J, z1g, z1U, z2p, z1G, z2n, z1V, z1f, z1M, z2q, z1I, z1m, z1R, z1K, z1N, z1c, zL, z1a, z1Q, z1S, zN, z1j, zP, zM, z19, z1h, z1l, z1d, zR, z16, z1O, z18, z1n, zK, z17, z15, zO, zI, z1k, z2r, z1X, z1b, zH, z1w, z2K, z1F, w_ok, z2v, z1x, z2l, z27, z1C, z2h, z23, z2O, z2N, z2g, z1s, zU, z12, z28, z2b, z2c, z20, z2k, z21, z2i, z2F, z2D, z2B, z2L, z2y, z2H, z2t, z2A, z29, z1P, z1H, z2f, z14, z1r, Int.reduceToNat, Int.reduceLE, Int.reduceLT, Int.reduceNeg, startD, List.map_cons, List.map_nil, List.length_cons, List.length_nil, List.replicate, List.cons_append, List.nil_append, List.getElem?_cons_zero, List.getElem?_cons_succ, List.set_cons_zero, List.set_cons_succ, Nat.reduceAdd, Nat.reduceSub, Nat.reduceEqDiff, if_true, if_false, Bool.false_eq_true, decide_true, decide_false, Int.reduceEq, Int.reduceAdd, Int.reduceSub, Int.reduceMul, Bool.not_true, Bool.not_false, c_0, c_1, c_2, c_3, c_4, c_5, c_6, c_7, c_8, c_9, c_10, c_11, c_12, sz_0, sz_1, sz_2, sz_3, sz_4, sz_5, sz_6, sz_7, sz_8, sz_9, z2J, z2I, z2E, z2s, z2x, z2z, z2w, Bool.true_eq_false, eq_self, za, zb, z4, z7, z5, z3, zw, zy, zi, zr, zp, z8, zn, zj, ze, zg, zh, z6, zz, zu, zf, zq, zo, z9, zD, zE, zm, zt, zA, zc, zG, zB, zl, zv, zx, zd, z2j, z2a, zS, z1E, z1q, z25, z2C, z2u, z2G, zY, z26, z2d, zT, z1p, z1D, z24, z1o, zF, z1u, zQ, z1t, z1B, zC, zX, z10, z2e, z22, z1z, z1A, z1y, zV, z11, z1v, zJ, zW, zZ]
      exact ⟨trivial, by simp [rangeL], fun _ _ => rfl⟩
    · intro k hk S' _
      have hk := List.mem_range.mp hk
      simp only [z1T, w_dC, z1L, z1i, z1W, z1Y, w_d2, z2o, w_d3, z2m, z1Z, z1e, z1J, z1g, z1U, z2p, z1G, z2n, z1V, z1f, z1M, z2q, z1I, z1m, z1R, z1K, z1N, z1c, zL, z1a, z1Q, z1S, zN, z1j, zP, zM, z19, z1h, z1l, z1d, zR, z16, z1O, z18, z1n, zK, z17, z15, zO, zI, z1k, z2r, z1X, z1b, zH, z1w, z2K, z1F, w_ok, z2v, z1x, z2l, z27, z1C, z2h, z23, z2O, z2N, z2g, z1s, zU, z12, z28, z2b, z2c, z20, z2k, z21, z2i, z2F, z2D, z2B, z2L, z2y, z2H, z2t, z2A, z29, z1P, z1H, z2f, z14, z1r, Int.reduceToNat, Int.reduceLE, Int.reduceLT, Int.reduceNeg, startD, List.map_cons, List.map_nil, List.length_cons, List.length_nil, List.replicate, List.cons_append, List.nil_append, List.getElem?_cons_zero, List.getElem?_cons_succ, List.set_cons_zero, List.set_cons_succ, Nat.reduceAdd, Nat.reduceSub, Nat.reduceEqDiff, if_true, if_false, Bool.false_eq_true, decide_true, decide_false, Int.reduceEq, Int.reduceAdd, Int.reduceSub, Int.reduceMul, Bool.not_true, Bool.not_false, c_0, c_1, c_2, c_3, c_4, c_5, c_6, c_7, c_8, c_9, c_10, c_11, c_12, sz_0, sz_1, sz_2, sz_3, sz_4, sz_5, sz_6, sz_7, sz_8, sz_9, z2J, z2I, z2E, z2s, z2x, z2z, z2w, Bool.true_eq_false, eq_self, za, zb, z4, z7, z5, z3, zw, zy, zi, zr, zp, z8, zn, zj, ze, zg, zh, z6, zz, zu, zf, zq, zo, z9, zD, zE, zm, zt, zA, zc, zG, zB, zl, zv, zx, zd, z2j, z2a, zS, z1E, z1q, z25, z2C, z2u, z2G, zY, z26, z2d, zT, z1p, z1D, z24, z1o, zF, z1u, zQ, z1t, z1B, zC, zX, z10, z2e, z22, z1z, z1A, z1y, zV, z11, z1v, zJ, zW, zZ, wipeD, ix_W (show (wM m).length ≤ sizeLine by rw [wM_len]; exact szn (by omega)) (at_wM hk), ix_W (show (wB b).length ≤ sizeLine by rw [wB_len]; exact szn (by omega)) (at_wB (show k < b.length by omega)), W_dash, notInD, has_two, fk_dec]
      exact ⟨trivial, trivial, trivial, fun _ => ⟨trivial, trivial⟩⟩
    · intro c _ _; rfl
  simp only [z1T, w_dC, z1L, z1i, z1W, z1Y, w_d2, z2o, w_d3, z2m, z1Z, z1e, z1J, z1g, z1U, z2p, z1G, z2n, z1V, z1f, z1M, z2q, z1I, z1m, z1R, z1K, z1N, z1c, zL, z1a, z1Q, z1S, zN, z1j, zP, zM, z19, z1h, z1l, z1d, zR, z16, z1O, z18, z1n, zK, z17, z15, zO, zI, z1k, z2r, z1X, z1b, zH, z1w, z2K, z1F, w_ok, z2v, z1x, z2l, z27, z1C, z2h, z23, z2O, z2N, z2g, z1s, zU, z12, z28, z2b, z2c, z20, z2k, z21, z2i, z2F, z2D, z2B, z2L, z2y, z2H, z2t, z2A, z29, z1P, z1H, z2f, z14, z1r, Int.reduceToNat, Int.reduceLE, Int.reduceLT, Int.reduceNeg, startD, List.map_cons, List.map_nil, List.length_cons, List.length_nil, List.replicate, List.cons_append, List.nil_append, List.getElem?_cons_zero, List.getElem?_cons_succ, List.set_cons_zero, List.set_cons_succ, Nat.reduceAdd, Nat.reduceSub, Nat.reduceEqDiff, if_true, if_false, Bool.false_eq_true, decide_true, decide_false, Int.reduceEq, Int.reduceAdd, Int.reduceSub, Int.reduceMul, Bool.not_true, Bool.not_false, c_0, c_1, c_2, c_3, c_4, c_5, c_6, c_7, c_8, c_9, c_10, c_11, c_12, sz_0, sz_1, sz_2, sz_3, sz_4, sz_5, sz_6, sz_7, sz_8, sz_9, z2J, z2I, z2E, z2s, z2x, z2z, z2w, Bool.true_eq_false, eq_self, za, zb, z4, z7, z5, z3, zw, zy, zi, zr, zp, z8, zn, zj, ze, zg, zh, z6, zz, zu, zf, zq, zo, z9, zD, zE, zm, zt, zA, zc, zG, zB, zl, zv, zx, zd, z2j, z2a, zS, z1E, z1q, z25, z2C, z2u, z2G, zY, z26, z2d, zT, z1p, z1D, z24, z1o, zF, z1u, zQ, z1t, z1B, zC, zX, z10, z2e, z22, z1z, z1A, z1y, zV, z11, z1v, zJ, zW, zZ, hc]
  rw [w_eqNil (n := 0) fun c hc => gd_int]
  refine ⟨?_, app_nil S⟩
  simp [ft]
theorem lets_ok {m : Mk} {b : List Bool} {S : Sto} (hl : m.length ≤ b.length) (hb : b.length ≤ 100) : F__law_lets [.str (W (wM m)), .str (W (wB b))] S = .ok (.bl (ft m b)) S := by
  unfold F__law_lets
  refine fn_ok rfl ?_
  unfold b__law_lets
  simp only [z1T, w_dC, z1L, z1i, z1W, z1Y, w_d2, z2o, w_d3, z2m, z1Z, z1e, z1J, z1g, z1U, z2p, z1G, z2n, z1V, z1f, z1M, z2q, z1I, z1m, z1R, z1K, z1N, z1c, zL, z1a, z1Q, z1S, zN, z1j, zP, zM, z19, z1h, z1l, z1d, zR, z16, z1O, z18, z1n, zK, z17, z15, zO, zI, z1k, z2r, z1X, z1b, zH, z1w, z2K, z1F, w_ok, z2v, z1x, z2l, z27, z1C, z2h, z23, z2O, z2N, z2g, z1s, zU, z12, z28, z2b, z2c, z20, z2k, z21, z2i, z2F, z2D, z2B, z2L, z2y, z2H, z2t, z2A, z29, z1P, z1H, z2f, z14, z1r, Int.reduceToNat, Int.reduceLE, Int.reduceLT, Int.reduceNeg, startD, List.map_cons, List.map_nil, List.length_cons, List.length_nil, List.replicate, List.cons_append, List.nil_append, List.getElem?_cons_zero, List.getElem?_cons_succ, List.set_cons_zero, List.set_cons_succ, Nat.reduceAdd, Nat.reduceSub, Nat.reduceEqDiff, if_true, if_false, Bool.false_eq_true, decide_true, decide_false, Int.reduceEq, Int.reduceAdd, Int.reduceSub, Int.reduceMul, Bool.not_true, Bool.not_false, c_0, c_1, c_2, c_3, c_4, c_5, c_6, c_7, c_8, c_9, c_10, c_11, c_12, sz_0, sz_1, sz_2, sz_3, sz_4, sz_5, sz_6, sz_7, sz_8, sz_9, z2J, z2I, z2E, z2s, z2x, z2z, z2w, Bool.true_eq_false, eq_self, za, zb, z4, z7, z5, z3, zw, zy, zi, zr, zp, z8, zn, zj, ze, zg, zh, z6, zz, zu, zf, zq, zo, z9, zD, zE, zm, zt, zA, zc, zG, zB, zl, zv, zx, zd, z2j, z2a, zS, z1E, z1q, z25, z2C, z2u, z2G, zY, z26, z2d, zT, z1p, z1D, z24, z1o, zF, z1u, zQ, z1t, z1B, zC, zX, z10, z2e, z22, z1z, z1A, z1y, zV, z11, z1v, zJ, zW, zZ, w_lenS (show (W (wM m)).length ≤ sizeLine by rw [W_len, wM_len]; exact szn (by omega)), W_len, wM_len]
  rw [w_ite (rng_ok (by omega))]
  simp only [z1T, w_dC, z1L, z1i, z1W, z1Y, w_d2, z2o, w_d3, z2m, z1Z, z1e, z1J, z1g, z1U, z2p, z1G, z2n, z1V, z1f, z1M, z2q, z1I, z1m, z1R, z1K, z1N, z1c, zL, z1a, z1Q, z1S, zN, z1j, zP, zM, z19, z1h, z1l, z1d, zR, z16, z1O, z18, z1n, zK, z17, z15, zO, zI, z1k, z2r, z1X, z1b, zH, z1w, z2K, z1F, w_ok, z2v, z1x, z2l, z27, z1C, z2h, z23, z2O, z2N, z2g, z1s, zU, z12, z28, z2b, z2c, z20, z2k, z21, z2i, z2F, z2D, z2B, z2L, z2y, z2H, z2t, z2A, z29, z1P, z1H, z2f, z14, z1r, Int.reduceToNat, Int.reduceLE, Int.reduceLT, Int.reduceNeg, startD, List.map_cons, List.map_nil, List.length_cons, List.length_nil, List.replicate, List.cons_append, List.nil_append, List.getElem?_cons_zero, List.getElem?_cons_succ, List.set_cons_zero, List.set_cons_succ, Nat.reduceAdd, Nat.reduceSub, Nat.reduceEqDiff, if_true, if_false, Bool.false_eq_true, decide_true, decide_false, Int.reduceEq, Int.reduceAdd, Int.reduceSub, Int.reduceMul, Bool.not_true, Bool.not_false, c_0, c_1, c_2, c_3, c_4, c_5, c_6, c_7, c_8, c_9, c_10, c_11, c_12, sz_0, sz_1, sz_2, sz_3, sz_4, sz_5, sz_6, sz_7, sz_8, sz_9, z2J, z2I, z2E, z2s, z2x, z2z, z2w, Bool.true_eq_false, eq_self, za, zb, z4, z7, z5, z3, zw, zy, zi, zr, zp, z8, zn, zj, ze, zg, zh, z6, zz, zu, zf, zq, zo, z9, zD, zE, zm, zt, zA, zc, zG, zB, zl, zv, zx, zd, z2j, z2a, zS, z1E, z1q, z25, z2C, z2u, z2G, zY, z26, z2d, zT, z1p, z1D, z24, z1o, zF, z1u, zQ, z1t, z1B, zC, zX, z10, z2e, z22, z1z, z1A, z1y, zV, z11, z1v, zJ, zW, zZ, Int.toNat_natCast]
  refine w_rangeP (fun i sd S' => S' = S ∧ (∀ k, k < i → fk m b k = true) ∧ ∃ a2, sd = [some (.str (W (wM m))), some (.str (W (wB b))), a2]) 0 m.length (fun _ _ _ _ _ => rfl) ⟨rfl, fun k hk => by omega, _, rfl⟩ ?_ ?_
  · rintro sd S' ⟨rfl, hk, a2, rfl⟩
    simp only [z1T, w_dC, z1L, z1i, z1W, z1Y, w_d2, z2o, w_d3, z2m, z1Z, z1e, z1J, z1g, z1U, z2p, z1G, z2n, z1V, z1f, z1M, z2q, z1I, z1m, z1R, z1K, z1N, z1c, zL, z1a, z1Q, z1S, zN, z1j, zP, zM, z19, z1h, z1l, z1d, zR, z16, z1O, z18, z1n, zK, z17, z15, zO, zI, z1k, z2r, z1X, z1b, zH, z1w, z2K, z1F, w_ok, z2v, z1x, z2l, z27, z1C, z2h, z23, z2O, z2N, z2g, z1s, zU, z12, z28, z2b, z2c, z20, z2k, z21, z2i, z2F, z2D, z2B, z2L, z2y, z2H, z2t, z2A, z29, z1P, z1H, z2f, z14, z1r, Int.reduceToNat, Int.reduceLE, Int.reduceLT, Int.reduceNeg, startD, List.map_cons, List.map_nil, List.length_cons, List.length_nil, List.replicate, List.cons_append, List.nil_append, List.getElem?_cons_zero, List.getElem?_cons_succ, List.set_cons_zero, List.set_cons_succ, Nat.reduceAdd, Nat.reduceSub, Nat.reduceEqDiff, if_true, if_false, Bool.false_eq_true, decide_true, decide_false, Int.reduceEq, Int.reduceAdd, Int.reduceSub, Int.reduceMul, Bool.not_true, Bool.not_false, c_0, c_1, c_2, c_3, c_4, c_5, c_6, c_7, c_8, c_9, c_10, c_11, c_12, sz_0, sz_1, sz_2, sz_3, sz_4, sz_5, sz_6, sz_7, sz_8, sz_9, z2J, z2I, z2E, z2s, z2x, z2z, z2w, Bool.true_eq_false, eq_self, za, zb, z4, z7, z5, z3, zw, zy, zi, zr, zp, z8, zn, zj, ze, zg, zh, z6, zz, zu, zf, zq, zo, z9, zD, zE, zm, zt, zA, zc, zG, zB, zl, zv, zx, zd, z2j, z2a, zS, z1E, z1q, z25, z2C, z2u, z2G, zY, z26, z2d, zT, z1p, z1D, z24, z1o, zF, z1u, zQ, z1t, z1B, zC, zX, z10, z2e, z22, z1z, z1A, z1y, zV, z11, z1v, zJ, zW, zZ]
    exact ⟨by rw [ft_iff.mpr hk], app_nil _⟩
  · rintro i sd S' hi ⟨rfl, hk, a2, rfl⟩
    have e1 : (0 : Int) + ((i : Nat) : Int) = ((i : Nat) : Int) := by omega
    simp only [z1T, w_dC, z1L, z1i, z1W, z1Y, w_d2, z2o, w_d3, z2m, z1Z, z1e, z1J, z1g, z1U, z2p, z1G, z2n, z1V, z1f, z1M, z2q, z1I, z1m, z1R, z1K, z1N, z1c, zL, z1a, z1Q, z1S, zN, z1j, zP, zM, z19, z1h, z1l, z1d, zR, z16, z1O, z18, z1n, zK, z17, z15, zO, zI, z1k, z2r, z1X, z1b, zH, z1w, z2K, z1F, w_ok, z2v, z1x, z2l, z27, z1C, z2h, z23, z2O, z2N, z2g, z1s, zU, z12, z28, z2b, z2c, z20, z2k, z21, z2i, z2F, z2D, z2B, z2L, z2y, z2H, z2t, z2A, z29, z1P, z1H, z2f, z14, z1r, Int.reduceToNat, Int.reduceLE, Int.reduceLT, Int.reduceNeg, startD, List.map_cons, List.map_nil, List.length_cons, List.length_nil, List.replicate, List.cons_append, List.nil_append, List.getElem?_cons_zero, List.getElem?_cons_succ, List.set_cons_zero, List.set_cons_succ, Nat.reduceAdd, Nat.reduceSub, Nat.reduceEqDiff, if_true, if_false, Bool.false_eq_true, decide_true, decide_false, Int.reduceEq, Int.reduceAdd, Int.reduceSub, Int.reduceMul, Bool.not_true, Bool.not_false, c_0, c_1, c_2, c_3, c_4, c_5, c_6, c_7, c_8, c_9, c_10, c_11, c_12, sz_0, sz_1, sz_2, sz_3, sz_4, sz_5, sz_6, sz_7, sz_8, sz_9, z2J, z2I, z2E, z2s, z2x, z2z, z2w, Bool.true_eq_false, eq_self, za, zb, z4, z7, z5, z3, zw, zy, zi, zr, zp, z8, zn, zj, ze, zg, zh, z6, zz, zu, zf, zq, zo, z9, zD, zE, zm, zt, zA, zc, zG, zB, zl, zv, zx, zd, z2j, z2a, zS, z1E, z1q, z25, z2C, z2u, z2G, zY, z26, z2d, zT, z1p, z1D, z24, z1o, zF, z1u, zQ, z1t, z1B, zC, zX, z10, z2e, z22, z1z, z1A, z1y, zV, z11, z1v, zJ, zW, zZ, e1, ix_W (show (wM m).length ≤ sizeLine by rw [wM_len]; exact szn (by omega)) (at_wM hi), ix_W (show (wB b).length ≤ sizeLine by rw [wB_len]; exact szn (by omega)) (at_wB (show i < b.length by omega)), W_dash, W_inj]
    have xa := fun S' : Sto => ix_W (S := S') (show (wM m).length ≤ sizeLine by rw [wM_len]; exact szn (by omega)) (at_wM hi)
    have xb := fun S' : Sto => ix_W (S := S') (show (wB b).length ≤ sizeLine by rw [wB_len]; exact szn (by omega)) (at_wB (show i < b.length by omega))
    have hd := fk_dec (m := m) (b := b) (k := i)
    by_cases z1 : [cM (m.getD i none)] = [45]
    · simp only [eq_true z1, z1T, w_dC, z1L, z1i, z1W, z1Y, w_d2, z2o, w_d3, z2m, z1Z, z1e, z1J, z1g, z1U, z2p, z1G, z2n, z1V, z1f, z1M, z2q, z1I, z1m, z1R, z1K, z1N, z1c, zL, z1a, z1Q, z1S, zN, z1j, zP, zM, z19, z1h, z1l, z1d, zR, z16, z1O, z18, z1n, zK, z17, z15, zO, zI, z1k, z2r, z1X, z1b, zH, z1w, z2K, z1F, w_ok, z2v, z1x, z2l, z27, z1C, z2h, z23, z2O, z2N, z2g, z1s, zU, z12, z28, z2b, z2c, z20, z2k, z21, z2i, z2F, z2D, z2B, z2L, z2y, z2H, z2t, z2A, z29, z1P, z1H, z2f, z14, z1r, Int.reduceToNat, Int.reduceLE, Int.reduceLT, Int.reduceNeg, startD, List.map_cons, List.map_nil, List.length_cons, List.length_nil, List.replicate, List.cons_append, List.nil_append, List.getElem?_cons_zero, List.getElem?_cons_succ, List.set_cons_zero, List.set_cons_succ, Nat.reduceAdd, Nat.reduceSub, Nat.reduceEqDiff, if_true, if_false, Bool.false_eq_true, decide_true, decide_false, Int.reduceEq, Int.reduceAdd, Int.reduceSub, Int.reduceMul, Bool.not_true, Bool.not_false, c_0, c_1, c_2, c_3, c_4, c_5, c_6, c_7, c_8, c_9, c_10, c_11, c_12, sz_0, sz_1, sz_2, sz_3, sz_4, sz_5, sz_6, sz_7, sz_8, sz_9, z2J, z2I, z2E, z2s, z2x, z2z, z2w, Bool.true_eq_false, eq_self, za, zb, z4, z7, z5, z3, zw, zy, zi, zr, zp, z8, zn, zj, ze, zg, zh, z6, zz, zu, zf, zq, zo, z9, zD, zE, zm, zt, zA, zc, zG, zB, zl, zv, zx, zd, z2j, z2a, zS, z1E, z1q, z25, z2C, z2u, z2G, zY, z26, z2d, zT, z1p, z1D, z24, z1o, zF, z1u, zQ, z1t, z1B, zC, zX, z10, z2e, z22, z1z, z1A, z1y, zV, z11, z1v, zJ, zW, zZ, decide_true, Bool.not_true]
      refine ⟨trivial, fun k hk' => ?_, _, rfl⟩
      by_cases e : k = i
      · subst e
        rw [← hd, z1]; simp
      · exact hk k (by omega)
    · by_cases z2 : [cM (m.getD i none)] = [cb (b.getD i false)]
      · simp only [eq_false z1, eq_true z2, xa, xb, W_inj, z1T, w_dC, z1L, z1i, z1W, z1Y, w_d2, z2o, w_d3, z2m, z1Z, z1e, z1J, z1g, z1U, z2p, z1G, z2n, z1V, z1f, z1M, z2q, z1I, z1m, z1R, z1K, z1N, z1c, zL, z1a, z1Q, z1S, zN, z1j, zP, zM, z19, z1h, z1l, z1d, zR, z16, z1O, z18, z1n, zK, z17, z15, zO, zI, z1k, z2r, z1X, z1b, zH, z1w, z2K, z1F, w_ok, z2v, z1x, z2l, z27, z1C, z2h, z23, z2O, z2N, z2g, z1s, zU, z12, z28, z2b, z2c, z20, z2k, z21, z2i, z2F, z2D, z2B, z2L, z2y, z2H, z2t, z2A, z29, z1P, z1H, z2f, z14, z1r, Int.reduceToNat, Int.reduceLE, Int.reduceLT, Int.reduceNeg, startD, List.map_cons, List.map_nil, List.length_cons, List.length_nil, List.replicate, List.cons_append, List.nil_append, List.getElem?_cons_zero, List.getElem?_cons_succ, List.set_cons_zero, List.set_cons_succ, Nat.reduceAdd, Nat.reduceSub, Nat.reduceEqDiff, if_true, if_false, Bool.false_eq_true, decide_true, decide_false, Int.reduceEq, Int.reduceAdd, Int.reduceSub, Int.reduceMul, Bool.not_true, Bool.not_false, c_0, c_1, c_2, c_3, c_4, c_5, c_6, c_7, c_8, c_9, c_10, c_11, c_12, sz_0, sz_1, sz_2, sz_3, sz_4, sz_5, sz_6, sz_7, sz_8, sz_9, z2J, z2I, z2E, z2s, z2x, z2z, z2w, Bool.true_eq_false, eq_self, za, zb, z4, z7, z5, z3, zw, zy, zi, zr, zp, z8, zn, zj, ze, zg, zh, z6, zz, zu, zf, zq, zo, z9, zD, zE, zm, zt, zA, zc, zG, zB, zl, zv, zx, zd, z2j, z2a, zS, z1E, z1q, z25, z2C, z2u, z2G, zY, z26, z2d, zT, z1p, z1D, z24, z1o, zF, z1u, zQ, z1t, z1B, zC, zX, z10, z2e, z22, z1z, z1A, z1y, zV, z11, z1v, zJ, zW, zZ, decide_true, decide_false, Bool.not_true, Bool.not_false]
        refine ⟨trivial, fun k hk' => ?_, _, rfl⟩
        by_cases e : k = i
        · subst e
          rw [← hd, z2]; simp
        · exact hk k (by omega)
      · simp only [eq_false z1, eq_false z2, xa, xb, W_inj, z1T, w_dC, z1L, z1i, z1W, z1Y, w_d2, z2o, w_d3, z2m, z1Z, z1e, z1J, z1g, z1U, z2p, z1G, z2n, z1V, z1f, z1M, z2q, z1I, z1m, z1R, z1K, z1N, z1c, zL, z1a, z1Q, z1S, zN, z1j, zP, zM, z19, z1h, z1l, z1d, zR, z16, z1O, z18, z1n, zK, z17, z15, zO, zI, z1k, z2r, z1X, z1b, zH, z1w, z2K, z1F, w_ok, z2v, z1x, z2l, z27, z1C, z2h, z23, z2O, z2N, z2g, z1s, zU, z12, z28, z2b, z2c, z20, z2k, z21, z2i, z2F, z2D, z2B, z2L, z2y, z2H, z2t, z2A, z29, z1P, z1H, z2f, z14, z1r, Int.reduceToNat, Int.reduceLE, Int.reduceLT, Int.reduceNeg, startD, List.map_cons, List.map_nil, List.length_cons, List.length_nil, List.replicate, List.cons_append, List.nil_append, List.getElem?_cons_zero, List.getElem?_cons_succ, List.set_cons_zero, List.set_cons_succ, Nat.reduceAdd, Nat.reduceSub, Nat.reduceEqDiff, if_true, if_false, Bool.false_eq_true, decide_true, decide_false, Int.reduceEq, Int.reduceAdd, Int.reduceSub, Int.reduceMul, Bool.not_true, Bool.not_false, c_0, c_1, c_2, c_3, c_4, c_5, c_6, c_7, c_8, c_9, c_10, c_11, c_12, sz_0, sz_1, sz_2, sz_3, sz_4, sz_5, sz_6, sz_7, sz_8, sz_9, z2J, z2I, z2E, z2s, z2x, z2z, z2w, Bool.true_eq_false, eq_self, za, zb, z4, z7, z5, z3, zw, zy, zi, zr, zp, z8, zn, zj, ze, zg, zh, z6, zz, zu, zf, zq, zo, z9, zD, zE, zm, zt, zA, zc, zG, zB, zl, zv, zx, zd, z2j, z2a, zS, z1E, z1q, z25, z2C, z2u, z2G, zY, z26, z2d, zT, z1p, z1D, z24, z1o, zF, z1u, zQ, z1t, z1B, zC, zX, z10, z2e, z22, z1z, z1A, z1y, zV, z11, z1v, zJ, zW, zZ, decide_false, Bool.not_false]
        have : ft m b = false := by
          rw [Bool.eq_false_iff]
          intro h
          have := ft_iff.mp h i hi
          rw [← hd] at this
          simp only [decide_eq_true_eq] at this
          exact this.elim z1 z2
        exact ⟨by rw [this], app_nil _⟩

end Lw

namespace Lw
open PySem PySem.Spec PyProof.Rows L2 DL
abbrev Bt : Type := List Bool
abbrev Pk : Type := Mk × List Bt
def lft (rest bs : List Bt) : List Bt := rest.filter fun b => !decide (b ∈ bs)
theorem lft_mem {rest bs : List Bt} {b : Bt} : b ∈ lft rest bs ↔ b ∈ rest ∧ b ∉ bs := by
  unfold lft
  rw [List.mem_filter]
  simp
theorem lft_len (rest bs : List Bt) : (lft rest bs).length ≤ rest.length := List.length_filter_le _ _
theorem lft_lt {rest bs : List Bt} {b : Bt} (h : b ∈ rest) (hb : b ∈ bs) : (lft rest bs).length < rest.length := by
  refine Nat.lt_of_le_of_ne (lft_len _ _) fun e => ?_
  have e2 := List.length_filter_eq_length_iff.mp e b h
  simp [hb] at e2
def mnL : List Nat → Nat
  | [] => 0
  | [n] => n
  | n :: m :: r => if n ≤ mnL (m :: r) then n else mnL (m :: r)
theorem mnL_low : ∀ {ns : List Nat}, ∀ y ∈ ns, mnL ns ≤ y
  | [n], y, h => by rw [List.mem_singleton.mp h]; exact Nat.le_refl _
  | n :: m :: r, y, h => by
    have ih := @mnL_low (m :: r)
    unfold mnL
    rcases List.mem_cons.mp h with rfl | h
    · split <;> omega
    · have := ih y h
      split <;> omega
theorem mnL_mem : ∀ {ns : List Nat}, ns ≠ [] → mnL ns ∈ ns
  | [n], _ => by simp [mnL]
  | n :: m :: r, _ => by
    have ih := @mnL_mem (m :: r) (by simp)
    unfold mnL
    split
    · simp
    · exact List.mem_cons_of_mem _ ih
def nZ (n : Nat) : Int := ((n : Nat) : Int)
theorem mnL_int : ∀ ns : List Nat, minL (ns.map nZ) = ((mnL ns : Nat) : Int)
  | [] => rfl
  | [n] => rfl
  | n :: m :: r => by
    have ih := mnL_int (m :: r)
    show (if nZ n ≤ minL ((m :: r).map nZ) then nZ n else minL ((m :: r).map nZ)) = _
    have e : mnL (n :: m :: r) = if n ≤ mnL (m :: r) then n else mnL (m :: r) := rfl
    rw [ih, e]
    by_cases h : n ≤ mnL (m :: r)
    · rw [if_pos h, if_pos (show nZ n ≤ ((mnL (m :: r) : Nat) : Int) from Int.ofNat_le.mpr h)]
      rfl
    · rw [if_neg h, if_neg (show ¬ nZ n ≤ ((mnL (m :: r) : Nat) : Int) from fun z => h (Int.ofNat_le.mp z))]
def mnF (ps : List Pk) : Nat → List Bt → Nat
  | 0, _ => 0
  | _ + 1, [] => 0
  | n + 1, b :: r => 1 + mnL ((ps.filter fun q => decide (b ∈ q.2)).map fun q => mnF ps n (lft (b :: r) q.2))
def mn (ps : List Pk) (rest : List Bt) : Nat := mnF ps rest.length rest
theorem mnF_eq {ps : List Pk} : ∀ (n m : Nat) (rest : List Bt), rest.length ≤ n → rest.length ≤ m → mnF ps n rest = mnF ps m rest
  | 0, m, rest, h, _ => by
    have : rest = [] := List.length_eq_zero_iff.mp (by omega)
    subst this
    cases m <;> rfl
  | n + 1, 0, rest, _, h => by
    have : rest = [] := List.length_eq_zero_iff.mp (by omega)
    subst this
    rfl
  | n + 1, m + 1, [], _, _ => rfl
  | n + 1, m + 1, b :: r, h1, h2 => by
    show 1 + mnL _ = 1 + mnL _
    congr 2
    refine List.map_congr_left fun q hq => ?_
    have hb := of_decide_eq_true (List.mem_filter.mp hq).2
    have := lft_lt (rest := b :: r) (List.mem_cons_self) hb
    exact mnF_eq n m _ (by simp at h1 this; omega) (by simp at h2 this; omega)
theorem mn_cons {ps : List Pk} {b : Bt} {r : List Bt} : mn ps (b :: r) = 1 + mnL ((ps.filter fun q => decide (b ∈ q.2)).map fun q => mn ps (lft (b :: r) q.2)) := by
  show 1 + mnL _ = _
  congr 2
  refine List.map_congr_left fun q hq => ?_
  have hb := of_decide_eq_true (List.mem_filter.mp hq).2
  have := lft_lt (rest := b :: r) (List.mem_cons_self) hb
  exact mnF_eq _ _ _ (by simp at this; omega) (Nat.le_refl _)
def Cov (ps : List Pk) (rest : List Bt) : Prop := ∀ b ∈ rest, ∃ q ∈ ps, b ∈ q.2
theorem Cov.lft {ps : List Pk} {rest bs : List Bt} (h : Cov ps rest) : Cov ps (lft rest bs) := fun b hb => h b (lft_mem.mp hb).1
theorem mn_le {ps : List Pk} : ∀ (n : Nat) {rest : List Bt} {cs : List Pk}, rest.length ≤ n → (∀ q ∈ cs, q ∈ ps) → Cov cs rest → mn ps rest ≤ cs.length
  | _, [], _, _, _, _ => Nat.zero_le _
  | 0, _ :: _, _, h, _, _ => by simp at h
  | n + 1, b :: r, cs, h, hs, hc => by
    obtain ⟨q, hq, hb⟩ := hc b (List.mem_cons_self)
    have hlt := lft_lt (rest := b :: r) (List.mem_cons_self) hb
    have ih := mn_le n (rest := Lw.lft (b :: r) q.2) (cs := cs.erase q) (by simp at h hlt; omega) (fun x hx => hs x (List.mem_of_mem_erase hx)) (fun x hx => by
      obtain ⟨h1, h2⟩ := lft_mem.mp hx
      obtain ⟨p, hp, hpx⟩ := hc x h1
      refine ⟨p, (List.mem_erase_of_ne (fun z => h2 (by rw [← z]; exact hpx))).mpr hp, hpx⟩)
    have hl : (cs.erase q).length = cs.length - 1 := List.length_erase_of_mem hq
    have hpos : 0 < cs.length := List.length_pos_of_mem hq
    have hm := mnL_low (ns := (ps.filter fun q => decide (b ∈ q.2)).map fun q => mn ps (lft (b :: r) q.2)) (mn ps (lft (b :: r) q.2)) (List.mem_map.mpr ⟨q, List.mem_filter.mpr ⟨hs q hq, decide_eq_true hb⟩, rfl⟩)
    rw [mn_cons]
    omega
theorem mn_pick {ps : List Pk} {rest : List Bt} (hne : rest ≠ []) (hc : Cov ps rest) : ∃ q ∈ ps, (lft rest q.2).length < rest.length ∧ 1 + mn ps (lft rest q.2) = mn ps rest := by
  cases rest with
  | nil => exact absurd rfl hne
  | cons b r =>
    obtain ⟨q0, hq0, hb0⟩ := hc b (List.mem_cons_self)
    have hm := mnL_mem (ns := (ps.filter fun q => decide (b ∈ q.2)).map fun q => mn ps (lft (b :: r) q.2)) (fun z => by
      have : mn ps (lft (b :: r) q0.2) ∈ ([] : List Nat) := by
        rw [← z]
        exact List.mem_map.mpr ⟨q0, List.mem_filter.mpr ⟨hq0, decide_eq_true hb0⟩, rfl⟩
      cases this)
    obtain ⟨q, hq, e⟩ := List.mem_map.mp hm
    obtain ⟨hq1, hq2⟩ := List.mem_filter.mp hq
    exact ⟨q, hq1, lft_lt (List.mem_cons_self) (of_decide_eq_true hq2), by rw [mn_cons, e]⟩
def okP (ps : List Pk) (rest : List Bt) (q : Pk) : Bool := decide ((lft rest q.2).length < rest.length) && decide (1 + mn ps (lft rest q.2) = mn ps rest)
def fsF (ps : List Pk) : Nat → List Bt → List Pk
  | 0, _ => []
  | n + 1, rest => if rest = [] then [] else match ps.find? (okP ps rest) with
    | some q => q :: fsF ps n (lft rest q.2)
    | none => []
def fs (ps : List Pk) (rest : List Bt) : List Pk := fsF ps rest.length rest
theorem okP_some {ps : List Pk} {rest : List Bt} (hne : rest ≠ []) (hc : Cov ps rest) : ∃ q, ps.find? (okP ps rest) = some q ∧ q ∈ ps ∧ (lft rest q.2).length < rest.length ∧ 1 + mn ps (lft rest q.2) = mn ps rest := by
  obtain ⟨q0, h0, h1, h2⟩ := mn_pick hne hc
  cases e : ps.find? (okP ps rest) with
  | none =>
    have := List.find?_eq_none.mp e q0 h0
    exact absurd (by unfold okP; rw [decide_eq_true h1, decide_eq_true h2]; rfl) this
  | some q =>
    have hq := List.find?_some e
    unfold okP at hq
    rw [Bool.and_eq_true] at hq
    exact ⟨q, rfl, List.mem_of_find?_eq_some e, of_decide_eq_true hq.1, of_decide_eq_true hq.2⟩
theorem fsF_ok {ps : List Pk} : ∀ (n : Nat) {rest : List Bt}, rest.length ≤ n → Cov ps rest → (∀ q ∈ fsF ps n rest, q ∈ ps) ∧ Cov (fsF ps n rest) rest ∧ (fsF ps n rest).length = mn ps rest
  | 0, rest, h, _ => by
    have : rest = [] := List.length_eq_zero_iff.mp (by omega)
    subst this
    exact ⟨fun q hq => (by cases hq), fun b hb => (by cases hb), rfl⟩
  | n + 1, rest, h, hc => by
    unfold fsF
    by_cases hne : rest = []
    · subst hne
      rw [if_pos rfl]
      exact ⟨fun q hq => (by cases hq), fun b hb => (by cases hb), rfl⟩
    · rw [if_neg hne]
      obtain ⟨q, e, hq, h1, h2⟩ := okP_some hne hc
      rw [e]
      obtain ⟨i1, i2, i3⟩ := fsF_ok n (rest := Lw.lft rest q.2) (by omega) hc.lft
      refine ⟨fun x hx => ?_, fun b hb => ?_, ?_⟩
      · rcases List.mem_cons.mp hx with rfl | hx
        · exact hq
        · exact i1 x hx
      · by_cases hbq : b ∈ q.2
        · exact ⟨q, List.mem_cons_self, hbq⟩
        · obtain ⟨p, hp, hpb⟩ := i2 b (lft_mem.mpr ⟨hb, hbq⟩)
          exact ⟨p, List.mem_cons_of_mem _ hp, hpb⟩
      · rw [List.length_cons, i3]
        omega

theorem sub_few {α : Type} [BEq α] [LawfulBEq α] : ∀ {l r : List α}, l.Nodup → (∀ x ∈ l, x ∈ r) → l.length ≤ r.length
  | [], _, _, _ => Nat.zero_le _
  | x :: l, r, h, hs => by
    obtain ⟨h1, h2⟩ := List.nodup_cons.mp h
    have hx := hs x (by simp)
    have ih := sub_few (l := l) (r := r.erase x) h2 fun y hy => (List.mem_erase_of_ne (fun z => h1 (by rw [← z]; exact hy))).mpr (hs y (List.mem_cons_of_mem _ hy))
    rw [List.length_erase_of_mem hx] at ih
    have := List.length_pos_of_mem hx
    simp
    omega
def rsD (r : List Bt) : D := .tup (r.map sW)
def pkD (q : Pk) : D := .tup [mW q.1, .tup (q.2.map sW)]
theorem sW_inj {a b : Bt} (h : sW a = sW b) : a = b := by
  unfold sW at h
  rw [D.str.injEq, W_inj] at h
  exact wB_inj h
theorem rsD_inj (a b : List Bt) (h : rsD a = rsD b) : a = b := by
  unfold rsD at h
  rw [D.tup.injEq] at h
  exact (List.map_inj_right fun _ _ => sW_inj).mp h
theorem sW_td (b : Bt) : TD 0 (sW b) := td_W (wB_ok b)
theorem rsD_nok (r : List Bt) : nokD (rsD r) = true := td_nok (n := 1) (td_map fun b _ => sW_td b)
theorem sW_gd0 {bs : List Bt} : ∀ d ∈ bs.map sW, GD 0 d := fun d hd => by
  obtain ⟨b, _, rfl⟩ := List.mem_map.mp hd
  exact gd_W (wB_ok b)
theorem has_bt {b : Bt} {bs : List Bt} {S : Sto} : hasD (sW b) (.tup (bs.map sW)) S = some (decide (b ∈ bs)) := by
  have h := has_strs (x := wB b) (ys := bs.map wB) (S := S)
  rw [List.map_map] at h
  have e : decide (wB b ∈ bs.map wB) = decide (b ∈ bs) := decide_eq_decide.mpr ⟨fun z => by
    obtain ⟨c, hc, e⟩ := List.mem_map.mp z
    rw [← wB_inj e]
    exact hc, fun z => List.mem_map.mpr ⟨b, z, rfl⟩⟩
  rw [e] at h
  exact h
theorem left_ok {x : D} {rest bs : List Bt} {S : Sto} (hl : rest.length ≤ 100) : F_Cover_left [x, rsD rest, .tup (bs.map sW)] S = .ok (rsD (lft rest bs)) S := by
  unfold F_Cover_left
  refine fn_ok (gd_blw (n := 1) _ (gd_tup sW_gd0)) ?_
  unfold b_Cover_left
  have hc : dFrz (dComp [3] (iVal (dVar 1)) (gVar 3) (d2T notInD (dVar 3) (dVar 2)) (dVar 3)) [some x, some (rsD rest), some (.tup (bs.map sW)), none] S = .ok (.frl ((rest.filter fun b => !decide (b ∈ bs)).map sW)) S := by
    refine compF rest sW _ _ ?_ (Nat.le_trans (List.length_filter_le _ _) (szn (by omega))) ?_ ?_
    · simp only [z1T, w_dC, z1L, z1i, z1W, z1Y, w_d2, z2o, w_d3, z2m, z1Z, z1e, z1J, z1g, z1U, z2p, z1G, z2n, z1V, z1f, z1M, z2q, z1I, z1m, z1R, z1K, z1N, z1c, zL, z1a, z1Q, z1S, zN, z1j, zP, zM, z19, z1h, z1l, z1d, zR, z16, z1O, z18, z1n, zK, z17, z15, zO, zI, z1k, z2r, z1X, z1b, zH, z1w, z2K, z1F, w_ok, z2v, z1x, z2l, z27, z1C, z2h, z23, z2g, z1s, zU, z12, z28, z2b, z2c, z20, z2k, z21, z2i, z2F, z2D, z2B, z2L, z2y, z2H, z2t, z2A, z29, z1P, z1H, z2f, z14, z1r, Int.reduceToNat, Int.reduceLE, Int.reduceLT, Int.reduceNeg, startD, List.map_cons, List.map_nil, List.length_cons, List.length_nil, List.replicate, List.cons_append, List.nil_append, List.getElem?_cons_zero, List.getElem?_cons_succ, List.set_cons_zero, List.set_cons_succ, Nat.reduceAdd, Nat.reduceSub, Nat.reduceEqDiff, if_true, if_false, Bool.false_eq_true, decide_true, decide_false, Int.reduceEq, Int.reduceAdd, Int.reduceSub, Int.reduceMul, Bool.not_true, Bool.not_false, c_0, c_1, c_2, c_3, c_4, c_5, c_6, c_7, c_8, c_9, c_10, c_11, c_12, sz_0, sz_1, sz_2, sz_3, sz_4, sz_5, sz_6, sz_7, sz_8, sz_9, z2J, z2I, z2E, z2s, z2x, z2z, z2w, Bool.true_eq_false, eq_self, za, zb, z4, z7, z5, z3, zw, zy, zi, zr, zp, z8, zn, zj, ze, zg, zh, z6, zz, zu, zf, zq, zo, z9, zD, zE, zm, zt, zA, zc, zG, zB, zl, zv, zx, zd, z2j, z2a, zS, z1E, z1q, z25, z2C, z2u, z2G, zY, z26, z2d, zT, z1p, z1D, z24, z1o, zF, z1u, zQ, z1t, z1B, zC, zX, z10, z2e, z22, z1z, z1A, z1y, zV, z11, z1v, zJ, zW, zZ, itemsD, rsD]
      exact ⟨by first | rfl | trivial, by first | rfl | trivial, fun _ _ => rfl⟩
    · intro b _ S' _
      simp only [z1T, w_dC, z1L, z1i, z1W, z1Y, w_d2, z2o, w_d3, z2m, z1Z, z1e, z1J, z1g, z1U, z2p, z1G, z2n, z1V, z1f, z1M, z2q, z1I, z1m, z1R, z1K, z1N, z1c, zL, z1a, z1Q, z1S, zN, z1j, zP, zM, z19, z1h, z1l, z1d, zR, z16, z1O, z18, z1n, zK, z17, z15, zO, zI, z1k, z2r, z1X, z1b, zH, z1w, z2K, z1F, w_ok, z2v, z1x, z2l, z27, z1C, z2h, z23, z2g, z1s, zU, z12, z28, z2b, z2c, z20, z2k, z21, z2i, z2F, z2D, z2B, z2L, z2y, z2H, z2t, z2A, z29, z1P, z1H, z2f, z14, z1r, Int.reduceToNat, Int.reduceLE, Int.reduceLT, Int.reduceNeg, startD, List.map_cons, List.map_nil, List.length_cons, List.length_nil, List.replicate, List.cons_append, List.nil_append, List.getElem?_cons_zero, List.getElem?_cons_succ, List.set_cons_zero, List.set_cons_succ, Nat.reduceAdd, Nat.reduceSub, Nat.reduceEqDiff, if_true, if_false, Bool.false_eq_true, decide_true, decide_false, Int.reduceEq, Int.reduceAdd, Int.reduceSub, Int.reduceMul, Bool.not_true, Bool.not_false, c_0, c_1, c_2, c_3, c_4, c_5, c_6, c_7, c_8, c_9, c_10, c_11, c_12, sz_0, sz_1, sz_2, sz_3, sz_4, sz_5, sz_6, sz_7, sz_8, sz_9, z2J, z2I, z2E, z2s, z2x, z2z, z2w, Bool.true_eq_false, eq_self, za, zb, z4, z7, z5, z3, zw, zy, zi, zr, zp, z8, zn, zj, ze, zg, zh, z6, zz, zu, zf, zq, zo, z9, zD, zE, zm, zt, zA, zc, zG, zB, zl, zv, zx, zd, z2j, z2a, zS, z1E, z1q, z25, z2C, z2u, z2G, zY, z26, z2d, zT, z1p, z1D, z24, z1o, zF, z1u, zQ, z1t, z1B, zC, zX, z10, z2e, z22, z1z, z1A, z1y, zV, z11, z1v, zJ, zW, zZ, wipeD, notInD, has_bt]
      exact ⟨trivial, trivial, trivial, fun _ => ⟨trivial, trivial⟩⟩
    · intro b _ _; rfl
  simp only [hc, z1T, w_dC, z1L, z1i, z1W, z1Y, w_d2, z2o, w_d3, z2m, z1Z, z1e, z1J, z1g, z1U, z2p, z1G, z2n, z1V, z1f, z1M, z2q, z1I, z1m, z1R, z1K, z1N, z1c, zL, z1a, z1Q, z1S, zN, z1j, zP, zM, z19, z1h, z1l, z1d, zR, z16, z1O, z18, z1n, zK, z17, z15, zO, zI, z1k, z2r, z1X, z1b, zH, z1w, z2K, z1F, w_ok, z2v, z1x, z2l, z27, z1C, z2h, z23, z2g, z1s, zU, z12, z28, z2b, z2c, z20, z2k, z21, z2i, z2F, z2D, z2B, z2L, z2y, z2H, z2t, z2A, z29, z1P, z1H, z2f, z14, z1r, Int.reduceToNat, Int.reduceLE, Int.reduceLT, Int.reduceNeg, startD, List.map_cons, List.map_nil, List.length_cons, List.length_nil, List.replicate, List.cons_append, List.nil_append, List.getElem?_cons_zero, List.getElem?_cons_succ, List.set_cons_zero, List.set_cons_succ, Nat.reduceAdd, Nat.reduceSub, Nat.reduceEqDiff, if_true, if_false, Bool.false_eq_true, decide_true, decide_false, Int.reduceEq, Int.reduceAdd, Int.reduceSub, Int.reduceMul, Bool.not_true, Bool.not_false, c_0, c_1, c_2, c_3, c_4, c_5, c_6, c_7, c_8, c_9, c_10, c_11, c_12, sz_0, sz_1, sz_2, sz_3, sz_4, sz_5, sz_6, sz_7, sz_8, sz_9, z2J, z2I, z2E, z2s, z2x, z2z, z2w, Bool.true_eq_false, eq_self, za, zb, z4, z7, z5, z3, zw, zy, zi, zr, zp, z8, zn, zj, ze, zg, zh, z6, zz, zu, zf, zq, zo, z9, zD, zE, zm, zt, zA, zc, zG, zB, zl, zv, zx, zd, z2j, z2a, zS, z1E, z1q, z25, z2C, z2u, z2G, zY, z26, z2d, zT, z1p, z1D, z24, z1o, zF, z1u, zQ, z1t, z1B, zC, zX, z10, z2e, z22, z1z, z1A, z1y, zV, z11, z1v, zJ, zW, zZ]
  rw [w_tupF]
  exact ⟨rfl, app_nil S⟩
def cvO (ps : List Pk) (k : Nat) : DO := .ins 21 [("marks", .frl (ps.map pkD)), ("known", .ref k)]
theorem cv_marks {ps : List Pk} {k r : Nat} {S : Sto} {Q : D → Sto → Prop} {X : Exc → Sto → Prop} (hr : S[r]? = some (cvO ps k)) : Wp (getF [21] "marks" (.ref r) S) Q X = Q (.frl (ps.map pkD)) S := by
  unfold cvO at hr
  rw [w_getF hr (by simp) rfl]
theorem cv_known {ps : List Pk} {k r : Nat} {S : Sto} {Q : D → Sto → Prop} {X : Exc → Sto → Prop} (hr : S[r]? = some (cvO ps k)) : Wp (getF [21] "known" (.ref r) S) Q X = Q (.ref k) S := by
  unfold cvO at hr
  rw [w_getF hr (by simp) rfl]
def subs : List Bt → List (List Bt)
  | [] => [[]]
  | b :: bs => subs bs ++ (subs bs).map (b :: ·)
theorem subs_len : ∀ l : List Bt, (subs l).length = 2 ^ l.length
  | [] => rfl
  | b :: bs => by
    rw [subs, List.length_append, List.length_map, subs_len bs, List.length_cons, Nat.pow_succ]
    omega
theorem subs_of : ∀ {l r : List Bt}, r.Sublist l → r ∈ subs l
  | [], r, h => by
    rw [List.sublist_nil.mp h]
    simp [subs]
  | b :: bs, r, h => by
    unfold subs
    rw [List.mem_append]
    cases h with
    | cons _ h => exact .inl (subs_of h)
    | cons_cons _ h => exact .inr (List.mem_map.mpr ⟨_, subs_of h, rfl⟩)
structure KN (ps : List Pk) (base : List Bt) (kn : List (List Bt × D)) : Prop where
  val : ∀ p ∈ kn, p.2 = .int ((mn ps p.1 : Nat) : Int) ∧ p.1.Sublist base
  nd : (kn.map (·.1)).Nodup
  nil : [] ∈ kn.map (·.1)
theorem KN.few {ps : List Pk} {base : List Bt} {kn : List (List Bt × D)} (h : KN ps base kn) (hb : base.length ≤ 16) : kn.length ≤ 65536 := by
  have h1 := sub_few h.nd (r := subs base) fun x hx => by
    obtain ⟨p, hp, rfl⟩ := List.mem_map.mp hx
    exact subs_of (h.val p hp).2
  rw [List.length_map, subs_len] at h1
  have : 2 ^ base.length ≤ 2 ^ 16 := Nat.pow_le_pow_right (by decide) hb
  omega
theorem getE_some {ps : List Pk} {base : List Bt} {kn : List (List Bt × D)} (h : KN ps base kn) {r : List Bt} (hr : r ∈ kn.map (·.1)) : getE kn r = some (.int ((mn ps r : Nat) : Int)) := by
  unfold getE
  cases e : kn.find? fun p => decide (p.1 = r) with
  | none =>
    obtain ⟨p, hp, rfl⟩ := List.mem_map.mp hr
    have := List.find?_eq_none.mp e p hp
    simp at this
  | some p =>
    have h1 := List.find?_some e
    have h2 := List.mem_of_find?_eq_some e
    have h3 := of_decide_eq_true h1
    show some p.2 = _
    rw [(h.val p h2).1, h3]
theorem kn_blw {ps : List Pk} {base : List Bt} {kn : List (List Bt × D)} {n : Nat} (h : KN ps base kn) : (DO.dic 2 (kvE rsD kn)).blw n = true := by
  show ((kn.map fun p => (rsD p.1, p.2)).all fun p => p.2.blw n) = true
  rw [List.all_eq_true]
  intro p hp
  obtain ⟨q, hq, rfl⟩ := List.mem_map.mp hp
  show D.blw n q.2 = true
  rw [(h.val q hq).1]
  rfl
theorem lft_sub {rest bs base : List Bt} (h : rest.Sublist base) : (lft rest bs).Sublist base := List.Sublist.trans List.filter_sublist h
theorem set_same {S : Sto} {k : Nat} {o : DO} (h : S[k]? = some o) : S.set k o = S := by
  apply List.ext_getElem?
  intro i
  by_cases e : k = i
  · subst e
    rw [h]
    simp [(List.getElem?_eq_some_iff.mp h).1]
  · rw [List.getElem?_set_ne e]
theorem ints_nZ : ∀ ns : List Nat, intsD (ns.map fun (n : Nat) => D.int ((n : Nat) : Int)) = some (ns.map nZ)
  | [] => rfl
  | n :: ns => by
    rw [List.map_cons]
    show (intsD _).map _ = _
    rw [ints_nZ ns]
    rfl
theorem minIs_ok {ns : List Nat} {S : Sto} (h : ns ≠ []) : minIs [.frl (ns.map fun (n : Nat) => D.int ((n : Nat) : Int))] S = .ok (.int ((mnL ns : Nat) : Int)) S := by
  simp only [minIs, lsD, ints_nZ]
  rw [if_neg (by simpa using h), mnL_int]
theorem lk_many {x y : D} : ([(Str.ofString "marks", x), (Str.ofString "known", y)] : List (Str × D)).lookup (Str.ofString "many") = none := by
  simp only [List.lookup, show ((Str.ofString "many") == (Str.ofString "marks")) = false by decide +kernel, show ((Str.ofString "many") == (Str.ofString "known")) = false by decide +kernel]
theorem lk_left {x y : D} : ([(Str.ofString "marks", x), (Str.ofString "known", y)] : List (Str × D)).lookup (Str.ofString "left") = none := by
  simp only [List.lookup, show ((Str.ofString "left") == (Str.ofString "marks")) = false by decide +kernel, show ((Str.ofString "left") == (Str.ofString "known")) = false by decide +kernel]
theorem many_ok {ps : List Pk} {base : List Bt} {self k : Nat} (hb : base.length ≤ 16) (hps : ps.length ≤ 1000) (hq : ∀ q ∈ ps, q.2.length ≤ 100) (hc : Cov ps base) (hsk : self ≠ k) :
    ∀ (n : Nat) {rest : List Bt} {kn : List (List Bt × D)} {S : Sto}, rest.length < n → rest.Sublist base → KN ps base kn → S[self]? = some (cvO ps k) → S[k]? = some (.dic 2 (kvE rsD kn)) →
      ∃ kn', F_Cover_many n [.ref self, rsD rest] S = .ok (.int ((mn ps rest : Nat) : Int)) (S.set k (.dic 2 (kvE rsD kn'))) ∧ KN ps base kn' ∧ ∀ p ∈ kn', p ∈ kn ∨ p.1.length ≤ rest.length
  | 0, rest, _, _, h, _, _, _, _ => by omega
  | n + 1, rest, kn, S, hn, hsub, K, hs, hk => by
    have ih := fun {rest : List Bt} {kn : List (List Bt × D)} {S : Sto} => many_ok (self := self) hb hps hq hc hsk n (rest := rest) (kn := kn) (S := S)
    have hkl : k < S.length := (List.getElem?_eq_some_iff.mp hk).1
    have hrl : rest.length ≤ 16 := by have := hsub.length_le; omega
    have main : Wp (dFn 5 (b_Cover_many (F_Cover_many n)) [.ref self, rsD rest] S) (fun d S' => d = .int ((mn ps rest : Nat) : Int) ∧ ∃ kn', (∃ T, S' = S.set k (.dic 2 (kvE rsD kn')) ++ T) ∧ KN ps base kn' ∧ ∀ p ∈ kn', p ∈ kn ∨ p.1.length ≤ rest.length) NX := by
      rw [z2l]
      unfold b_Cover_many
      simp only [z1T, w_dC, z1L, z1i, z1W, z1Y, w_d2, z2o, w_d3, z2m, z1Z, z1e, z1J, z1g, z1U, z2p, z1G, z2n, z1V, z1f, z1M, z2q, z1I, z1m, z1R, z1K, z1N, z1c, zL, z1a, z1Q, z1S, zN, z1j, zP, zM, z19, z1h, z1l, z1d, zR, z16, z1O, z18, z1n, zK, z17, z15, zO, zI, z1k, z2r, z1X, z1b, zH, z1w, z2K, z1F, w_ok, z2v, z1x, z2l, z27, z1C, z2h, z23, z2g, z1s, zU, z12, z28, z2b, z2c, z20, z2k, z21, z2i, z2F, z2D, z2B, z2L, z2y, z2H, z2t, z2A, z29, z1P, z1H, z2f, z14, z1r, Int.reduceToNat, Int.reduceLE, Int.reduceLT, Int.reduceNeg, startD, List.map_cons, List.map_nil, List.length_cons, List.length_nil, List.replicate, List.cons_append, List.nil_append, List.getElem?_cons_zero, List.getElem?_cons_succ, List.set_cons_zero, List.set_cons_succ, Nat.reduceAdd, Nat.reduceSub, Nat.reduceEqDiff, if_true, if_false, Bool.false_eq_true, decide_true, decide_false, Int.reduceEq, Int.reduceAdd, Int.reduceSub, Int.reduceMul, Bool.not_true, Bool.not_false, c_0, c_1, c_2, c_3, c_4, c_5, c_6, c_7, c_8, c_9, c_10, c_11, c_12, sz_0, sz_1, sz_2, sz_3, sz_4, sz_5, sz_6, sz_7, sz_8, sz_9, z2J, z2I, z2E, z2s, z2x, z2z, z2w, Bool.true_eq_false, eq_self, za, zb, z4, z7, z5, z3, zw, zy, zi, zr, zp, z8, zn, zj, ze, zg, zh, z6, zz, zu, zf, zq, zo, z9, zD, zE, zm, zt, zA, zc, zG, zB, zl, zv, zx, zd, z2j, z2a, zS, z1E, z1q, z25, z2C, z2u, z2G, zY, z26, z2d, zT, z1p, z1D, z24, z1o, zF, z1u, zQ, z1t, z1B, zC, zX, z10, z2e, z22, z1z, z1A, z1y, zV, z11, z1v, zJ, zW, zZ, cv_known hs]
      rw [w_notInN (dicN_at hk (rsD_nok _)), getK_E rsD_inj]
      by_cases hm : rest ∈ kn.map (·.1)
      · simp only [getE_some K hm, z1T, w_dC, z1L, z1i, z1W, z1Y, w_d2, z2o, w_d3, z2m, z1Z, z1e, z1J, z1g, z1U, z2p, z1G, z2n, z1V, z1f, z1M, z2q, z1I, z1m, z1R, z1K, z1N, z1c, zL, z1a, z1Q, z1S, zN, z1j, zP, zM, z19, z1h, z1l, z1d, zR, z16, z1O, z18, z1n, zK, z17, z15, zO, zI, z1k, z2r, z1X, z1b, zH, z1w, z2K, z1F, w_ok, z2v, z1x, z2l, z27, z1C, z2h, z23, z2g, z1s, zU, z12, z28, z2b, z2c, z20, z2k, z21, z2i, z2F, z2D, z2B, z2L, z2y, z2H, z2t, z2A, z29, z1P, z1H, z2f, z14, z1r, Int.reduceToNat, Int.reduceLE, Int.reduceLT, Int.reduceNeg, startD, List.map_cons, List.map_nil, List.length_cons, List.length_nil, List.replicate, List.cons_append, List.nil_append, List.getElem?_cons_zero, List.getElem?_cons_succ, List.set_cons_zero, List.set_cons_succ, Nat.reduceAdd, Nat.reduceSub, Nat.reduceEqDiff, if_true, if_false, Bool.false_eq_true, decide_true, decide_false, Int.reduceEq, Int.reduceAdd, Int.reduceSub, Int.reduceMul, Bool.not_true, Bool.not_false, c_0, c_1, c_2, c_3, c_4, c_5, c_6, c_7, c_8, c_9, c_10, c_11, c_12, sz_0, sz_1, sz_2, sz_3, sz_4, sz_5, sz_6, sz_7, sz_8, sz_9, z2J, z2I, z2E, z2s, z2x, z2z, z2w, Bool.true_eq_false, eq_self, za, zb, z4, z7, z5, z3, zw, zy, zi, zr, zp, z8, zn, zj, ze, zg, zh, z6, zz, zu, zf, zq, zo, z9, zD, zE, zm, zt, zA, zc, zG, zB, zl, zv, zx, zd, z2j, z2a, zS, z1E, z1q, z25, z2C, z2u, z2G, zY, z26, z2d, zT, z1p, z1D, z24, z1o, zF, z1u, zQ, z1t, z1B, zC, zX, z10, z2e, z22, z1z, z1A, z1y, zV, z11, z1v, zJ, zW, zZ, Option.isSome_some, Bool.not_true, cv_known hs]
        rw [w_ixN (dicN_at hk (rsD_nok _) |>.trans (by rw [getK_E rsD_inj, getE_some K hm]))]
        refine ⟨rfl, kn, ⟨[], ?_⟩, K, fun p hp => .inl hp⟩
        rw [List.append_nil, set_same hk]
      · have hne : rest ≠ [] := fun z => hm (by rw [z]; exact K.nil)
        obtain ⟨b, r, rfl⟩ := List.exists_cons_of_ne_nil hne
        have hsome : dFrz (dComp [3, 4] (iVal (dFld [21] "marks" (dVar 0))) (gTupD 2 (gsCons (gVar 3) (gsCons (gVar 4) gsNil))) (d2T inD (d2 ixD (dVar 1) (dC (.int 0))) (dVar 4)) (dVar 4)) [some (.ref self), some (rsD (b :: r)), none, none, none] S = .ok (.frl ((ps.filter fun q => decide (b ∈ q.2)).map fun q => .tup (q.2.map sW))) S := by
          refine compF ps pkD _ _ ?_ (Nat.le_trans (List.length_filter_le _ _) (szn (by omega))) ?_ ?_
          · simp only [z1T, w_dC, z1L, z1i, z1W, z1Y, w_d2, z2o, w_d3, z2m, z1Z, z1e, z1J, z1g, z1U, z2p, z1G, z2n, z1V, z1f, z1M, z2q, z1I, z1m, z1R, z1K, z1N, z1c, zL, z1a, z1Q, z1S, zN, z1j, zP, zM, z19, z1h, z1l, z1d, zR, z16, z1O, z18, z1n, zK, z17, z15, zO, zI, z1k, z2r, z1X, z1b, zH, z1w, z2K, z1F, w_ok, z2v, z1x, z2l, z27, z1C, z2h, z23, z2g, z1s, zU, z12, z28, z2b, z2c, z20, z2k, z21, z2i, z2F, z2D, z2B, z2L, z2y, z2H, z2t, z2A, z29, z1P, z1H, z2f, z14, z1r, Int.reduceToNat, Int.reduceLE, Int.reduceLT, Int.reduceNeg, startD, List.map_cons, List.map_nil, List.length_cons, List.length_nil, List.replicate, List.cons_append, List.nil_append, List.getElem?_cons_zero, List.getElem?_cons_succ, List.set_cons_zero, List.set_cons_succ, Nat.reduceAdd, Nat.reduceSub, Nat.reduceEqDiff, if_true, if_false, Bool.false_eq_true, decide_true, decide_false, Int.reduceEq, Int.reduceAdd, Int.reduceSub, Int.reduceMul, Bool.not_true, Bool.not_false, c_0, c_1, c_2, c_3, c_4, c_5, c_6, c_7, c_8, c_9, c_10, c_11, c_12, sz_0, sz_1, sz_2, sz_3, sz_4, sz_5, sz_6, sz_7, sz_8, sz_9, z2J, z2I, z2E, z2s, z2x, z2z, z2w, Bool.true_eq_false, eq_self, za, zb, z4, z7, z5, z3, zw, zy, zi, zr, zp, z8, zn, zj, ze, zg, zh, z6, zz, zu, zf, zq, zo, z9, zD, zE, zm, zt, zA, zc, zG, zB, zl, zv, zx, zd, z2j, z2a, zS, z1E, z1q, z25, z2C, z2u, z2G, zY, z26, z2d, zT, z1p, z1D, z24, z1o, zF, z1u, zQ, z1t, z1B, zC, zX, z10, z2e, z22, z1z, z1A, z1y, zV, z11, z1v, zJ, zW, zZ, cv_marks hs, itemsD]
            exact ⟨by first | rfl | trivial, by first | rfl | trivial, fun _ _ => rfl⟩
          · intro q _ S' _
            simp only [z1T, w_dC, z1L, z1i, z1W, z1Y, w_d2, z2o, w_d3, z2m, z1Z, z1e, z1J, z1g, z1U, z2p, z1G, z2n, z1V, z1f, z1M, z2q, z1I, z1m, z1R, z1K, z1N, z1c, zL, z1a, z1Q, z1S, zN, z1j, zP, zM, z19, z1h, z1l, z1d, zR, z16, z1O, z18, z1n, zK, z17, z15, zO, zI, z1k, z2r, z1X, z1b, zH, z1w, z2K, z1F, w_ok, z2v, z1x, z2l, z27, z1C, z2h, z23, z2g, z1s, zU, z12, z28, z2b, z2c, z20, z2k, z21, z2i, z2F, z2D, z2B, z2L, z2y, z2H, z2t, z2A, z29, z1P, z1H, z2f, z14, z1r, Int.reduceToNat, Int.reduceLE, Int.reduceLT, Int.reduceNeg, startD, List.map_cons, List.map_nil, List.length_cons, List.length_nil, List.replicate, List.cons_append, List.nil_append, List.getElem?_cons_zero, List.getElem?_cons_succ, List.set_cons_zero, List.set_cons_succ, Nat.reduceAdd, Nat.reduceSub, Nat.reduceEqDiff, if_true, if_false, Bool.false_eq_true, decide_true, decide_false, Int.reduceEq, Int.reduceAdd, Int.reduceSub, Int.reduceMul, Bool.not_true, Bool.not_false, c_0, c_1, c_2, c_3, c_4, c_5, c_6, c_7, c_8, c_9, c_10, c_11, c_12, sz_0, sz_1, sz_2, sz_3, sz_4, sz_5, sz_6, sz_7, sz_8, sz_9, z2J, z2I, z2E, z2s, z2x, z2z, z2w, Bool.true_eq_false, eq_self, za, zb, z4, z7, z5, z3, zw, zy, zi, zr, zp, z8, zn, zj, ze, zg, zh, z6, zz, zu, zf, zq, zo, z9, zD, zE, zm, zt, zA, zc, zG, zB, zl, zv, zx, zd, z2j, z2a, zS, z1E, z1q, z25, z2C, z2u, z2G, zY, z26, z2d, zT, z1p, z1D, z24, z1o, zF, z1u, zQ, z1t, z1B, zC, zX, z10, z2e, z22, z1z, z1A, z1y, zV, z11, z1v, zJ, zW, zZ, wipeD, gTupD, pkD, rsD, inD, has_bt]
            exact ⟨trivial, trivial, trivial, fun _ => ⟨trivial, trivial⟩⟩
          · intro q _ _
            exact gd_blw (n := 1) _ (gd_tup sW_gd0)
        simp only [getE_none hm, z1T, w_dC, z1L, z1i, z1W, z1Y, w_d2, z2o, w_d3, z2m, z1Z, z1e, z1J, z1g, z1U, z2p, z1G, z2n, z1V, z1f, z1M, z2q, z1I, z1m, z1R, z1K, z1N, z1c, zL, z1a, z1Q, z1S, zN, z1j, zP, zM, z19, z1h, z1l, z1d, zR, z16, z1O, z18, z1n, zK, z17, z15, zO, zI, z1k, z2r, z1X, z1b, zH, z1w, z2K, z1F, w_ok, z2v, z1x, z2l, z27, z1C, z2h, z23, z2g, z1s, zU, z12, z28, z2b, z2c, z20, z2k, z21, z2i, z2F, z2D, z2B, z2L, z2y, z2H, z2t, z2A, z29, z1P, z1H, z2f, z14, z1r, Int.reduceToNat, Int.reduceLE, Int.reduceLT, Int.reduceNeg, startD, List.map_cons, List.map_nil, List.length_cons, List.length_nil, List.replicate, List.cons_append, List.nil_append, List.getElem?_cons_zero, List.getElem?_cons_succ, List.set_cons_zero, List.set_cons_succ, Nat.reduceAdd, Nat.reduceSub, Nat.reduceEqDiff, if_true, if_false, Bool.false_eq_true, decide_true, decide_false, Int.reduceEq, Int.reduceAdd, Int.reduceSub, Int.reduceMul, Bool.not_true, Bool.not_false, c_0, c_1, c_2, c_3, c_4, c_5, c_6, c_7, c_8, c_9, c_10, c_11, c_12, sz_0, sz_1, sz_2, sz_3, sz_4, sz_5, sz_6, sz_7, sz_8, sz_9, z2J, z2I, z2E, z2s, z2x, z2z, z2w, Bool.true_eq_false, eq_self, za, zb, z4, z7, z5, z3, zw, zy, zi, zr, zp, z8, zn, zj, ze, zg, zh, z6, zz, zu, zf, zq, zo, z9, zD, zE, zm, zt, zA, zc, zG, zB, zl, zv, zx, zd, z2j, z2a, zS, z1E, z1q, z25, z2C, z2u, z2G, zY, z26, z2d, zT, z1p, z1D, z24, z1o, zF, z1u, zQ, z1t, z1B, zC, zX, z10, z2e, z22, z1z, z1A, z1y, zV, z11, z1v, zJ, zW, zZ, Option.isSome_none, Bool.not_false, hsome]
        refine compS (ps.filter fun q => decide (b ∈ q.2)) (fun q => .tup (q.2.map sW)) (fun pre ys S' => ∃ kn', S' = S.set k (.dic 2 (kvE rsD kn')) ∧ KN ps base kn' ∧ (∀ p ∈ kn', p ∈ kn ∨ p.1.length < (b :: r).length) ∧ ys = pre.map fun q => .int ((mn ps (lft (b :: r) q.2) : Nat) : Int)) ?_ (Nat.le_trans (List.length_filter_le _ _) (szn (by omega))) ?_ ?_ ?_
        · simp only [z1T, w_dC, z1L, z1i, z1W, z1Y, w_d2, z2o, w_d3, z2m, z1Z, z1e, z1J, z1g, z1U, z2p, z1G, z2n, z1V, z1f, z1M, z2q, z1I, z1m, z1R, z1K, z1N, z1c, zL, z1a, z1Q, z1S, zN, z1j, zP, zM, z19, z1h, z1l, z1d, zR, z16, z1O, z18, z1n, zK, z17, z15, zO, zI, z1k, z2r, z1X, z1b, zH, z1w, z2K, z1F, w_ok, z2v, z1x, z2l, z27, z1C, z2h, z23, z2g, z1s, zU, z12, z28, z2b, z2c, z20, z2k, z21, z2i, z2F, z2D, z2B, z2L, z2y, z2H, z2t, z2A, z29, z1P, z1H, z2f, z14, z1r, Int.reduceToNat, Int.reduceLE, Int.reduceLT, Int.reduceNeg, startD, List.map_cons, List.map_nil, List.length_cons, List.length_nil, List.replicate, List.cons_append, List.nil_append, List.getElem?_cons_zero, List.getElem?_cons_succ, List.set_cons_zero, List.set_cons_succ, Nat.reduceAdd, Nat.reduceSub, Nat.reduceEqDiff, if_true, if_false, Bool.false_eq_true, decide_true, decide_false, Int.reduceEq, Int.reduceAdd, Int.reduceSub, Int.reduceMul, Bool.not_true, Bool.not_false, c_0, c_1, c_2, c_3, c_4, c_5, c_6, c_7, c_8, c_9, c_10, c_11, c_12, sz_0, sz_1, sz_2, sz_3, sz_4, sz_5, sz_6, sz_7, sz_8, sz_9, z2J, z2I, z2E, z2s, z2x, z2z, z2w, Bool.true_eq_false, eq_self, za, zb, z4, z7, z5, z3, zw, zy, zi, zr, zp, z8, zn, zj, ze, zg, zh, z6, zz, zu, zf, zq, zo, z9, zD, zE, zm, zt, zA, zc, zG, zB, zl, zv, zx, zd, z2j, z2a, zS, z1E, z1q, z25, z2C, z2u, z2G, zY, z26, z2d, zT, z1p, z1D, z24, z1o, zF, z1u, zQ, z1t, z1B, zC, zX, z10, z2e, z22, z1z, z1A, z1y, zV, z11, z1v, zJ, zW, zZ, itemsD]
          exact ⟨by first | rfl | trivial, fun _ => rfl, kn, (set_same hk).symm, K, fun p hp => .inl hp, by first | rfl | trivial⟩
        · rintro pre ys S' ⟨kn', rfl, _⟩
          simp
        · rintro pre q post ys S' o e ⟨kn', rfl, K', up', rfl⟩
          have hq1 : q ∈ ps.filter fun q => decide (b ∈ q.2) := by rw [e]; simp
          have hq2 := of_decide_eq_true (List.mem_filter.mp hq1).2
          have hs' : (S.set k (.dic 2 (kvE rsD kn')) ++ [o])[self]? = some (cvO ps k) := by
            rw [List.getElem?_append_left (by simp; exact (List.getElem?_eq_some_iff.mp hs).1), List.getElem?_set_ne (Ne.symm hsk)]
            exact hs
          have hk' : (S.set k (.dic 2 (kvE rsD kn')) ++ [o])[k]? = some (.dic 2 (kvE rsD kn')) := by
            rw [List.getElem?_append_left (by simpa using hkl)]
            simp [hkl]
          have hlt := lft_lt (rest := b :: r) (List.mem_cons_self) hq2
          obtain ⟨kn2, e2, K2, up2⟩ := ih (rest := lft (b :: r) q.2) (kn := kn') (S := S.set k (.dic 2 (kvE rsD kn')) ++ [o]) (by omega) (lft_sub hsub) K' hs' hk'
          have hs2 : (S.set k (.dic 2 (kvE rsD kn')) ++ [o])[self]? = some (.ins 21 [("marks", .frl (ps.map pkD)), ("known", .ref k)]) := hs'
          have lo := fun (x : D) (S : Sto) => left_ok (x := x) (rest := b :: r) (bs := q.2) (S := S) (by omega)
          simp only [z1T, w_dC, z1L, z1i, z1W, z1Y, w_d2, z2o, w_d3, z2m, z1Z, z1e, z1J, z1g, z1U, z2p, z1G, z2n, z1V, z1f, z1M, z2q, z1I, z1m, z1R, z1K, z1N, z1c, zL, z1a, z1Q, z1S, zN, z1j, zP, zM, z19, z1h, z1l, z1d, zR, z16, z1O, z18, z1n, zK, z17, z15, zO, zI, z1k, z2r, z1X, z1b, zH, z1w, z2K, z1F, w_ok, z2v, z1x, z2l, z27, z1C, z2h, z23, z2g, z1s, zU, z12, z28, z2b, z2c, z20, z2k, z21, z2i, z2F, z2D, z2B, z2L, z2y, z2H, z2t, z2A, z29, z1P, z1H, z2f, z14, z1r, Int.reduceToNat, Int.reduceLE, Int.reduceLT, Int.reduceNeg, startD, List.map_cons, List.map_nil, List.length_cons, List.length_nil, List.replicate, List.cons_append, List.nil_append, List.getElem?_cons_zero, List.getElem?_cons_succ, List.set_cons_zero, List.set_cons_succ, Nat.reduceAdd, Nat.reduceSub, Nat.reduceEqDiff, if_true, if_false, Bool.false_eq_true, decide_true, decide_false, Int.reduceEq, Int.reduceAdd, Int.reduceSub, Int.reduceMul, Bool.not_true, Bool.not_false, c_0, c_1, c_2, c_3, c_4, c_5, c_6, c_7, c_8, c_9, c_10, c_11, c_12, sz_0, sz_1, sz_2, sz_3, sz_4, sz_5, sz_6, sz_7, sz_8, sz_9, z2J, z2I, z2E, z2s, z2x, z2z, z2w, Bool.true_eq_false, eq_self, za, zb, z4, z7, z5, z3, zw, zy, zi, zr, zp, z8, zn, zj, ze, zg, zh, z6, zz, zu, zf, zq, zo, z9, zD, zE, zm, zt, zA, zc, zG, zB, zl, zv, zx, zd, z2j, z2a, zS, z1E, z1q, z25, z2C, z2u, z2G, zY, z26, z2d, zT, z1p, z1D, z24, z1o, zF, z1u, zQ, z1t, z1B, zC, zX, z10, z2e, z22, z1z, z1A, z1y, zV, z11, z1v, zJ, zW, zZ, wipeD, hs2, lk_many, lk_left, and_self, lo, e2]
          refine ⟨trivial, trivial, trivial, S.set k (.dic 2 (kvE rsD kn2)), ?_, kn2, rfl, K2, fun p hp => ?_, by simp⟩
          · rw [List.set_append_left _ _ (by simpa using hkl), List.set_set]
          · rcases up2 p hp with h | h
            · exact up' p h
            · exact .inr (Nat.lt_of_le_of_lt h hlt)
        · rintro ys S' hl ⟨kn', rfl, K', up', rfl⟩
          refine ⟨?_, ?_, ?_⟩
          · have := cutOk_set S [] k (.dic 2 (kvE rsD kn')) (kn_blw K')
            rw [List.append_nil] at this
            exact this
          · exact gd_blws (n := 0) _ fun d hd => by
              obtain ⟨q, _, rfl⟩ := List.mem_map.mp hd
              exact gd_int
          · have hk' : (S.set k (.dic 2 (kvE rsD kn')))[k]? = some (.dic 2 (kvE rsD kn')) := by simp [hkl]
            have hs' : (S.set k (.dic 2 (kvE rsD kn')))[self]? = some (cvO ps k) := by
              rw [List.getElem?_set_ne (Ne.symm hsk)]
              exact hs
            have hnot : (b :: r) ∉ kn'.map (·.1) := fun z => by
              obtain ⟨p, hp, e⟩ := List.mem_map.mp z
              rcases up' p hp with h | h
              · exact hm (List.mem_map.mpr ⟨p, h, e⟩)
              · rw [e] at h
                exact Nat.lt_irrefl _ h
            have ne0 : ((ps.filter fun q => decide (b ∈ q.2)).map fun q => mn ps (lft (b :: r) q.2)) ≠ [] := fun z => by
              obtain ⟨q, hq, hbq⟩ := hc b (hsub.subset (List.mem_cons_self))
              have : mn ps (lft (b :: r) q.2) ∈ ([] : List Nat) := by
                rw [← z]
                exact List.mem_map.mpr ⟨q, List.mem_filter.mpr ⟨hq, decide_eq_true hbq⟩, rfl⟩
              cases this
            have el : (ps.filter fun q => decide (b ∈ q.2)).map (fun q => D.int ((mn ps (lft (b :: r) q.2) : Nat) : Int)) = ((ps.filter fun q => decide (b ∈ q.2)).map fun q => mn ps (lft (b :: r) q.2)).map fun (n : Nat) => D.int ((n : Nat) : Int) := by rw [List.map_map]; rfl
            have ev : (1 : Int) + ((mnL ((ps.filter fun q => decide (b ∈ q.2)).map fun q => mn ps (lft (b :: r) q.2)) : Nat) : Int) = ((mn ps (b :: r) : Nat) : Int) := by
              rw [mn_cons]
              omega
            have few := K'.few hb
            rw [el]
            simp only [z1T, w_dC, z1L, z1i, z1W, z1Y, w_d2, z2o, w_d3, z2m, z1Z, z1e, z1J, z1g, z1U, z2p, z1G, z2n, z1V, z1f, z1M, z2q, z1I, z1m, z1R, z1K, z1N, z1c, zL, z1a, z1Q, z1S, zN, z1j, zP, zM, z19, z1h, z1l, z1d, zR, z16, z1O, z18, z1n, zK, z17, z15, zO, zI, z1k, z2r, z1X, z1b, zH, z1w, z2K, z1F, w_ok, z2v, z1x, z2l, z27, z1C, z2h, z23, z2g, z1s, zU, z12, z28, z2b, z2c, z20, z2k, z21, z2i, z2F, z2D, z2B, z2L, z2y, z2H, z2t, z2A, z29, z1P, z1H, z2f, z14, z1r, Int.reduceToNat, Int.reduceLE, Int.reduceLT, Int.reduceNeg, startD, List.map_cons, List.map_nil, List.length_cons, List.length_nil, List.replicate, List.cons_append, List.nil_append, List.getElem?_cons_zero, List.getElem?_cons_succ, List.set_cons_zero, List.set_cons_succ, Nat.reduceAdd, Nat.reduceSub, Nat.reduceEqDiff, if_true, if_false, Bool.false_eq_true, decide_true, decide_false, Int.reduceEq, Int.reduceAdd, Int.reduceSub, Int.reduceMul, Bool.not_true, Bool.not_false, c_0, c_1, c_2, c_3, c_4, c_5, c_6, c_7, c_8, c_9, c_10, c_11, c_12, sz_0, sz_1, sz_2, sz_3, sz_4, sz_5, sz_6, sz_7, sz_8, sz_9, z2J, z2I, z2E, z2s, z2x, z2z, z2w, Bool.true_eq_false, eq_self, za, zb, z4, z7, z5, z3, zw, zy, zi, zr, zp, z8, zn, zj, ze, zg, zh, z6, zz, zu, zf, zq, zo, z9, zD, zE, zm, zt, zA, zc, zG, zB, zl, zv, zx, zd, z2j, z2a, zS, z1E, z1q, z25, z2C, z2u, z2G, zY, z26, z2d, zT, z1p, z1D, z24, z1o, zF, z1u, zQ, z1t, z1B, zC, zX, z10, z2e, z22, z1z, z1A, z1y, zV, z11, z1v, zJ, zW, zZ, minIs_ok ne0, ev, cv_known hs']
            rw [w_setN hk' (rsD_nok _) (szn (by simp [kvE]; omega)), putD_E rsD_inj hnot, List.set_set]
            have K2 : KN ps base (kn' ++ [(b :: r, .int ((mn ps (b :: r) : Nat) : Int))]) := by
              refine ⟨fun p hp => ?_, ?_, ?_⟩
              · rcases List.mem_append.mp hp with h | h
                · exact K'.val p h
                · rw [List.mem_singleton] at h
                  rw [h]
                  exact ⟨rfl, hsub⟩
              · rw [List.map_append, List.nodup_append]
                refine ⟨K'.nd, by simp, fun x hx y hy e => ?_⟩
                have : y = b :: r := by simpa using hy
                rw [e, this] at hx
                exact hnot hx
              · rw [List.map_append]
                exact List.mem_append.mpr (.inl K'.nil)
            have hs3 : (S.set k (.dic 2 (kvE rsD (kn' ++ [(b :: r, .int ((mn ps (b :: r) : Nat) : Int))]))))[self]? = some (cvO ps k) := by
              rw [List.getElem?_set_ne (Ne.symm hsk)]
              exact hs
            have hk3 : (S.set k (.dic 2 (kvE rsD (kn' ++ [(b :: r, .int ((mn ps (b :: r) : Nat) : Int))]))))[k]? = some (.dic 2 (kvE rsD (kn' ++ [(b :: r, .int ((mn ps (b :: r) : Nat) : Int))]))) := by simp [hkl]
            simp only [z1T, w_dC, z1L, z1i, z1W, z1Y, w_d2, z2o, w_d3, z2m, z1Z, z1e, z1J, z1g, z1U, z2p, z1G, z2n, z1V, z1f, z1M, z2q, z1I, z1m, z1R, z1K, z1N, z1c, zL, z1a, z1Q, z1S, zN, z1j, zP, zM, z19, z1h, z1l, z1d, zR, z16, z1O, z18, z1n, zK, z17, z15, zO, zI, z1k, z2r, z1X, z1b, zH, z1w, z2K, z1F, w_ok, z2v, z1x, z2l, z27, z1C, z2h, z23, z2g, z1s, zU, z12, z28, z2b, z2c, z20, z2k, z21, z2i, z2F, z2D, z2B, z2L, z2y, z2H, z2t, z2A, z29, z1P, z1H, z2f, z14, z1r, Int.reduceToNat, Int.reduceLE, Int.reduceLT, Int.reduceNeg, startD, List.map_cons, List.map_nil, List.length_cons, List.length_nil, List.replicate, List.cons_append, List.nil_append, List.getElem?_cons_zero, List.getElem?_cons_succ, List.set_cons_zero, List.set_cons_succ, Nat.reduceAdd, Nat.reduceSub, Nat.reduceEqDiff, if_true, if_false, Bool.false_eq_true, decide_true, decide_false, Int.reduceEq, Int.reduceAdd, Int.reduceSub, Int.reduceMul, Bool.not_true, Bool.not_false, c_0, c_1, c_2, c_3, c_4, c_5, c_6, c_7, c_8, c_9, c_10, c_11, c_12, sz_0, sz_1, sz_2, sz_3, sz_4, sz_5, sz_6, sz_7, sz_8, sz_9, z2J, z2I, z2E, z2s, z2x, z2z, z2w, Bool.true_eq_false, eq_self, za, zb, z4, z7, z5, z3, zw, zy, zi, zr, zp, z8, zn, zj, ze, zg, zh, z6, zz, zu, zf, zq, zo, z9, zD, zE, zm, zt, zA, zc, zG, zB, zl, zv, zx, zd, z2j, z2a, zS, z1E, z1q, z25, z2C, z2u, z2G, zY, z26, z2d, zT, z1p, z1D, z24, z1o, zF, z1u, zQ, z1t, z1B, zC, zX, z10, z2e, z22, z1z, z1A, z1y, zV, z11, z1v, zJ, zW, zZ, cv_known hs3]
            rw [w_ixN (dicN_at hk3 (rsD_nok _) |>.trans (by rw [getK_E rsD_inj, getE_some K2 (by simp)]))]
            refine ⟨rfl, _, ⟨[], by rw [List.append_nil]⟩, K2, fun p hp => ?_⟩
            rcases List.mem_append.mp hp with h | h
            · rcases up' p h with h | h
              · exact .inl h
              · exact .inr (Nat.le_of_lt h)
            · rw [List.mem_singleton] at h
              rw [h]
              exact .inr (Nat.le_refl _)
    obtain ⟨d, S', e, rfl, kn', ⟨T, rfl⟩, K', up⟩ := Wp.ok main
    refine ⟨kn', ?_, K', up⟩
    show cutF (dFn 5 (b_Cover_many (F_Cover_many n))) [.ref self, rsD rest] S = _
    unfold cutF
    rw [e, cut_set rfl (kn_blw K')]

theorem fsF_eq {ps : List Pk} : ∀ (n m : Nat) {rest : List Bt}, rest.length ≤ n → rest.length ≤ m → fsF ps n rest = fsF ps m rest
  | 0, m, rest, h, _ => by
    have : rest = [] := List.length_eq_zero_iff.mp (by omega)
    subst this
    cases m <;> rfl
  | n + 1, 0, rest, _, h => by
    have : rest = [] := List.length_eq_zero_iff.mp (by omega)
    subst this
    rfl
  | n + 1, m + 1, rest, h1, h2 => by
    unfold fsF
    by_cases e : rest = []
    · rw [if_pos e, if_pos e]
    · rw [if_neg e, if_neg e]
      cases hf : ps.find? (okP ps rest) with
      | none => rfl
      | some q =>
        have hq := List.find?_some hf
        unfold okP at hq
        rw [Bool.and_eq_true] at hq
        have := of_decide_eq_true hq.1
        show q :: fsF ps n (lft rest q.2) = q :: fsF ps m (lft rest q.2)
        rw [fsF_eq n m (by omega) (by omega)]
theorem fs_step {ps : List Pk} {rest : List Bt} {q : Pk} (hne : rest ≠ []) (h : ps.find? (okP ps rest) = some q) : fs ps rest = q :: fs ps (lft rest q.2) := by
  have hq := List.find?_some h
  unfold okP at hq
  rw [Bool.and_eq_true] at hq
  have hl := of_decide_eq_true hq.1
  have hpos : 0 < rest.length := by omega
  unfold fs
  obtain ⟨n, hn⟩ : ∃ n, rest.length = n + 1 := ⟨rest.length - 1, by omega⟩
  rw [hn]
  show (if rest = [] then [] else match ps.find? (okP ps rest) with | some q => q :: fsF ps n (lft rest q.2) | none => []) = _
  rw [if_neg hne, h]
  show q :: fsF ps n (lft rest q.2) = _
  rw [fsF_eq n (lft rest q.2).length (by omega) (Nat.le_refl _)]
theorem find_at {α : Type} {f : α → Bool} {l pre post : List α} {q : α} (e : l = pre ++ q :: post) (h : ∀ x ∈ pre, f x = false) (hq : f q = true) : l.find? f = some q := by
  rw [e, List.find?_append, List.find?_eq_none.mpr (fun x hx => by rw [h x hx]; simp)]
  simp [List.find?_cons, hq]
theorem first_raw {ps : List Pk} {base : List Bt} {self k : Nat} {kn : List (List Bt × D)} {S : Sto} (hb : base.length ≤ 16) (hps : ps.length ≤ 1000) (hq : ∀ q ∈ ps, q.2.length ≤ 100) (hc : Cov ps base) (hsk : self ≠ k) (K : KN ps base kn) (hs : S[self]? = some (cvO ps k)) (hk : S[k]? = some (.dic 2 (kvE rsD kn))) :
    ∃ kn', Fr_Cover_first [.ref self, rsD base] S = .ok (.ref S.length) (S.set k (.dic 2 (kvE rsD kn')) ++ [.lst ((fs ps base).map fun q => mW q.1)]) ∧ KN ps base kn' := by
  have hkl : k < S.length := (List.getElem?_eq_some_iff.mp hk).1
  have hsl : self < S.length := (List.getElem?_eq_some_iff.mp hs).1
  have main : Wp (dFn 6 br_Cover_first [.ref self, rsD base] S) (fun d S' => d = .ref S.length ∧ ∃ kn', S' = S.set k (.dic 2 (kvE rsD kn')) ++ [.lst ((fs ps base).map fun q => mW q.1)] ∧ KN ps base kn') NX := by
    rw [z2l]
    unfold br_Cover_first
    simp only [z1T, w_dC, z1L, z1i, z1W, z1Y, w_d2, z2o, w_d3, z2m, z1Z, z1e, z1J, z1g, z1U, z2p, z1G, z2n, z1V, z1f, z1M, z2q, z1I, z1m, z1R, z1K, z1N, z1c, zL, z1a, z1Q, z1S, zN, z1j, zP, zM, z19, z1h, z1l, z1d, zR, z16, z1O, z18, z1n, zK, z17, z15, zO, zI, z1k, z2r, z1X, z1b, zH, z1w, z2K, z1F, w_ok, z2v, z1x, z2l, z27, z1C, z2h, z23, z2g, z1s, zU, z12, z28, z2b, z2c, z20, z2k, z21, z2i, z2F, z2D, z2B, z2L, z2y, z2H, z2t, z2A, z29, z1P, z1H, z2f, z14, z1r, Int.reduceToNat, Int.reduceLE, Int.reduceLT, Int.reduceNeg, startD, List.map_cons, List.map_nil, List.length_cons, List.length_nil, List.replicate, List.cons_append, List.nil_append, List.getElem?_cons_zero, List.getElem?_cons_succ, List.set_cons_zero, List.set_cons_succ, Nat.reduceAdd, Nat.reduceSub, Nat.reduceEqDiff, if_true, if_false, Bool.false_eq_true, decide_true, decide_false, Int.reduceEq, Int.reduceAdd, Int.reduceSub, Int.reduceMul, Bool.not_true, Bool.not_false, c_0, c_1, c_2, c_3, c_4, c_5, c_6, c_7, c_8, c_9, c_10, c_11, c_12, sz_0, sz_1, sz_2, sz_3, sz_4, sz_5, sz_6, sz_7, sz_8, sz_9, z2J, z2I, z2E, z2s, z2x, z2z, z2w, Bool.true_eq_false, eq_self, za, zb, z4, z7, z5, z3, zw, zy, zi, zr, zp, z8, zn, zj, ze, zg, zh, z6, zz, zu, zf, zq, zo, z9, zD, zE, zm, zt, zA, zc, zG, zB, zl, zv, zx, zd, z2j, z2a, zS, z1E, z1q, z25, z2C, z2u, z2G, zY, z26, z2d, zT, z1p, z1D, z24, z1o, zF, z1u, zQ, z1t, z1B, zC, zX, z10, z2e, z22, z1z, z1A, z1y, zV, z11, z1v, zJ, zW, zZ]
    have at_s : ∀ (kn' : List (List Bt × D)) (L : List D), (S.set k (.dic 2 (kvE rsD kn')) ++ [DO.lst L])[self]? = some (.ins 21 [("marks", .frl (ps.map pkD)), ("known", .ref k)]) := fun kn' L => by
      rw [List.getElem?_append_left (by simpa using hsl), List.getElem?_set_ne (Ne.symm hsk)]
      exact hs
    have at_k : ∀ (kn' : List (List Bt × D)) (L : List D), (S.set k (.dic 2 (kvE rsD kn')) ++ [DO.lst L])[k]? = some (.dic 2 (kvE rsD kn')) := fun kn' L => by
      rw [List.getElem?_append_left (by simpa using hkl)]
      simp [hkl]
    have at_l : ∀ (kn' : List (List Bt × D)) (L : List D), (S.set k (.dic 2 (kvE rsD kn')) ++ [DO.lst L])[S.length]? = some (.lst L) := fun kn' L => by
      have e : S.length = (S.set k (.dic 2 (kvE rsD kn'))).length := by simp
      rw [e]
      exact get_last
    have set_k : ∀ (kn' kn2 : List (List Bt × D)) (L : List D), (S.set k (.dic 2 (kvE rsD kn')) ++ [DO.lst L]).set k (.dic 2 (kvE rsD kn2)) = S.set k (.dic 2 (kvE rsD kn2)) ++ [DO.lst L] := fun kn' kn2 L => by
      rw [List.set_append_left _ _ (by simpa using hkl), List.set_set]
    have set_l : ∀ (kn' : List (List Bt × D)) (L L' : List D), (S.set k (.dic 2 (kvE rsD kn')) ++ [DO.lst L]).set S.length (.lst L') = S.set k (.dic 2 (kvE rsD kn')) ++ [DO.lst L'] := fun kn' L L' => by
      have e : S.length = (S.set k (.dic 2 (kvE rsD kn'))).length := by simp
      rw [e]
      exact set_last
    have mk := fun (kn' : List (List Bt × D)) (L : List D) (rest : List Bt) (h1 : rest.Sublist base) (K' : KN ps base kn') => many_ok (self := self) hb hps hq hc hsk 40 (rest := rest) (kn := kn') (S := S.set k (.dic 2 (kvE rsD kn')) ++ [DO.lst L]) (by have := h1.length_le; omega) h1 K' (at_s kn' L) (at_k kn' L)
    refine w_while (fun n sd S' => ∃ (rest : List Bt) (out : List Pk) (kn' : List (List Bt × D)) (a3 a4 a5 : Option D), S' = S.set k (.dic 2 (kvE rsD kn')) ++ [.lst (out.map fun q => mW q.1)] ∧ KN ps base kn' ∧ rest.Sublist base ∧ out ++ fs ps rest = fs ps base ∧ out.length + rest.length ≤ base.length ∧ n = rest.length ∧ sd = [some (.ref self), some (rsD rest), some (.ref S.length), a3, a4, a5]) ?_ fuelW base.length _ _ (by unfold fuelW; omega) ⟨base, [], kn, _, _, _, by rw [set_same hk]; rfl, K, List.Sublist.refl _, rfl, by simp, rfl, rfl⟩
    rintro n sd S' ⟨rest, out, kn', a3, a4, a5, rfl, K', hsub, hfs, hlen, rfl, rfl⟩
    have hrl := hsub.length_le
    have gr : GD 1 (rsD rest) := gd_tup sW_gd0
    simp only [z1T, w_dC, z1L, z1i, z1W, z1Y, w_d2, z2o, w_d3, z2m, z1Z, z1e, z1J, z1g, z1U, z2p, z1G, z2n, z1V, z1f, z1M, z2q, z1I, z1m, z1R, z1K, z1N, z1c, zL, z1a, z1Q, z1S, zN, z1j, zP, zM, z19, z1h, z1l, z1d, zR, z16, z1O, z18, z1n, zK, z17, z15, zO, zI, z1k, z2r, z1X, z1b, zH, z1w, z2K, z1F, w_ok, z2v, z1x, z2l, z27, z1C, z2h, z23, z2g, z1s, zU, z12, z28, z2b, z2c, z20, z2k, z21, z2i, z2F, z2D, z2B, z2L, z2y, z2H, z2t, z2A, z29, z1P, z1H, z2f, z14, z1r, Int.reduceToNat, Int.reduceLE, Int.reduceLT, Int.reduceNeg, startD, List.map_cons, List.map_nil, List.length_cons, List.length_nil, List.replicate, List.cons_append, List.nil_append, List.getElem?_cons_zero, List.getElem?_cons_succ, List.set_cons_zero, List.set_cons_succ, Nat.reduceAdd, Nat.reduceSub, Nat.reduceEqDiff, if_true, if_false, Bool.false_eq_true, decide_true, decide_false, Int.reduceEq, Int.reduceAdd, Int.reduceSub, Int.reduceMul, Bool.not_true, Bool.not_false, c_0, c_1, c_2, c_3, c_4, c_5, c_6, c_7, c_8, c_9, c_10, c_11, c_12, sz_0, sz_1, sz_2, sz_3, sz_4, sz_5, sz_6, sz_7, sz_8, sz_9, z2J, z2I, z2E, z2s, z2x, z2z, z2w, Bool.true_eq_false, eq_self, za, zb, z4, z7, z5, z3, zw, zy, zi, zr, zp, z8, zn, zj, ze, zg, zh, z6, zz, zu, zf, zq, zo, z9, zD, zE, zm, zt, zA, zc, zG, zB, zl, zv, zx, zd, z2j, z2a, zS, z1E, z1q, z25, z2C, z2u, z2G, zY, z26, z2d, zT, z1p, z1D, z24, z1o, zF, z1u, zQ, z1t, z1B, zC, zX, z10, z2e, z22, z1z, z1A, z1y, zV, z11, z1v, zJ, zW, zZ]
    rw [w_neG gr (gd_tup (n := 0) fun d hd => by cases hd)]
    by_cases hnil : rest = []
    · subst hnil
      have e0 : rsD [] = .tup [] := rfl
      have hfin : fs ps [] = [] := rfl
      rw [hfin, List.append_nil] at hfs
      simp only [z1T, w_dC, z1L, z1i, z1W, z1Y, w_d2, z2o, w_d3, z2m, z1Z, z1e, z1J, z1g, z1U, z2p, z1G, z2n, z1V, z1f, z1M, z2q, z1I, z1m, z1R, z1K, z1N, z1c, zL, z1a, z1Q, z1S, zN, z1j, zP, zM, z19, z1h, z1l, z1d, zR, z16, z1O, z18, z1n, zK, z17, z15, zO, zI, z1k, z2r, z1X, z1b, zH, z1w, z2K, z1F, w_ok, z2v, z1x, z2l, z27, z1C, z2h, z23, z2g, z1s, zU, z12, z28, z2b, z2c, z20, z2k, z21, z2i, z2F, z2D, z2B, z2L, z2y, z2H, z2t, z2A, z29, z1P, z1H, z2f, z14, z1r, Int.reduceToNat, Int.reduceLE, Int.reduceLT, Int.reduceNeg, startD, List.map_cons, List.map_nil, List.length_cons, List.length_nil, List.replicate, List.cons_append, List.nil_append, List.getElem?_cons_zero, List.getElem?_cons_succ, List.set_cons_zero, List.set_cons_succ, Nat.reduceAdd, Nat.reduceSub, Nat.reduceEqDiff, if_true, if_false, Bool.false_eq_true, decide_true, decide_false, Int.reduceEq, Int.reduceAdd, Int.reduceSub, Int.reduceMul, Bool.not_true, Bool.not_false, c_0, c_1, c_2, c_3, c_4, c_5, c_6, c_7, c_8, c_9, c_10, c_11, c_12, sz_0, sz_1, sz_2, sz_3, sz_4, sz_5, sz_6, sz_7, sz_8, sz_9, z2J, z2I, z2E, z2s, z2x, z2z, z2w, Bool.true_eq_false, eq_self, za, zb, z4, z7, z5, z3, zw, zy, zi, zr, zp, z8, zn, zj, ze, zg, zh, z6, zz, zu, zf, zq, zo, z9, zD, zE, zm, zt, zA, zc, zG, zB, zl, zv, zx, zd, z2j, z2a, zS, z1E, z1q, z25, z2C, z2u, z2G, zY, z26, z2d, zT, z1p, z1D, z24, z1o, zF, z1u, zQ, z1t, z1B, zC, zX, z10, z2e, z22, z1z, z1A, z1y, zV, z11, z1v, zJ, zW, zZ, e0, decide_true]
      exact ⟨trivial, kn', by rw [hfs], K'⟩
    · have hne : ¬ rsD rest = .tup [] := fun z => hnil (by unfold rsD at z; simpa using z)
      have hcr : Cov ps rest := fun b hb => hc b (hsub.subset hb)
      obtain ⟨q0, hf, hq0, hlt0, hmn0⟩ := okP_some hnil hcr
      simp only [z1T, w_dC, z1L, z1i, z1W, z1Y, w_d2, z2o, w_d3, z2m, z1Z, z1e, z1J, z1g, z1U, z2p, z1G, z2n, z1V, z1f, z1M, z2q, z1I, z1m, z1R, z1K, z1N, z1c, zL, z1a, z1Q, z1S, zN, z1j, zP, zM, z19, z1h, z1l, z1d, zR, z16, z1O, z18, z1n, zK, z17, z15, zO, zI, z1k, z2r, z1X, z1b, zH, z1w, z2K, z1F, w_ok, z2v, z1x, z2l, z27, z1C, z2h, z23, z2g, z1s, zU, z12, z28, z2b, z2c, z20, z2k, z21, z2i, z2F, z2D, z2B, z2L, z2y, z2H, z2t, z2A, z29, z1P, z1H, z2f, z14, z1r, Int.reduceToNat, Int.reduceLE, Int.reduceLT, Int.reduceNeg, startD, List.map_cons, List.map_nil, List.length_cons, List.length_nil, List.replicate, List.cons_append, List.nil_append, List.getElem?_cons_zero, List.getElem?_cons_succ, List.set_cons_zero, List.set_cons_succ, Nat.reduceAdd, Nat.reduceSub, Nat.reduceEqDiff, if_true, if_false, Bool.false_eq_true, decide_true, decide_false, Int.reduceEq, Int.reduceAdd, Int.reduceSub, Int.reduceMul, Bool.not_true, Bool.not_false, c_0, c_1, c_2, c_3, c_4, c_5, c_6, c_7, c_8, c_9, c_10, c_11, c_12, sz_0, sz_1, sz_2, sz_3, sz_4, sz_5, sz_6, sz_7, sz_8, sz_9, z2J, z2I, z2E, z2s, z2x, z2z, z2w, Bool.true_eq_false, eq_self, za, zb, z4, z7, z5, z3, zw, zy, zi, zr, zp, z8, zn, zj, ze, zg, zh, z6, zz, zu, zf, zq, zo, z9, zD, zE, zm, zt, zA, zc, zG, zB, zl, zv, zx, zd, z2j, z2a, zS, z1E, z1q, z25, z2C, z2u, z2G, zY, z26, z2d, zT, z1p, z1D, z24, z1o, zF, z1u, zQ, z1t, z1B, zC, zX, z10, z2e, z22, z1z, z1A, z1y, zV, z11, z1v, zJ, zW, zZ, decide_eq_false hne, cv_marks (at_s _ _), itemsD]
      refine w_loopP pkD (fun pre sd S' => (∀ q ∈ pre, okP ps rest q = false) ∧ ∃ (kn' : List (List Bt × D)) (a3 a4 a5 : Option D), S' = S.set k (.dic 2 (kvE rsD kn')) ++ [.lst (out.map fun q => mW q.1)] ∧ KN ps base kn' ∧ sd = [some (.ref self), some (rsD rest), some (.ref S.length), a3, a4, a5]) ps (fun _ _ _ _ _ _ => rfl) ⟨fun q hq => (by cases hq), kn', _, _, _, rfl, K', rfl⟩ ?_ ?_
      · rintro sd S' ⟨hall, _⟩
        have h1 := hall q0 hq0
        have h2 := List.find?_some hf
        rw [h1] at h2
        cases h2
      · rintro pre q post sd S' ep ⟨hall, kn', a3, a4, a5, rfl, K', rfl⟩
        have hqm : q ∈ ps := by rw [ep]; simp
        have lo := fun (x : D) (S : Sto) => left_ok (x := x) (rest := rest) (bs := q.2) (S := S) (by omega)
        have len_rs : ∀ (r : List Bt) (S : Sto), lenD [rsD r] S = .ok (.int ((r.length : Nat) : Int)) S := fun r S => by
          show Res.ok (D.int (((r.map sW).length : Nat) : Int)) S = _
          rw [List.length_map]
        simp only [z1T, w_dC, z1L, z1i, z1W, z1Y, w_d2, z2o, w_d3, z2m, z1Z, z1e, z1J, z1g, z1U, z2p, z1G, z2n, z1V, z1f, z1M, z2q, z1I, z1m, z1R, z1K, z1N, z1c, zL, z1a, z1Q, z1S, zN, z1j, zP, zM, z19, z1h, z1l, z1d, zR, z16, z1O, z18, z1n, zK, z17, z15, zO, zI, z1k, z2r, z1X, z1b, zH, z1w, z2K, z1F, w_ok, z2v, z1x, z2l, z27, z1C, z2h, z23, z2g, z1s, zU, z12, z28, z2b, z2c, z20, z2k, z21, z2i, z2F, z2D, z2B, z2L, z2y, z2H, z2t, z2A, z29, z1P, z1H, z2f, z14, z1r, Int.reduceToNat, Int.reduceLE, Int.reduceLT, Int.reduceNeg, startD, List.map_cons, List.map_nil, List.length_cons, List.length_nil, List.replicate, List.cons_append, List.nil_append, List.getElem?_cons_zero, List.getElem?_cons_succ, List.set_cons_zero, List.set_cons_succ, Nat.reduceAdd, Nat.reduceSub, Nat.reduceEqDiff, if_true, if_false, Bool.false_eq_true, decide_true, decide_false, Int.reduceEq, Int.reduceAdd, Int.reduceSub, Int.reduceMul, Bool.not_true, Bool.not_false, c_0, c_1, c_2, c_3, c_4, c_5, c_6, c_7, c_8, c_9, c_10, c_11, c_12, sz_0, sz_1, sz_2, sz_3, sz_4, sz_5, sz_6, sz_7, sz_8, sz_9, z2J, z2I, z2E, z2s, z2x, z2z, z2w, Bool.true_eq_false, eq_self, za, zb, z4, z7, z5, z3, zw, zy, zi, zr, zp, z8, zn, zj, ze, zg, zh, z6, zz, zu, zf, zq, zo, z9, zD, zE, zm, zt, zA, zc, zG, zB, zl, zv, zx, zd, z2j, z2a, zS, z1E, z1q, z25, z2C, z2u, z2G, zY, z26, z2d, zT, z1p, z1D, z24, z1o, zF, z1u, zQ, z1t, z1B, zC, zX, z10, z2e, z22, z1z, z1A, z1y, zV, z11, z1v, zJ, zW, zZ, gTupD, pkD, at_s, lk_left, and_self, lo, len_rs]
        have no : okP ps rest q = false → ∀ q' ∈ pre ++ [q], okP ps rest q' = false := fun h q' hq' => by
          rcases List.mem_append.mp hq' with z | z
          · exact hall q' z
          · rw [List.mem_singleton.mp z]
            exact h
        by_cases h1 : (lft rest q.2).length < rest.length
        · have h1' : (((lft rest q.2).length : Nat) : Int) < ((rest.length : Nat) : Int) := by omega
          obtain ⟨kn2, e2, K2, _⟩ := mk kn' (out.map fun q => mW q.1) (lft rest q.2) (lft_sub hsub) K'
          obtain ⟨kn3, e3, K3, _⟩ := mk kn2 (out.map fun q => mW q.1) rest hsub K2
          simp only [decide_eq_true h1', z1T, w_dC, z1L, z1i, z1W, z1Y, w_d2, z2o, w_d3, z2m, z1Z, z1e, z1J, z1g, z1U, z2p, z1G, z2n, z1V, z1f, z1M, z2q, z1I, z1m, z1R, z1K, z1N, z1c, zL, z1a, z1Q, z1S, zN, z1j, zP, zM, z19, z1h, z1l, z1d, zR, z16, z1O, z18, z1n, zK, z17, z15, zO, zI, z1k, z2r, z1X, z1b, zH, z1w, z2K, z1F, w_ok, z2v, z1x, z2l, z27, z1C, z2h, z23, z2g, z1s, zU, z12, z28, z2b, z2c, z20, z2k, z21, z2i, z2F, z2D, z2B, z2L, z2y, z2H, z2t, z2A, z29, z1P, z1H, z2f, z14, z1r, Int.reduceToNat, Int.reduceLE, Int.reduceLT, Int.reduceNeg, startD, List.map_cons, List.map_nil, List.length_cons, List.length_nil, List.replicate, List.cons_append, List.nil_append, List.getElem?_cons_zero, List.getElem?_cons_succ, List.set_cons_zero, List.set_cons_succ, Nat.reduceAdd, Nat.reduceSub, Nat.reduceEqDiff, if_true, if_false, Bool.false_eq_true, decide_true, decide_false, Int.reduceEq, Int.reduceAdd, Int.reduceSub, Int.reduceMul, Bool.not_true, Bool.not_false, c_0, c_1, c_2, c_3, c_4, c_5, c_6, c_7, c_8, c_9, c_10, c_11, c_12, sz_0, sz_1, sz_2, sz_3, sz_4, sz_5, sz_6, sz_7, sz_8, sz_9, z2J, z2I, z2E, z2s, z2x, z2z, z2w, Bool.true_eq_false, eq_self, za, zb, z4, z7, z5, z3, zw, zy, zi, zr, zp, z8, zn, zj, ze, zg, zh, z6, zz, zu, zf, zq, zo, z9, zD, zE, zm, zt, zA, zc, zG, zB, zl, zv, zx, zd, z2j, z2a, zS, z1E, z1q, z25, z2C, z2u, z2G, zY, z26, z2d, zT, z1p, z1D, z24, z1o, zF, z1u, zQ, z1t, z1B, zC, zX, z10, z2e, z22, z1z, z1A, z1y, zV, z11, z1v, zJ, zW, zZ, at_s, lk_many, and_self, e2, set_k]
          simp only [z1T, w_dC, z1L, z1i, z1W, z1Y, w_d2, z2o, w_d3, z2m, z1Z, z1e, z1J, z1g, z1U, z2p, z1G, z2n, z1V, z1f, z1M, z2q, z1I, z1m, z1R, z1K, z1N, z1c, zL, z1a, z1Q, z1S, zN, z1j, zP, zM, z19, z1h, z1l, z1d, zR, z16, z1O, z18, z1n, zK, z17, z15, zO, zI, z1k, z2r, z1X, z1b, zH, z1w, z2K, z1F, w_ok, z2v, z1x, z2l, z27, z1C, z2h, z23, z2g, z1s, zU, z12, z28, z2b, z2c, z20, z2k, z21, z2i, z2F, z2D, z2B, z2L, z2y, z2H, z2t, z2A, z29, z1P, z1H, z2f, z14, z1r, Int.reduceToNat, Int.reduceLE, Int.reduceLT, Int.reduceNeg, startD, List.map_cons, List.map_nil, List.length_cons, List.length_nil, List.replicate, List.cons_append, List.nil_append, List.getElem?_cons_zero, List.getElem?_cons_succ, List.set_cons_zero, List.set_cons_succ, Nat.reduceAdd, Nat.reduceSub, Nat.reduceEqDiff, if_true, if_false, Bool.false_eq_true, decide_true, decide_false, Int.reduceEq, Int.reduceAdd, Int.reduceSub, Int.reduceMul, Bool.not_true, Bool.not_false, c_0, c_1, c_2, c_3, c_4, c_5, c_6, c_7, c_8, c_9, c_10, c_11, c_12, sz_0, sz_1, sz_2, sz_3, sz_4, sz_5, sz_6, sz_7, sz_8, sz_9, z2J, z2I, z2E, z2s, z2x, z2z, z2w, Bool.true_eq_false, eq_self, za, zb, z4, z7, z5, z3, zw, zy, zi, zr, zp, z8, zn, zj, ze, zg, zh, z6, zz, zu, zf, zq, zo, z9, zD, zE, zm, zt, zA, zc, zG, zB, zl, zv, zx, zd, z2j, z2a, zS, z1E, z1q, z25, z2C, z2u, z2G, zY, z26, z2d, zT, z1p, z1D, z24, z1o, zF, z1u, zQ, z1t, z1B, zC, zX, z10, z2e, z22, z1z, z1A, z1y, zV, z11, z1v, zJ, zW, zZ, at_s, lk_many, and_self, e3, set_k]
          by_cases h2 : 1 + mn ps (lft rest q.2) = mn ps rest
          · have h2' : (1 : Int) + ((mn ps (lft rest q.2) : Nat) : Int) = ((mn ps rest : Nat) : Int) := by omega
            have hok : okP ps rest q = true := by unfold okP; rw [decide_eq_true h1, decide_eq_true h2]; rfl
            have hfq : ps.find? (okP ps rest) = some q := find_at ep hall hok
            simp only [decide_eq_true h2', z1T, w_dC, z1L, z1i, z1W, z1Y, w_d2, z2o, w_d3, z2m, z1Z, z1e, z1J, z1g, z1U, z2p, z1G, z2n, z1V, z1f, z1M, z2q, z1I, z1m, z1R, z1K, z1N, z1c, zL, z1a, z1Q, z1S, zN, z1j, zP, zM, z19, z1h, z1l, z1d, zR, z16, z1O, z18, z1n, zK, z17, z15, zO, zI, z1k, z2r, z1X, z1b, zH, z1w, z2K, z1F, w_ok, z2v, z1x, z2l, z27, z1C, z2h, z23, z2g, z1s, zU, z12, z28, z2b, z2c, z20, z2k, z21, z2i, z2F, z2D, z2B, z2L, z2y, z2H, z2t, z2A, z29, z1P, z1H, z2f, z14, z1r, Int.reduceToNat, Int.reduceLE, Int.reduceLT, Int.reduceNeg, startD, List.map_cons, List.map_nil, List.length_cons, List.length_nil, List.replicate, List.cons_append, List.nil_append, List.getElem?_cons_zero, List.getElem?_cons_succ, List.set_cons_zero, List.set_cons_succ, Nat.reduceAdd, Nat.reduceSub, Nat.reduceEqDiff, if_true, if_false, Bool.false_eq_true, decide_true, decide_false, Int.reduceEq, Int.reduceAdd, Int.reduceSub, Int.reduceMul, Bool.not_true, Bool.not_false, c_0, c_1, c_2, c_3, c_4, c_5, c_6, c_7, c_8, c_9, c_10, c_11, c_12, sz_0, sz_1, sz_2, sz_3, sz_4, sz_5, sz_6, sz_7, sz_8, sz_9, z2J, z2I, z2E, z2s, z2x, z2z, z2w, Bool.true_eq_false, eq_self, za, zb, z4, z7, z5, z3, zw, zy, zi, zr, zp, z8, zn, zj, ze, zg, zh, z6, zz, zu, zf, zq, zo, z9, zD, zE, zm, zt, zA, zc, zG, zB, zl, zv, zx, zd, z2j, z2a, zS, z1E, z1q, z25, z2C, z2u, z2G, zY, z26, z2d, zT, z1p, z1D, z24, z1o, zF, z1u, zQ, z1t, z1B, zC, zX, z10, z2e, z22, z1z, z1A, z1y, zV, z11, z1v, zJ, zW, zZ]
            rw [if_pos (isTy_lst (at_l _ _))]
            simp only [z1T, w_dC, z1L, z1i, z1W, z1Y, w_d2, z2o, w_d3, z2m, z1Z, z1e, z1J, z1g, z1U, z2p, z1G, z2n, z1V, z1f, z1M, z2q, z1I, z1m, z1R, z1K, z1N, z1c, zL, z1a, z1Q, z1S, zN, z1j, zP, zM, z19, z1h, z1l, z1d, zR, z16, z1O, z18, z1n, zK, z17, z15, zO, zI, z1k, z2r, z1X, z1b, zH, z1w, z2K, z1F, w_ok, z2v, z1x, z2l, z27, z1C, z2h, z23, z2g, z1s, zU, z12, z28, z2b, z2c, z20, z2k, z21, z2i, z2F, z2D, z2B, z2L, z2y, z2H, z2t, z2A, z29, z1P, z1H, z2f, z14, z1r, Int.reduceToNat, Int.reduceLE, Int.reduceLT, Int.reduceNeg, startD, List.map_cons, List.map_nil, List.length_cons, List.length_nil, List.replicate, List.cons_append, List.nil_append, List.getElem?_cons_zero, List.getElem?_cons_succ, List.set_cons_zero, List.set_cons_succ, Nat.reduceAdd, Nat.reduceSub, Nat.reduceEqDiff, if_true, if_false, Bool.false_eq_true, decide_true, decide_false, Int.reduceEq, Int.reduceAdd, Int.reduceSub, Int.reduceMul, Bool.not_true, Bool.not_false, c_0, c_1, c_2, c_3, c_4, c_5, c_6, c_7, c_8, c_9, c_10, c_11, c_12, sz_0, sz_1, sz_2, sz_3, sz_4, sz_5, sz_6, sz_7, sz_8, sz_9, z2J, z2I, z2E, z2s, z2x, z2z, z2w, Bool.true_eq_false, eq_self, za, zb, z4, z7, z5, z3, zw, zy, zi, zr, zp, z8, zn, zj, ze, zg, zh, z6, zz, zu, zf, zq, zo, z9, zD, zE, zm, zt, zA, zc, zG, zB, zl, zv, zx, zd, z2j, z2a, zS, z1E, z1q, z25, z2C, z2u, z2G, zY, z26, z2d, zT, z1p, z1D, z24, z1o, zF, z1u, zQ, z1t, z1B, zC, zX, z10, z2e, z22, z1z, z1A, z1y, zV, z11, z1v, zJ, zW, zZ]
            have hbl := hb
            rw [w_appL (at_l _ _) (szn (by rw [List.length_map]; omega)), set_l]
            simp only [z1T, w_dC, z1L, z1i, z1W, z1Y, w_d2, z2o, w_d3, z2m, z1Z, z1e, z1J, z1g, z1U, z2p, z1G, z2n, z1V, z1f, z1M, z2q, z1I, z1m, z1R, z1K, z1N, z1c, zL, z1a, z1Q, z1S, zN, z1j, zP, zM, z19, z1h, z1l, z1d, zR, z16, z1O, z18, z1n, zK, z17, z15, zO, zI, z1k, z2r, z1X, z1b, zH, z1w, z2K, z1F, w_ok, z2v, z1x, z2l, z27, z1C, z2h, z23, z2g, z1s, zU, z12, z28, z2b, z2c, z20, z2k, z21, z2i, z2F, z2D, z2B, z2L, z2y, z2H, z2t, z2A, z29, z1P, z1H, z2f, z14, z1r, Int.reduceToNat, Int.reduceLE, Int.reduceLT, Int.reduceNeg, startD, List.map_cons, List.map_nil, List.length_cons, List.length_nil, List.replicate, List.cons_append, List.nil_append, List.getElem?_cons_zero, List.getElem?_cons_succ, List.set_cons_zero, List.set_cons_succ, Nat.reduceAdd, Nat.reduceSub, Nat.reduceEqDiff, if_true, if_false, Bool.false_eq_true, decide_true, decide_false, Int.reduceEq, Int.reduceAdd, Int.reduceSub, Int.reduceMul, Bool.not_true, Bool.not_false, c_0, c_1, c_2, c_3, c_4, c_5, c_6, c_7, c_8, c_9, c_10, c_11, c_12, sz_0, sz_1, sz_2, sz_3, sz_4, sz_5, sz_6, sz_7, sz_8, sz_9, z2J, z2I, z2E, z2s, z2x, z2z, z2w, Bool.true_eq_false, eq_self, za, zb, z4, z7, z5, z3, zw, zy, zi, zr, zp, z8, zn, zj, ze, zg, zh, z6, zz, zu, zf, zq, zo, z9, zD, zE, zm, zt, zA, zc, zG, zB, zl, zv, zx, zd, z2j, z2a, zS, z1E, z1q, z25, z2C, z2u, z2G, zY, z26, z2d, zT, z1p, z1D, z24, z1o, zF, z1u, zQ, z1t, z1B, zC, zX, z10, z2e, z22, z1z, z1A, z1y, zV, z11, z1v, zJ, zW, zZ]
            refine ⟨(lft rest q.2).length, h1, lft rest q.2, out ++ [q], kn3, _, _, _, by simp [mW], K3, lft_sub hsub, ?_, by simp; omega, rfl, rfl⟩
            rw [List.append_assoc, List.singleton_append, ← fs_step hnil hfq]
            exact hfs
          · have h2' : ¬ (1 : Int) + ((mn ps (lft rest q.2) : Nat) : Int) = ((mn ps rest : Nat) : Int) := by omega
            simp only [decide_eq_false h2', z1T, w_dC, z1L, z1i, z1W, z1Y, w_d2, z2o, w_d3, z2m, z1Z, z1e, z1J, z1g, z1U, z2p, z1G, z2n, z1V, z1f, z1M, z2q, z1I, z1m, z1R, z1K, z1N, z1c, zL, z1a, z1Q, z1S, zN, z1j, zP, zM, z19, z1h, z1l, z1d, zR, z16, z1O, z18, z1n, zK, z17, z15, zO, zI, z1k, z2r, z1X, z1b, zH, z1w, z2K, z1F, w_ok, z2v, z1x, z2l, z27, z1C, z2h, z23, z2g, z1s, zU, z12, z28, z2b, z2c, z20, z2k, z21, z2i, z2F, z2D, z2B, z2L, z2y, z2H, z2t, z2A, z29, z1P, z1H, z2f, z14, z1r, Int.reduceToNat, Int.reduceLE, Int.reduceLT, Int.reduceNeg, startD, List.map_cons, List.map_nil, List.length_cons, List.length_nil, List.replicate, List.cons_append, List.nil_append, List.getElem?_cons_zero, List.getElem?_cons_succ, List.set_cons_zero, List.set_cons_succ, Nat.reduceAdd, Nat.reduceSub, Nat.reduceEqDiff, if_true, if_false, Bool.false_eq_true, decide_true, decide_false, Int.reduceEq, Int.reduceAdd, Int.reduceSub, Int.reduceMul, Bool.not_true, Bool.not_false, c_0, c_1, c_2, c_3, c_4, c_5, c_6, c_7, c_8, c_9, c_10, c_11, c_12, sz_0, sz_1, sz_2, sz_3, sz_4, sz_5, sz_6, sz_7, sz_8, sz_9, z2J, z2I, z2E, z2s, z2x, z2z, z2w, Bool.true_eq_false, eq_self, za, zb, z4, z7, z5, z3, zw, zy, zi, zr, zp, z8, zn, zj, ze, zg, zh, z6, zz, zu, zf, zq, zo, z9, zD, zE, zm, zt, zA, zc, zG, zB, zl, zv, zx, zd, z2j, z2a, zS, z1E, z1q, z25, z2C, z2u, z2G, zY, z26, z2d, zT, z1p, z1D, z24, z1o, zF, z1u, zQ, z1t, z1B, zC, zX, z10, z2e, z22, z1z, z1A, z1y, zV, z11, z1v, zJ, zW, zZ]
            exact ⟨no (by unfold okP; rw [decide_eq_false h2, Bool.and_false]), kn3, _, _, _, rfl, K3, rfl⟩
        · have h1' : ¬ (((lft rest q.2).length : Nat) : Int) < ((rest.length : Nat) : Int) := by omega
          simp only [decide_eq_false h1', z1T, w_dC, z1L, z1i, z1W, z1Y, w_d2, z2o, w_d3, z2m, z1Z, z1e, z1J, z1g, z1U, z2p, z1G, z2n, z1V, z1f, z1M, z2q, z1I, z1m, z1R, z1K, z1N, z1c, zL, z1a, z1Q, z1S, zN, z1j, zP, zM, z19, z1h, z1l, z1d, zR, z16, z1O, z18, z1n, zK, z17, z15, zO, zI, z1k, z2r, z1X, z1b, zH, z1w, z2K, z1F, w_ok, z2v, z1x, z2l, z27, z1C, z2h, z23, z2g, z1s, zU, z12, z28, z2b, z2c, z20, z2k, z21, z2i, z2F, z2D, z2B, z2L, z2y, z2H, z2t, z2A, z29, z1P, z1H, z2f, z14, z1r, Int.reduceToNat, Int.reduceLE, Int.reduceLT, Int.reduceNeg, startD, List.map_cons, List.map_nil, List.length_cons, List.length_nil, List.replicate, List.cons_append, List.nil_append, List.getElem?_cons_zero, List.getElem?_cons_succ, List.set_cons_zero, List.set_cons_succ, Nat.reduceAdd, Nat.reduceSub, Nat.reduceEqDiff, if_true, if_false, Bool.false_eq_true, decide_true, decide_false, Int.reduceEq, Int.reduceAdd, Int.reduceSub, Int.reduceMul, Bool.not_true, Bool.not_false, c_0, c_1, c_2, c_3, c_4, c_5, c_6, c_7, c_8, c_9, c_10, c_11, c_12, sz_0, sz_1, sz_2, sz_3, sz_4, sz_5, sz_6, sz_7, sz_8, sz_9, z2J, z2I, z2E, z2s, z2x, z2z, z2w, Bool.true_eq_false, eq_self, za, zb, z4, z7, z5, z3, zw, zy, zi, zr, zp, z8, zn, zj, ze, zg, zh, z6, zz, zu, zf, zq, zo, z9, zD, zE, zm, zt, zA, zc, zG, zB, zl, zv, zx, zd, z2j, z2a, zS, z1E, z1q, z25, z2C, z2u, z2G, zY, z26, z2d, zT, z1p, z1D, z24, z1o, zF, z1u, zQ, z1t, z1B, zC, zX, z10, z2e, z22, z1z, z1A, z1y, zV, z11, z1v, zJ, zW, zZ]
          exact ⟨no (by unfold okP; rw [decide_eq_false h1, Bool.false_and]), kn', _, _, _, rfl, K', rfl⟩
  obtain ⟨d, S', e, rfl, kn', rfl, K'⟩ := Wp.ok main
  refine ⟨kn', ?_, K'⟩
  unfold Fr_Cover_first cutF
  have hblw : D.blws S.length ((fs ps base).map fun q => mW q.1) = true := gd_blws (n := 0) _ (gd_map fun q _ => gd_W (wM_ok q.1))
  have hx : (S.set k (.dic 2 (kvE rsD kn')) ++ [DO.lst ((fs ps base).map fun q => mW q.1)])[S.length]? = some (.lst ((fs ps base).map fun q => mW q.1)) := by
    have e : S.length = (S.set k (.dic 2 (kvE rsD kn'))).length := by simp
    rw [e]
    exact get_last
  rw [e]
  simp only [cutR]
  rw [if_pos (cutOk_set S _ k _ (kn_blw K')), if_neg (by show ¬ decide (S.length < S.length) = true; simp), hx]
  simp only
  rw [if_pos ⟨hblw, Nat.le_refl _⟩]
  congr 2
  have : S.length = (S.set k (.dic 2 (kvE rsD kn'))).length := by simp
  rw [this, List.take_left]

end Lw

namespace Lw
open PySem PySem.Spec PyProof.Rows L2 DL
def ext3 (m : Mk) : List Mk := [m ++ [none], m ++ [some false], m ++ [some true]]
def allM : Nat → List Mk
  | 0 => [[]]
  | n + 1 => (allM n).flatMap ext3
theorem allM_many : ∀ n, (allM n).length = 3 ^ n
  | 0 => rfl
  | n + 1 => by
    have key : ∀ l : List Mk, (l.flatMap ext3).length = 3 * l.length := fun l => by
      induction l with
      | nil => rfl
      | cons a l ih =>
        rw [List.flatMap_cons, List.length_append, ih, List.length_cons]
        show 3 + _ = _
        omega
    rw [allM, key, allM_many n, Nat.pow_succ]
    omega
theorem allM_len : ∀ (n : Nat) {m : Mk}, m ∈ allM n → m.length = n
  | 0, m, h => by
    rw [List.mem_singleton.mp h]
    rfl
  | n + 1, m, h => by
    obtain ⟨a, ha, hm⟩ := List.mem_flatMap.mp h
    have := allM_len n ha
    have hm' : m = a ++ [none] ∨ m = a ++ [some false] ∨ m = a ++ [some true] := by simpa [ext3] using hm
    rcases hm' with rfl | rfl | rfl <;> simp [this]
theorem allM_mem : ∀ {n : Nat} {m : Mk}, m.length = n → m ∈ allM n
  | 0, m, h => by
    rw [List.length_eq_zero_iff.mp h]
    exact List.mem_singleton_self _
  | n + 1, m, h => by
    have hne : m ≠ [] := fun z => by rw [z] at h; cases h
    have e : m.dropLast ++ [m.getLast hne] = m := List.dropLast_concat_getLast hne
    have hd : m.dropLast ∈ allM n := allM_mem (by rw [List.length_dropLast, h]; rfl)
    refine List.mem_flatMap.mpr ⟨_, hd, ?_⟩
    rw [← e]
    cases m.getLast hne with
    | none => simp [ext3]
    | some b => cases b <;> simp [ext3]
theorem W_d01 : Str.ofString "-01" = W [45, 48, 49] := by decide +kernel
theorem W_dash' : Str.ofString "-" = W [45] := by decide +kernel
theorem mW_gds {l : List Mk} : ∀ d ∈ l.map mW, GD 0 d := fun d hd => by
  obtain ⟨m, _, rfl⟩ := List.mem_map.mp hd
  exact gd_W (wM_ok m)
theorem ext3_eq (m : Mk) : [45, 48, 49].map (fun c => D.str (W (wM m ++ [c]))) = (ext3 m).map mW := by simp [ext3, mW, wM, cM, cb]
theorem all_marks_ok {n : Nat} {S : Sto} (hn : n ≤ 4) : F_all_marks [.int ((n : Nat) : Int)] S = .ok (.frl ((allM n).map mW)) S := by
  unfold F_all_marks
  refine fn_ok (gd_blw (n := 1) _ (gd_frl mW_gds)) ?_
  unfold b_all_marks
  simp only [z1T, w_dC, z1L, z1i, z1W, z1Y, w_d2, z2o, w_d3, z2m, z1Z, z1e, z1J, z1g, z1U, z2p, z1G, z2n, z1V, z1f, z1M, z2q, z1I, z1m, z1R, z1K, z1N, z1c, zL, z1a, z1Q, z1S, zN, z1j, zP, zM, z19, z1h, z1l, z1d, zR, z16, z1O, z18, z1n, zK, z17, z15, zO, zI, z1k, z2r, z1X, z1b, zH, z1w, z2K, z1F, w_ok, z2v, z1x, z2l, z27, z1C, z2h, z23, z2O, z2N, z2g, z1s, zU, z12, z28, z2b, z2c, z20, z2k, z21, z2i, z2F, z2D, z2B, z2L, z2y, z2H, z2t, z2A, z29, z1P, z1H, z2f, z14, z1r, Int.reduceToNat, Int.reduceLE, Int.reduceLT, Int.reduceNeg, startD, List.map_cons, List.map_nil, List.length_cons, List.length_nil, List.replicate, List.cons_append, List.nil_append, List.getElem?_cons_zero, List.getElem?_cons_succ, List.set_cons_zero, List.set_cons_succ, Nat.reduceAdd, Nat.reduceSub, Nat.reduceEqDiff, if_true, if_false, Bool.false_eq_true, decide_true, decide_false, Int.reduceEq, Int.reduceAdd, Int.reduceSub, Int.reduceMul, Bool.not_true, Bool.not_false, c_0, c_1, c_2, c_3, c_4, c_5, c_6, c_7, c_8, c_9, c_10, c_11, c_12, sz_0, sz_1, sz_2, sz_3, sz_4, sz_5, sz_6, sz_7, sz_8, sz_9, z2J, z2I, z2E, z2s, z2x, z2z, z2w, Bool.true_eq_false, eq_self, za, zb, z4, z7, z5, z3, zw, zy, zi, zr, zp, z8, zn, zj, ze, zg, zh, z6, zz, zu, zf, zq, zo, z9, zD, zE, zm, zt, zA, zc, zG, zB, zl, zv, zx, zd, z2j, z2a, zS, z1E, z1q, z25, z2C, z2u, z2G, zY, z26, z2d, zT, z1p, z1D, z24, z1o, zF, z1u, zQ, z1t, z1B, zC, zX, z10, z2e, z22, z1z, z1A, z1y, zV, z11, z1v, zJ, zW, zZ]
  rw [w_ite (rng_ok (by omega))]
  simp only [z1T, w_dC, z1L, z1i, z1W, z1Y, w_d2, z2o, w_d3, z2m, z1Z, z1e, z1J, z1g, z1U, z2p, z1G, z2n, z1V, z1f, z1M, z2q, z1I, z1m, z1R, z1K, z1N, z1c, zL, z1a, z1Q, z1S, zN, z1j, zP, zM, z19, z1h, z1l, z1d, zR, z16, z1O, z18, z1n, zK, z17, z15, zO, zI, z1k, z2r, z1X, z1b, zH, z1w, z2K, z1F, w_ok, z2v, z1x, z2l, z27, z1C, z2h, z23, z2O, z2N, z2g, z1s, zU, z12, z28, z2b, z2c, z20, z2k, z21, z2i, z2F, z2D, z2B, z2L, z2y, z2H, z2t, z2A, z29, z1P, z1H, z2f, z14, z1r, Int.reduceToNat, Int.reduceLE, Int.reduceLT, Int.reduceNeg, startD, List.map_cons, List.map_nil, List.length_cons, List.length_nil, List.replicate, List.cons_append, List.nil_append, List.getElem?_cons_zero, List.getElem?_cons_succ, List.set_cons_zero, List.set_cons_succ, Nat.reduceAdd, Nat.reduceSub, Nat.reduceEqDiff, if_true, if_false, Bool.false_eq_true, decide_true, decide_false, Int.reduceEq, Int.reduceAdd, Int.reduceSub, Int.reduceMul, Bool.not_true, Bool.not_false, c_0, c_1, c_2, c_3, c_4, c_5, c_6, c_7, c_8, c_9, c_10, c_11, c_12, sz_0, sz_1, sz_2, sz_3, sz_4, sz_5, sz_6, sz_7, sz_8, sz_9, z2J, z2I, z2E, z2s, z2x, z2z, z2w, Bool.true_eq_false, eq_self, za, zb, z4, z7, z5, z3, zw, zy, zi, zr, zp, z8, zn, zj, ze, zg, zh, z6, zz, zu, zf, zq, zo, z9, zD, zE, zm, zt, zA, zc, zG, zB, zl, zv, zx, zd, z2j, z2a, zS, z1E, z1q, z25, z2C, z2u, z2G, zY, z26, z2d, zT, z1p, z1D, z24, z1o, zF, z1u, zQ, z1t, z1B, zC, zX, z10, z2e, z22, z1z, z1A, z1y, zV, z11, z1v, zJ, zW, zZ, Int.toNat_natCast]
  refine w_rangeP (fun i sd S' => ∃ (T : Sto) (a2 a3 a4 : Option D), S' = S ++ T ∧ sd = [some (.int ((n : Nat) : Int)), some (.frl ((allM i).map mW)), a2, a3, a4, none]) 0 n (fun _ _ _ _ _ => rfl) ⟨[], _, _, _, by simp, by simp only [allM, List.map_cons, List.map_nil, mW, show Str.ofString "" = W (wM []) by decide +kernel]; rfl⟩ ?_ ?_
  · rintro sd S' ⟨T, a2, a3, a4, rfl, rfl⟩
    simp only [z1T, w_dC, z1L, z1i, z1W, z1Y, w_d2, z2o, w_d3, z2m, z1Z, z1e, z1J, z1g, z1U, z2p, z1G, z2n, z1V, z1f, z1M, z2q, z1I, z1m, z1R, z1K, z1N, z1c, zL, z1a, z1Q, z1S, zN, z1j, zP, zM, z19, z1h, z1l, z1d, zR, z16, z1O, z18, z1n, zK, z17, z15, zO, zI, z1k, z2r, z1X, z1b, zH, z1w, z2K, z1F, w_ok, z2v, z1x, z2l, z27, z1C, z2h, z23, z2O, z2N, z2g, z1s, zU, z12, z28, z2b, z2c, z20, z2k, z21, z2i, z2F, z2D, z2B, z2L, z2y, z2H, z2t, z2A, z29, z1P, z1H, z2f, z14, z1r, Int.reduceToNat, Int.reduceLE, Int.reduceLT, Int.reduceNeg, startD, List.map_cons, List.map_nil, List.length_cons, List.length_nil, List.replicate, List.cons_append, List.nil_append, List.getElem?_cons_zero, List.getElem?_cons_succ, List.set_cons_zero, List.set_cons_succ, Nat.reduceAdd, Nat.reduceSub, Nat.reduceEqDiff, if_true, if_false, Bool.false_eq_true, decide_true, decide_false, Int.reduceEq, Int.reduceAdd, Int.reduceSub, Int.reduceMul, Bool.not_true, Bool.not_false, c_0, c_1, c_2, c_3, c_4, c_5, c_6, c_7, c_8, c_9, c_10, c_11, c_12, sz_0, sz_1, sz_2, sz_3, sz_4, sz_5, sz_6, sz_7, sz_8, sz_9, z2J, z2I, z2E, z2s, z2x, z2z, z2w, Bool.true_eq_false, eq_self, za, zb, z4, z7, z5, z3, zw, zy, zi, zr, zp, z8, zn, zj, ze, zg, zh, z6, zz, zu, zf, zq, zo, z9, zD, zE, zm, zt, zA, zc, zG, zB, zl, zv, zx, zd, z2j, z2a, zS, z1E, z1q, z25, z2C, z2u, z2G, zY, z26, z2d, zT, z1p, z1D, z24, z1o, zF, z1u, zQ, z1t, z1B, zC, zX, z10, z2e, z22, z1z, z1A, z1y, zV, z11, z1v, zJ, zW, zZ]
    exact ⟨trivial, _, rfl⟩
  · rintro i sd S' hi ⟨T, a2, a3, a4, rfl, rfl⟩
    have p81 : (allM i).length ≤ 81 := by
      rw [allM_many]
      exact Nat.pow_le_pow_right (n := 3) (by decide) (show i ≤ 4 by omega)
    simp only [z1T, w_dC, z1L, z1i, z1W, z1Y, w_d2, z2o, w_d3, z2m, z1Z, z1e, z1J, z1g, z1U, z2p, z1G, z2n, z1V, z1f, z1M, z2q, z1I, z1m, z1R, z1K, z1N, z1c, zL, z1a, z1Q, z1S, zN, z1j, zP, zM, z19, z1h, z1l, z1d, zR, z16, z1O, z18, z1n, zK, z17, z15, zO, zI, z1k, z2r, z1X, z1b, zH, z1w, z2K, z1F, w_ok, z2v, z1x, z2l, z27, z1C, z2h, z23, z2g, z1s, zU, z12, z28, z2b, z2c, z20, z2k, z21, z2i, z2F, z2D, z2B, z2L, z2y, z2H, z2t, z2A, z29, z1P, z1H, z2f, z14, z1r, Int.reduceToNat, Int.reduceLE, Int.reduceLT, Int.reduceNeg, startD, List.map_cons, List.map_nil, List.length_cons, List.length_nil, List.replicate, List.cons_append, List.nil_append, List.getElem?_cons_zero, List.getElem?_cons_succ, List.set_cons_zero, List.set_cons_succ, Nat.reduceAdd, Nat.reduceSub, Nat.reduceEqDiff, if_true, if_false, Bool.false_eq_true, decide_true, decide_false, Int.reduceEq, Int.reduceAdd, Int.reduceSub, Int.reduceMul, Bool.not_true, Bool.not_false, c_0, c_1, c_2, c_3, c_4, c_5, c_6, c_7, c_8, c_9, c_10, c_11, c_12, sz_0, sz_1, sz_2, sz_3, sz_4, sz_5, sz_6, sz_7, sz_8, sz_9, z2J, z2I, z2E, z2s, z2x, z2z, z2w, Bool.true_eq_false, eq_self, za, zb, z4, z7, z5, z3, zw, zy, zi, zr, zp, z8, zn, zj, ze, zg, zh, z6, zz, zu, zf, zq, zo, z9, zD, zE, zm, zt, zA, zc, zG, zB, zl, zv, zx, zd, z2j, z2a, zS, z1E, z1q, z25, z2C, z2u, z2G, zY, z26, z2d, zT, z1p, z1D, z24, z1o, zF, z1u, zQ, z1t, z1B, zC, zX, z10, z2e, z22, z1z, z1A, z1y, zV, z11, z1v, zJ, zW, zZ, itemsD]
    refine w_loopP mW (fun pre sd S' => ∃ (U : Sto) (a4 : Option D), S' = (S ++ T) ++ .lst ((pre.flatMap ext3).map mW) :: U ∧ sd = [some (.int ((n : Nat) : Int)), some (.frl ((allM i).map mW)), some (.int (0 + ((i : Nat) : Int))), some (.ref (S ++ T).length), a4, none]) (allM i) (fun _ _ _ _ _ _ => rfl) ⟨[], _, by simp, rfl⟩ ?_ ?_
    · rintro sd S' ⟨U, a4, rfl, rfl⟩
      simp only [z1T, w_dC, z1L, z1i, z1W, z1Y, w_d2, z2o, w_d3, z2m, z1Z, z1e, z1J, z1g, z1U, z2p, z1G, z2n, z1V, z1f, z1M, z2q, z1I, z1m, z1R, z1K, z1N, z1c, zL, z1a, z1Q, z1S, zN, z1j, zP, zM, z19, z1h, z1l, z1d, zR, z16, z1O, z18, z1n, zK, z17, z15, zO, zI, z1k, z2r, z1X, z1b, zH, z1w, z2K, z1F, w_ok, z2v, z1x, z2l, z27, z1C, z2h, z23, z2g, z1s, zU, z12, z28, z2b, z2c, z20, z2k, z21, z2i, z2F, z2D, z2B, z2L, z2y, z2H, z2t, z2A, z29, z1P, z1H, z2f, z14, z1r, Int.reduceToNat, Int.reduceLE, Int.reduceLT, Int.reduceNeg, startD, List.map_cons, List.map_nil, List.length_cons, List.length_nil, List.replicate, List.cons_append, List.nil_append, List.getElem?_cons_zero, List.getElem?_cons_succ, List.set_cons_zero, List.set_cons_succ, Nat.reduceAdd, Nat.reduceSub, Nat.reduceEqDiff, if_true, if_false, Bool.false_eq_true, decide_true, decide_false, Int.reduceEq, Int.reduceAdd, Int.reduceSub, Int.reduceMul, Bool.not_true, Bool.not_false, c_0, c_1, c_2, c_3, c_4, c_5, c_6, c_7, c_8, c_9, c_10, c_11, c_12, sz_0, sz_1, sz_2, sz_3, sz_4, sz_5, sz_6, sz_7, sz_8, sz_9, z2J, z2I, z2E, z2s, z2x, z2z, z2w, Bool.true_eq_false, eq_self, za, zb, z4, z7, z5, z3, zw, zy, zi, zr, zp, z8, zn, zj, ze, zg, zh, z6, zz, zu, zf, zq, zo, z9, zD, zE, zm, zt, zA, zc, zG, zB, zl, zv, zx, zd, z2j, z2a, zS, z1E, z1q, z25, z2C, z2u, z2G, zY, z26, z2d, zT, z1p, z1D, z24, z1o, zF, z1u, zQ, z1t, z1B, zC, zX, z10, z2e, z22, z1z, z1A, z1y, zV, z11, z1v, zJ, zW, zZ, w_dFrz]
      rw [frz_at (get_mid rfl)]
      exact ⟨T ++ .dead :: U, _, _, _, by rw [set_mid rfl, List.append_assoc], rfl⟩
    · rintro pre m post sd S' e ⟨U, a4, rfl, rfl⟩
      have hm : m ∈ allM i := by rw [e]; simp
      have hml := allM_len i hm
      have hpl : pre.length ≤ 81 := by
        rw [e] at p81
        simp at p81
        omega
      have hcomp : ∀ (S' : Sto) (x0 x1 x2 x3 x5 : Option D), dComp [5] (iVal (dC (.str "-01"))) (gVar 5) tYesD (d2 addD (dVar 4) (dVar 5)) [x0, x1, x2, x3, some (mW m), x5] S' = .ok (.ref S'.length) (S' ++ [.lst ((ext3 m).map mW)]) := fun S' x0 x1 x2 x3 x5 => by
        have := compR (S := S') (sd := [x0, x1, x2, x3, some (mW m), x5]) (vs := [5]) (fi := iVal (dC (.str "-01"))) (ga := gVar 5) (ft := tYesD) (fe := d2 addD (dVar 4) (dVar 5)) [45, 48, 49] (fun c => .str (W [c])) (fun _ => true) (fun c => .str (W (wM m ++ [c]))) (by
          simp only [z1T, w_dC, z1L, z1i, z1W, z1Y, w_d2, z2o, w_d3, z2m, z1Z, z1e, z1J, z1g, z1U, z2p, z1G, z2n, z1V, z1f, z1M, z2q, z1I, z1m, z1R, z1K, z1N, z1c, zL, z1a, z1Q, z1S, zN, z1j, zP, zM, z19, z1h, z1l, z1d, zR, z16, z1O, z18, z1n, zK, z17, z15, zO, zI, z1k, z2r, z1X, z1b, zH, z1w, z2K, z1F, w_ok, z2v, z1x, z2l, z27, z1C, z2h, z23, z2g, z1s, zU, z12, z28, z2b, z2c, z20, z2k, z21, z2i, z2F, z2D, z2B, z2L, z2y, z2H, z2t, z2A, z29, z1P, z1H, z2f, z14, z1r, Int.reduceToNat, Int.reduceLE, Int.reduceLT, Int.reduceNeg, startD, List.map_cons, List.map_nil, List.length_cons, List.length_nil, List.replicate, List.cons_append, List.nil_append, List.getElem?_cons_zero, List.getElem?_cons_succ, List.set_cons_zero, List.set_cons_succ, Nat.reduceAdd, Nat.reduceSub, Nat.reduceEqDiff, if_true, if_false, Bool.false_eq_true, decide_true, decide_false, Int.reduceEq, Int.reduceAdd, Int.reduceSub, Int.reduceMul, Bool.not_true, Bool.not_false, c_0, c_1, c_2, c_3, c_4, c_5, c_6, c_7, c_8, c_9, c_10, c_11, c_12, sz_0, sz_1, sz_2, sz_3, sz_4, sz_5, sz_6, sz_7, sz_8, sz_9, z2J, z2I, z2E, z2s, z2x, z2z, z2w, Bool.true_eq_false, eq_self, za, zb, z4, z7, z5, z3, zw, zy, zi, zr, zp, z8, zn, zj, ze, zg, zh, z6, zz, zu, zf, zq, zo, z9, zD, zE, zm, zt, zA, zc, zG, zB, zl, zv, zx, zd, z2j, z2a, zS, z1E, z1q, z25, z2C, z2u, z2G, zY, z26, z2d, zT, z1p, z1D, z24, z1o, zF, z1u, zQ, z1t, z1B, zC, zX, z10, z2e, z22, z1z, z1A, z1y, zV, z11, z1v, zJ, zW, zZ, itemsD, W_d01, signsD, W_cps]
          exact ⟨by first | rfl | trivial, by first | rfl | trivial, fun _ _ => rfl⟩) (szn (by simp)) (fun c _ S2 _ => by
          simp only [z1T, w_dC, z1L, z1i, z1W, z1Y, w_d2, z2o, w_d3, z2m, z1Z, z1e, z1J, z1g, z1U, z2p, z1G, z2n, z1V, z1f, z1M, z2q, z1I, z1m, z1R, z1K, z1N, z1c, zL, z1a, z1Q, z1S, zN, z1j, zP, zM, z19, z1h, z1l, z1d, zR, z16, z1O, z18, z1n, zK, z17, z15, zO, zI, z1k, z2r, z1X, z1b, zH, z1w, z2K, z1F, w_ok, z2v, z1x, z2l, z27, z1C, z2h, z23, z2g, z1s, zU, z12, z28, z2b, z2c, z20, z2k, z21, z2i, z2F, z2D, z2B, z2L, z2y, z2H, z2t, z2A, z29, z1P, z1H, z2f, z14, z1r, Int.reduceToNat, Int.reduceLE, Int.reduceLT, Int.reduceNeg, startD, List.map_cons, List.map_nil, List.length_cons, List.length_nil, List.replicate, List.cons_append, List.nil_append, List.getElem?_cons_zero, List.getElem?_cons_succ, List.set_cons_zero, List.set_cons_succ, Nat.reduceAdd, Nat.reduceSub, Nat.reduceEqDiff, if_true, if_false, Bool.false_eq_true, decide_true, decide_false, Int.reduceEq, Int.reduceAdd, Int.reduceSub, Int.reduceMul, Bool.not_true, Bool.not_false, c_0, c_1, c_2, c_3, c_4, c_5, c_6, c_7, c_8, c_9, c_10, c_11, c_12, sz_0, sz_1, sz_2, sz_3, sz_4, sz_5, sz_6, sz_7, sz_8, sz_9, z2J, z2I, z2E, z2s, z2x, z2z, z2w, Bool.true_eq_false, eq_self, za, zb, z4, z7, z5, z3, zw, zy, zi, zr, zp, z8, zn, zj, ze, zg, zh, z6, zz, zu, zf, zq, zo, z9, zD, zE, zm, zt, zA, zc, zG, zB, zl, zv, zx, zd, z2j, z2a, zS, z1E, z1q, z25, z2C, z2u, z2G, zY, z26, z2d, zT, z1p, z1D, z24, z1o, zF, z1u, zQ, z1t, z1B, zC, zX, z10, z2e, z22, z1z, z1A, z1y, zV, z11, z1v, zJ, zW, zZ, wipeD, mW]
          refine ⟨trivial, trivial, trivial, fun _ => ?_⟩
          try simp only [z1T, w_dC, z1L, z1i, z1W, z1Y, w_d2, z2o, w_d3, z2m, z1Z, z1e, z1J, z1g, z1U, z2p, z1G, z2n, z1V, z1f, z1M, z2q, z1I, z1m, z1R, z1K, z1N, z1c, zL, z1a, z1Q, z1S, zN, z1j, zP, zM, z19, z1h, z1l, z1d, zR, z16, z1O, z18, z1n, zK, z17, z15, zO, zI, z1k, z2r, z1X, z1b, zH, z1w, z2K, z1F, w_ok, z2v, z1x, z2l, z27, z1C, z2h, z23, z2g, z1s, zU, z12, z28, z2b, z2c, z20, z2k, z21, z2i, z2F, z2D, z2B, z2L, z2y, z2H, z2t, z2A, z29, z1P, z1H, z2f, z14, z1r, Int.reduceToNat, Int.reduceLE, Int.reduceLT, Int.reduceNeg, startD, List.map_cons, List.map_nil, List.length_cons, List.length_nil, List.replicate, List.cons_append, List.nil_append, List.getElem?_cons_zero, List.getElem?_cons_succ, List.set_cons_zero, List.set_cons_succ, Nat.reduceAdd, Nat.reduceSub, Nat.reduceEqDiff, if_true, if_false, Bool.false_eq_true, decide_true, decide_false, Int.reduceEq, Int.reduceAdd, Int.reduceSub, Int.reduceMul, Bool.not_true, Bool.not_false, c_0, c_1, c_2, c_3, c_4, c_5, c_6, c_7, c_8, c_9, c_10, c_11, c_12, sz_0, sz_1, sz_2, sz_3, sz_4, sz_5, sz_6, sz_7, sz_8, sz_9, z2J, z2I, z2E, z2s, z2x, z2z, z2w, Bool.true_eq_false, eq_self, za, zb, z4, z7, z5, z3, zw, zy, zi, zr, zp, z8, zn, zj, ze, zg, zh, z6, zz, zu, zf, zq, zo, z9, zD, zE, zm, zt, zA, zc, zG, zB, zl, zv, zx, zd, z2j, z2a, zS, z1E, z1q, z25, z2C, z2u, z2G, zY, z26, z2d, zT, z1p, z1D, z24, z1o, zF, z1u, zQ, z1t, z1B, zC, zX, z10, z2e, z22, z1z, z1A, z1y, zV, z11, z1v, zJ, zW, zZ]
          rw [w_addS (by rw [W_len, W_len, wM_len]; exact szn (by simp; omega)), W_app]
          exact ⟨by first | rfl | trivial, by first | rfl | trivial⟩)
        rw [this, List.filter_eq_self.mpr (fun _ _ => rfl), ext3_eq]
      simp only [z1T, w_dC, z1L, z1i, z1W, z1Y, w_d2, z2o, w_d3, z2m, z1Z, z1e, z1J, z1g, z1U, z2p, z1G, z2n, z1V, z1f, z1M, z2q, z1I, z1m, z1R, z1K, z1N, z1c, zL, z1a, z1Q, z1S, zN, z1j, zP, zM, z19, z1h, z1l, z1d, zR, z16, z1O, z18, z1n, zK, z17, z15, zO, zI, z1k, z2r, z1X, z1b, zH, z1w, z2K, z1F, w_ok, z2v, z1x, z2l, z27, z1C, z2h, z23, z2g, z1s, zU, z12, z28, z2b, z2c, z20, z2k, z21, z2i, z2F, z2D, z2B, z2L, z2y, z2H, z2t, z2A, z29, z1P, z1H, z2f, z14, z1r, Int.reduceToNat, Int.reduceLE, Int.reduceLT, Int.reduceNeg, startD, List.map_cons, List.map_nil, List.length_cons, List.length_nil, List.replicate, List.cons_append, List.nil_append, List.getElem?_cons_zero, List.getElem?_cons_succ, List.set_cons_zero, List.set_cons_succ, Nat.reduceAdd, Nat.reduceSub, Nat.reduceEqDiff, if_true, if_false, Bool.false_eq_true, decide_true, decide_false, Int.reduceEq, Int.reduceAdd, Int.reduceSub, Int.reduceMul, Bool.not_true, Bool.not_false, c_0, c_1, c_2, c_3, c_4, c_5, c_6, c_7, c_8, c_9, c_10, c_11, c_12, sz_0, sz_1, sz_2, sz_3, sz_4, sz_5, sz_6, sz_7, sz_8, sz_9, z2J, z2I, z2E, z2s, z2x, z2z, z2w, Bool.true_eq_false, eq_self, za, zb, z4, z7, z5, z3, zw, zy, zi, zr, zp, z8, zn, zj, ze, zg, zh, z6, zz, zu, zf, zq, zo, z9, zD, zE, zm, zt, zA, zc, zG, zB, zl, zv, zx, zd, z2j, z2a, zS, z1E, z1q, z25, z2C, z2u, z2G, zY, z26, z2d, zT, z1p, z1D, z24, z1o, zF, z1u, zQ, z1t, z1B, zC, zX, z10, z2e, z22, z1z, z1A, z1y, zV, z11, z1v, zJ, zW, zZ]
      rw [w_ite (isTy_lst (get_mid rfl))]
      simp only [hcomp, z1T, w_dC, z1L, z1i, z1W, z1Y, w_d2, z2o, w_d3, z2m, z1Z, z1e, z1J, z1g, z1U, z2p, z1G, z2n, z1V, z1f, z1M, z2q, z1I, z1m, z1R, z1K, z1N, z1c, zL, z1a, z1Q, z1S, zN, z1j, zP, zM, z19, z1h, z1l, z1d, zR, z16, z1O, z18, z1n, zK, z17, z15, zO, zI, z1k, z2r, z1X, z1b, zH, z1w, z2K, z1F, w_ok, z2v, z1x, z2l, z27, z1C, z2h, z23, z2g, z1s, zU, z12, z28, z2b, z2c, z20, z2k, z21, z2i, z2F, z2D, z2B, z2L, z2y, z2H, z2t, z2A, z29, z1P, z1H, z2f, z14, z1r, Int.reduceToNat, Int.reduceLE, Int.reduceLT, Int.reduceNeg, startD, List.map_cons, List.map_nil, List.length_cons, List.length_nil, List.replicate, List.cons_append, List.nil_append, List.getElem?_cons_zero, List.getElem?_cons_succ, List.set_cons_zero, List.set_cons_succ, Nat.reduceAdd, Nat.reduceSub, Nat.reduceEqDiff, if_true, if_false, Bool.false_eq_true, decide_true, decide_false, Int.reduceEq, Int.reduceAdd, Int.reduceSub, Int.reduceMul, Bool.not_true, Bool.not_false, c_0, c_1, c_2, c_3, c_4, c_5, c_6, c_7, c_8, c_9, c_10, c_11, c_12, sz_0, sz_1, sz_2, sz_3, sz_4, sz_5, sz_6, sz_7, sz_8, sz_9, z2J, z2I, z2E, z2s, z2x, z2z, z2w, Bool.true_eq_false, eq_self, za, zb, z4, z7, z5, z3, zw, zy, zi, zr, zp, z8, zn, zj, ze, zg, zh, z6, zz, zu, zf, zq, zo, z9, zD, zE, zm, zt, zA, zc, zG, zB, zl, zv, zx, zd, z2j, z2a, zS, z1E, z1q, z25, z2C, z2u, z2G, zY, z26, z2d, zT, z1p, z1D, z24, z1o, zF, z1u, zQ, z1t, z1B, zC, zX, z10, z2e, z22, z1z, z1A, z1y, zV, z11, z1v, zJ, zW, zZ]
      have ex : ∀ {A U : Sto} {xs ys : List D} {Q : D → Sto → Prop} {X : Exc → Sto → Prop}, xs.length + ys.length ≤ sizeLine → Wp (extendD (.ref A.length) [.ref (A ++ DO.lst xs :: U).length] (A ++ DO.lst xs :: U ++ [DO.lst ys])) Q X = Q .non (A ++ DO.lst (xs ++ ys) :: (U ++ [DO.lst ys])) := fun {A T xs ys Q X} hz => by
        have e : A ++ DO.lst xs :: T ++ [DO.lst ys] = A ++ DO.lst xs :: (T ++ [DO.lst ys]) := by simp
        rw [w_extL (xs := xs) (ys := ys) (by rw [e]; exact get_mid rfl) get_last hz, e, set_mid rfl]
      have hfl : (pre.flatMap ext3).length ≤ 300 := by
        have : ∀ l : List Mk, (l.flatMap ext3).length = 3 * l.length := fun l => by
          induction l with
          | nil => rfl
          | cons a l ih =>
            rw [List.flatMap_cons, List.length_append, ih, List.length_cons]
            show 3 + _ = _
            omega
        rw [this]
        omega
      rw [ex (szn (by rw [List.length_map, List.length_map]; show _ + 3 ≤ _; omega))]
      refine ⟨U ++ [DO.lst ((ext3 m).map mW)], some (mW m), ?_, rfl⟩
      rw [List.flatMap_append, List.map_append]
      simp

theorem cutS_take {w : List Nat} {k : Nat} : cutS (W w) none (some ((k : Nat) : Int)) = W (w.take k) := by
  unfold cutS
  rw [W_cps, W_len]
  have e : HT.sIx w.length 0 none = 0 := rfl
  have e2 : HT.sIx w.length w.length (some ((k : Nat) : Int)) = min k w.length := by
    show (if ((k : Nat) : Int) < 0 then (((k : Nat) : Int) + (w.length : Int)).toNat else min ((k : Nat) : Int).toNat w.length) = _
    rw [if_neg (by omega)]
    simp
  rw [e, e2]
  show W _ = _
  congr 1
  rw [List.drop_zero, Nat.sub_zero]
  by_cases h : k ≤ w.length
  · rw [Nat.min_eq_left h]
  · rw [Nat.min_eq_right (by omega), List.take_of_length_le (by omega), List.take_of_length_le (by omega)]
theorem cutS_drop {w : List Nat} {k : Nat} : cutS (W w) (some ((k : Nat) : Int)) none = W (w.drop k) := by
  unfold cutS
  rw [W_cps, W_len]
  have e : HT.sIx w.length w.length none = w.length := rfl
  have e2 : HT.sIx w.length 0 (some ((k : Nat) : Int)) = min k w.length := by
    show (if ((k : Nat) : Int) < 0 then (((k : Nat) : Int) + (w.length : Int)).toNat else min ((k : Nat) : Int).toNat w.length) = _
    rw [if_neg (by omega)]
    simp
  rw [e, e2]
  show W _ = _
  congr 1
  by_cases h : k ≤ w.length
  · rw [Nat.min_eq_left h, List.take_of_length_le (by simp)]
  · rw [Nat.min_eq_right (by omega), List.drop_eq_nil_of_le (by omega), List.drop_eq_nil_of_le (by omega)]; simp
theorem w_sliceSW {w : List Nat} {lo hi : Option Int} {S : Sto} {Q : D → Sto → Prop} {X : Exc → Sto → Prop} (h : w.length ≤ 16777216) : Wp (sliceD (.str (W w)) lo hi S) Q X = Q (.str (cutS (W w) lo hi)) S := by
  simp only [sliceD]
  rw [w_ite (by rw [W_len]; exact szn h), w_ok]
theorem w_addSW {v w : List Nat} {S : Sto} {Q : D → Sto → Prop} {X : Exc → Sto → Prop} (h : v.length + w.length ≤ 16777216) : Wp (addD (.str (W v)) (.str (W w)) S) Q X = Q (.str (W (v ++ w))) S := by
  simp only [addD]
  rw [w_ite (by rw [W_len, W_len]; exact szn h), w_ok]
  rw [W_app]

theorem mW_inj {a b : Mk} (h : mW a = mW b) : a = b := by
  unfold mW at h
  rw [D.str.injEq, W_inj] at h
  exact wM_inj h
theorem allM_nodup : ∀ n : Nat, (allM n).Nodup
  | 0 => by simp [allM]
  | n + 1 => by
    have key : ∀ l : List Mk, l.Nodup → (l.flatMap ext3).Nodup := fun l => by
      induction l with
      | nil => intro _; exact List.nodup_nil
      | cons a l ih =>
        intro h
        obtain ⟨h1, h2⟩ := List.nodup_cons.mp h
        rw [List.flatMap_cons, List.nodup_append]
        refine ⟨by simp [ext3], ih h2, fun x hx y hy e => ?_⟩
        subst e
        obtain ⟨c, hc, hx2⟩ := List.mem_flatMap.mp hy
        have d1 : x.dropLast = a := by
          have : x = a ++ [none] ∨ x = a ++ [some false] ∨ x = a ++ [some true] := by simpa [ext3] using hx
          rcases this with rfl | rfl | rfl <;> simp
        have d2 : x.dropLast = c := by
          have : x = c ++ [none] ∨ x = c ++ [some false] ∨ x = c ++ [some true] := by simpa [ext3] using hx2
          rcases this with rfl | rfl | rfl <;> simp
        rw [d1] at d2
        exact h1 (d2 ▸ hc)
    exact key _ (allM_nodup n)
def wd (m : Mk) (k : Nat) : Mk := m.take k ++ none :: m.drop (k + 1)
def fixd (m : Mk) (k : Nat) : Bool := !decide (m.getD k none = none)
def wid (m : Mk) : List Mk := ((List.range m.length).filter (fixd m)).map (wd m)
theorem cM45 {x : Option Bool} : ([cM x] = [45]) ↔ x = none := by
  cases x with
  | none => simp [cM]
  | some b => cases b <;> simp [cM, cb]
theorem cutS_takeM {m : Mk} {k : Nat} : cutS (W (wM m)) none (some ((k : Nat) : Int)) = W (wM (m.take k)) := by
  rw [cutS_take]
  unfold wM
  rw [List.map_take]
theorem cutS_dropM {m : Mk} {k : Nat} : cutS (W (wM m)) (some ((k : Nat) : Int)) none = W (wM (m.drop k)) := by
  rw [cutS_drop]
  unfold wM
  rw [List.map_drop]
theorem wider_ok {m : Mk} {S : Sto} (hl : m.length ≤ 100) : F_wider [mW m] S = .ok (.frl ((wid m).map mW)) S := by
  unfold F_wider
  refine fn_ok (gd_blw (n := 1) _ (gd_frl mW_gds)) ?_
  unfold b_wider
  have hc : dFrz (dComp [1] (iRngD1 (dCall lenD (dCons (dVar 0) dNil))) (gVar 1) (d2T neD (d2 ixD (dVar 0) (dVar 1)) (dC (.str "-"))) (d2 addD (d2 addD (dSlice (dVar 0) oNone (oSome (dVar 1))) (dC (.str "-"))) (dSlice (dVar 0) (oSome (d2 addD (dVar 1) (dC (.int 1)))) oNone))) [some (mW m), none] S = .ok (.frl (((List.range m.length).filter (fixd m)).map fun k => mW (wd m k))) S := by
    refine compF (List.range m.length) (fun k => .int ((k : Nat) : Int)) _ _ ?_ (Nat.le_trans (List.length_filter_le _ _) (szn (by simp; omega))) ?_ ?_
    · simp only [z1T, w_dC, z1L, z1i, z1W, z1Y, w_d2, z2o, w_d3, z2m, z1Z, z1e, z1J, z1g, z1U, z2p, z1G, z2n, z1V, z1f, z1M, z2q, z1I, z1m, z1R, z1K, z1N, z1c, zL, z1a, z1Q, z1S, zN, z1j, zP, zM, z19, z1h, z1l, z1d, zR, z16, z1O, z18, z1n, zK, z17, z15, zO, zI, z1k, z2r, z1X, z1b, zH, z1w, z2K, z1F, w_ok, z2v, z1x, z2l, z27, z1C, z2h, z23, z2g, z1s, zU, z12, z28, z2b, z2c, z20, z2k, z21, z2i, z2F, z2D, z2B, z2L, z2y, z2H, z2t, z2A, z29, z1P, z1H, z2f, z14, z1r, Int.reduceToNat, Int.reduceLE, Int.reduceLT, Int.reduceNeg, startD, List.map_cons, List.map_nil, List.length_cons, List.length_nil, List.replicate, List.cons_append, List.nil_append, List.getElem?_cons_zero, List.getElem?_cons_succ, List.set_cons_zero, List.set_cons_succ, Nat.reduceAdd, Nat.reduceSub, Nat.reduceEqDiff, if_true, if_false, Bool.false_eq_true, decide_true, decide_false, Int.reduceEq, Int.reduceAdd, Int.reduceSub, Int.reduceMul, Bool.not_true, Bool.not_false, c_0, c_1, c_2, c_3, c_4, c_5, c_6, c_7, c_8, c_9, c_10, c_11, c_12, sz_0, sz_1, sz_2, sz_3, sz_4, sz_5, sz_6, sz_7, sz_8, sz_9, z2J, z2I, z2E, z2s, z2x, z2z, z2w, Bool.true_eq_false, eq_self, za, zb, z4, z7, z5, z3, zw, zy, zi, zr, zp, z8, zn, zj, ze, zg, zh, z6, zz, zu, zf, zq, zo, z9, zD, zE, zm, zt, zA, zc, zG, zB, zl, zv, zx, zd, z2j, z2a, zS, z1E, z1q, z25, z2C, z2u, z2G, zY, z26, z2d, zT, z1p, z1D, z24, z1o, zF, z1u, zQ, z1t, z1B, zC, zX, z10, z2e, z22, z1z, z1A, z1y, zV, z11, z1v, zJ, zW, zZ, mW, w_lenS (show (W (wM m)).length ≤ sizeLine by rw [W_len, wM_len]; exact szn (by omega)), W_len, wM_len]
      rw [w_ite (rng_ok (by omega))]
      simp only [z1T, w_dC, z1L, z1i, z1W, z1Y, w_d2, z2o, w_d3, z2m, z1Z, z1e, z1J, z1g, z1U, z2p, z1G, z2n, z1V, z1f, z1M, z2q, z1I, z1m, z1R, z1K, z1N, z1c, zL, z1a, z1Q, z1S, zN, z1j, zP, zM, z19, z1h, z1l, z1d, zR, z16, z1O, z18, z1n, zK, z17, z15, zO, zI, z1k, z2r, z1X, z1b, zH, z1w, z2K, z1F, w_ok, z2v, z1x, z2l, z27, z1C, z2h, z23, z2g, z1s, zU, z12, z28, z2b, z2c, z20, z2k, z21, z2i, z2F, z2D, z2B, z2L, z2y, z2H, z2t, z2A, z29, z1P, z1H, z2f, z14, z1r, Int.reduceToNat, Int.reduceLE, Int.reduceLT, Int.reduceNeg, startD, List.map_cons, List.map_nil, List.length_cons, List.length_nil, List.replicate, List.cons_append, List.nil_append, List.getElem?_cons_zero, List.getElem?_cons_succ, List.set_cons_zero, List.set_cons_succ, Nat.reduceAdd, Nat.reduceSub, Nat.reduceEqDiff, if_true, if_false, Bool.false_eq_true, decide_true, decide_false, Int.reduceEq, Int.reduceAdd, Int.reduceSub, Int.reduceMul, Bool.not_true, Bool.not_false, c_0, c_1, c_2, c_3, c_4, c_5, c_6, c_7, c_8, c_9, c_10, c_11, c_12, sz_0, sz_1, sz_2, sz_3, sz_4, sz_5, sz_6, sz_7, sz_8, sz_9, z2J, z2I, z2E, z2s, z2x, z2z, z2w, Bool.true_eq_false, eq_self, za, zb, z4, z7, z5, z3, zw, zy, zi, zr, zp, z8, zn, zj, ze, zg, zh, z6, zz, zu, zf, zq, zo, z9, zD, zE, zm, zt, zA, zc, zG, zB, zl, zv, zx, zd, z2j, z2a, zS, z1E, z1q, z25, z2C, z2u, z2G, zY, z26, z2d, zT, z1p, z1D, z24, z1o, zF, z1u, zQ, z1t, z1B, zC, zX, z10, z2e, z22, z1z, z1A, z1y, zV, z11, z1v, zJ, zW, zZ]
      exact ⟨trivial, by simp [rangeL], fun _ _ => rfl⟩
    · intro k hk S' _
      have hk := List.mem_range.mp hk
      have hk1 : ((k : Nat) : Int) + 1 = ((k + 1 : Nat) : Int) := by omega
      simp only [z1T, w_dC, z1L, z1i, z1W, z1Y, w_d2, z2o, w_d3, z2m, z1Z, z1e, z1J, z1g, z1U, z2p, z1G, z2n, z1V, z1f, z1M, z2q, z1I, z1m, z1R, z1K, z1N, z1c, zL, z1a, z1Q, z1S, zN, z1j, zP, zM, z19, z1h, z1l, z1d, zR, z16, z1O, z18, z1n, zK, z17, z15, zO, zI, z1k, z2r, z1X, z1b, zH, z1w, z2K, z1F, w_ok, z2v, z1x, z2l, z27, z1C, z2h, z23, z2g, z1s, zU, z12, z28, z2b, z2c, z20, z2k, z21, z2i, z2F, z2D, z2B, z2L, z2y, z2H, z2t, z2A, z29, z1P, z1H, z2f, z14, z1r, Int.reduceToNat, Int.reduceLE, Int.reduceLT, Int.reduceNeg, startD, List.map_cons, List.map_nil, List.length_cons, List.length_nil, List.replicate, List.cons_append, List.nil_append, List.getElem?_cons_zero, List.getElem?_cons_succ, List.set_cons_zero, List.set_cons_succ, Nat.reduceAdd, Nat.reduceSub, Nat.reduceEqDiff, if_true, if_false, Bool.false_eq_true, decide_true, decide_false, Int.reduceEq, Int.reduceAdd, Int.reduceSub, Int.reduceMul, Bool.not_true, Bool.not_false, c_0, c_1, c_2, c_3, c_4, c_5, c_6, c_7, c_8, c_9, c_10, c_11, c_12, sz_0, sz_1, sz_2, sz_3, sz_4, sz_5, sz_6, sz_7, sz_8, sz_9, z2J, z2I, z2E, z2s, z2x, z2z, z2w, Bool.true_eq_false, eq_self, za, zb, z4, z7, z5, z3, zw, zy, zi, zr, zp, z8, zn, zj, ze, zg, zh, z6, zz, zu, zf, zq, zo, z9, zD, zE, zm, zt, zA, zc, zG, zB, zl, zv, zx, zd, z2j, z2a, zS, z1E, z1q, z25, z2C, z2u, z2G, zY, z26, z2d, zT, z1p, z1D, z24, z1o, zF, z1u, zQ, z1t, z1B, zC, zX, z10, z2e, z22, z1z, z1A, z1y, zV, z11, z1v, zJ, zW, zZ, wipeD, mW, ix_W (show (wM m).length ≤ sizeLine by rw [wM_len]; exact szn (by omega)) (at_wM hk), W_dash', W_inj, cM45]
      refine ⟨trivial, trivial, by unfold fixd; rfl, fun _ => ?_⟩
      simp only [z1T, w_dC, z1L, z1i, z1W, z1Y, w_d2, z2o, w_d3, z2m, z1Z, z1e, z1J, z1g, z1U, z2p, z1G, z2n, z1V, z1f, z1M, z2q, z1I, z1m, z1R, z1K, z1N, z1c, zL, z1a, z1Q, z1S, zN, z1j, zP, zM, z19, z1h, z1l, z1d, zR, z16, z1O, z18, z1n, zK, z17, z15, zO, zI, z1k, z2r, z1X, z1b, zH, z1w, z2K, z1F, w_ok, z2v, z1x, z2l, z27, z1C, z2h, z23, z2g, z1s, zU, z12, z28, z2b, z2c, z20, z2k, z21, z2i, z2F, z2D, z2B, z2L, z2y, z2H, z2t, z2A, z29, z1P, z1H, z2f, z14, z1r, Int.reduceToNat, Int.reduceLE, Int.reduceLT, Int.reduceNeg, startD, List.map_cons, List.map_nil, List.length_cons, List.length_nil, List.replicate, List.cons_append, List.nil_append, List.getElem?_cons_zero, List.getElem?_cons_succ, List.set_cons_zero, List.set_cons_succ, Nat.reduceAdd, Nat.reduceSub, Nat.reduceEqDiff, if_true, if_false, Bool.false_eq_true, decide_true, decide_false, Int.reduceEq, Int.reduceAdd, Int.reduceSub, Int.reduceMul, Bool.not_true, Bool.not_false, c_0, c_1, c_2, c_3, c_4, c_5, c_6, c_7, c_8, c_9, c_10, c_11, c_12, sz_0, sz_1, sz_2, sz_3, sz_4, sz_5, sz_6, sz_7, sz_8, sz_9, z2J, z2I, z2E, z2s, z2x, z2z, z2w, Bool.true_eq_false, eq_self, za, zb, z4, z7, z5, z3, zw, zy, zi, zr, zp, z8, zn, zj, ze, zg, zh, z6, zz, zu, zf, zq, zo, z9, zD, zE, zm, zt, zA, zc, zG, zB, zl, zv, zx, zd, z2j, z2a, zS, z1E, z1q, z25, z2C, z2u, z2G, zY, z26, z2d, zT, z1p, z1D, z24, z1o, zF, z1u, zQ, z1t, z1B, zC, zX, z10, z2e, z22, z1z, z1A, z1y, zV, z11, z1v, zJ, zW, zZ, w_sliceSW (show (wM m).length ≤ 16777216 by rw [wM_len]; omega), cutS_takeM, hk1, cutS_dropM]
      rw [w_addSW (by rw [wM_len]; simp; omega)]
      simp only [z1T, w_dC, z1L, z1i, z1W, z1Y, w_d2, z2o, w_d3, z2m, z1Z, z1e, z1J, z1g, z1U, z2p, z1G, z2n, z1V, z1f, z1M, z2q, z1I, z1m, z1R, z1K, z1N, z1c, zL, z1a, z1Q, z1S, zN, z1j, zP, zM, z19, z1h, z1l, z1d, zR, z16, z1O, z18, z1n, zK, z17, z15, zO, zI, z1k, z2r, z1X, z1b, zH, z1w, z2K, z1F, w_ok, z2v, z1x, z2l, z27, z1C, z2h, z23, z2g, z1s, zU, z12, z28, z2b, z2c, z20, z2k, z21, z2i, z2F, z2D, z2B, z2L, z2y, z2H, z2t, z2A, z29, z1P, z1H, z2f, z14, z1r, Int.reduceToNat, Int.reduceLE, Int.reduceLT, Int.reduceNeg, startD, List.map_cons, List.map_nil, List.length_cons, List.length_nil, List.replicate, List.cons_append, List.nil_append, List.getElem?_cons_zero, List.getElem?_cons_succ, List.set_cons_zero, List.set_cons_succ, Nat.reduceAdd, Nat.reduceSub, Nat.reduceEqDiff, if_true, if_false, Bool.false_eq_true, decide_true, decide_false, Int.reduceEq, Int.reduceAdd, Int.reduceSub, Int.reduceMul, Bool.not_true, Bool.not_false, c_0, c_1, c_2, c_3, c_4, c_5, c_6, c_7, c_8, c_9, c_10, c_11, c_12, sz_0, sz_1, sz_2, sz_3, sz_4, sz_5, sz_6, sz_7, sz_8, sz_9, z2J, z2I, z2E, z2s, z2x, z2z, z2w, Bool.true_eq_false, eq_self, za, zb, z4, z7, z5, z3, zw, zy, zi, zr, zp, z8, zn, zj, ze, zg, zh, z6, zz, zu, zf, zq, zo, z9, zD, zE, zm, zt, zA, zc, zG, zB, zl, zv, zx, zd, z2j, z2a, zS, z1E, z1q, z25, z2C, z2u, z2G, zY, z26, z2d, zT, z1p, z1D, z24, z1o, zF, z1u, zQ, z1t, z1B, zC, zX, z10, z2e, z22, z1z, z1A, z1y, zV, z11, z1v, zJ, zW, zZ, w_sliceSW (show (wM m).length ≤ 16777216 by rw [wM_len]; omega), cutS_takeM, hk1, cutS_dropM]
      rw [w_addSW (by rw [List.length_append, wM_len, wM_len]; simp; omega)]
      refine ⟨by first | rfl | trivial, ?_⟩
      show D.str _ = D.str _
      congr 2
      simp [wd, wM, cM]
    · intro k _ _; rfl
  simp only [hc, z1T, w_dC, z1L, z1i, z1W, z1Y, w_d2, z2o, w_d3, z2m, z1Z, z1e, z1J, z1g, z1U, z2p, z1G, z2n, z1V, z1f, z1M, z2q, z1I, z1m, z1R, z1K, z1N, z1c, zL, z1a, z1Q, z1S, zN, z1j, zP, zM, z19, z1h, z1l, z1d, zR, z16, z1O, z18, z1n, zK, z17, z15, zO, zI, z1k, z2r, z1X, z1b, zH, z1w, z2K, z1F, w_ok, z2v, z1x, z2l, z27, z1C, z2h, z23, z2g, z1s, zU, z12, z28, z2b, z2c, z20, z2k, z21, z2i, z2F, z2D, z2B, z2L, z2y, z2H, z2t, z2A, z29, z1P, z1H, z2f, z14, z1r, Int.reduceToNat, Int.reduceLE, Int.reduceLT, Int.reduceNeg, startD, List.map_cons, List.map_nil, List.length_cons, List.length_nil, List.replicate, List.cons_append, List.nil_append, List.getElem?_cons_zero, List.getElem?_cons_succ, List.set_cons_zero, List.set_cons_succ, Nat.reduceAdd, Nat.reduceSub, Nat.reduceEqDiff, if_true, if_false, Bool.false_eq_true, decide_true, decide_false, Int.reduceEq, Int.reduceAdd, Int.reduceSub, Int.reduceMul, Bool.not_true, Bool.not_false, c_0, c_1, c_2, c_3, c_4, c_5, c_6, c_7, c_8, c_9, c_10, c_11, c_12, sz_0, sz_1, sz_2, sz_3, sz_4, sz_5, sz_6, sz_7, sz_8, sz_9, z2J, z2I, z2E, z2s, z2x, z2z, z2w, Bool.true_eq_false, eq_self, za, zb, z4, z7, z5, z3, zw, zy, zi, zr, zp, z8, zn, zj, ze, zg, zh, z6, zz, zu, zf, zq, zo, z9, zD, zE, zm, zt, zA, zc, zG, zB, zl, zv, zx, zd, z2j, z2a, zS, z1E, z1q, z25, z2C, z2u, z2G, zY, z26, z2d, zT, z1p, z1D, z24, z1o, zF, z1u, zQ, z1t, z1B, zC, zX, z10, z2e, z22, z1z, z1A, z1y, zV, z11, z1v, zJ, zW, zZ]
  refine ⟨?_, app_nil S⟩
  unfold wid
  rw [List.map_map]
  rfl

theorem compL {vs : List Nat} {fi : Sl → Sto → Res ItD} {ga : D → Sl → Sto → Res Sl} {ft : Sl → Sto → Res Bool} {fe : Sl → Sto → Res D} {sd : Sl} {S S1 : Sto} {it : ItD} {ys : List D} (e : fi sd S = .ok it S1) (hlen : S1.length = S.length) (hcut : ∀ T, cutOk S (S1 ++ T) = true) (hb : D.blws S.length ys = true)
    (h : dComp vs (fun _ S => .ok it S) ga ft fe sd S1 = .ok (.ref S1.length) (S1 ++ [.lst ys])) : dFrz (dComp vs fi ga ft fe) sd S = .ok (.frl ys) S1 := by
  have e2 : dComp vs fi ga ft fe sd S = .ok (.ref S1.length) (S1 ++ [.lst ys]) := by
    rw [← h]
    unfold dComp
    rw [e]
    try rfl
  unfold dFrz
  rw [e2]
  show frzD S (.ref S1.length) (S1 ++ [.lst ys]) = _
  unfold frzD
  simp only [get_last]
  rw [if_pos ⟨by omega, hcut _, hb⟩, ← hlen, List.take_left]
theorem w_setDic' {l : Nat} {kvs : List (D × D)} {k v : D} {S : Sto} {Q : Unit → Sto → Prop} {X : Exc → Sto → Prop} (hl : S[l]? = some (.dic 0 kvs)) (hk : (key0 k).isSome = true) (hz : kvs.length < sizeLine) : Wp (setDic (.ref l) k v S) Q X = Q () (S.set l (.dic 0 (putD kvs k v))) := by
  simp only [setDic, hl, hk, decide_eq_true hz, Bool.and_self]
  rfl
def btsM (ins : Nat) (m : Mk) : List Bt := (allB ins).filter (ft m)
def knM (ins : Nat) (l : List Mk) : List (Mk × D) := l.map fun m => (m, D.tup ((btsM ins m).map sW))
def goodM (ins : Nat) (some : List Bt) : List Mk := (allM ins).filter fun m => (btsM ins m).all fun b => decide (b ∈ some)
def mks (ins : Nat) (some : List Bt) : List Pk := ((goodM ins some).filter fun m => (wid m).all fun x => !decide (x ∈ goodM ins some)).map fun m => (m, btsM ins m)
theorem knM_keys {ins : Nat} {l : List Mk} : (knM ins l).map (·.1) = l := by
  unfold knM
  rw [List.map_map]
  exact List.map_id l
theorem knM_get {ins : Nat} {l : List Mk} {m : Mk} (h : m ∈ l) : getE (knM ins l) m = some (.tup ((btsM ins m).map sW)) := by
  unfold getE
  cases e : (knM ins l).find? fun p => decide (p.1 = m) with
  | none =>
    have := List.find?_eq_none.mp e (m, D.tup ((btsM ins m).map sW)) (List.mem_map.mpr ⟨m, h, rfl⟩)
    simp at this
  | some p =>
    have h0 := List.find?_some e
    have h1 := of_decide_eq_true h0
    obtain ⟨x, _, rfl⟩ := List.mem_map.mp (List.mem_of_find?_eq_some e)
    have h1 : x = m := h1
    subst h1
    rfl
theorem btsM_len {ins : Nat} {m : Mk} (h : ins ≤ 4) : (btsM ins m).length ≤ 16 := by
  have h1 := List.length_filter_le (ft m) (allB ins)
  rw [allB_many] at h1
  have := pow_le h
  unfold btsM
  omega
theorem in_sW {b : Bt} {l : List Bt} : (sW b ∈ l.map sW) ↔ b ∈ l := ⟨fun z => by
  obtain ⟨c, hc, e⟩ := List.mem_map.mp z
  rw [← sW_inj e]
  exact hc, fun z => List.mem_map.mpr ⟨b, z, rfl⟩⟩
theorem in_mW {b : Mk} {l : List Mk} : (mW b ∈ l.map mW) ↔ b ∈ l := ⟨fun z => by
  obtain ⟨c, hc, e⟩ := List.mem_map.mp z
  rw [← mW_inj e]
  exact hc, fun z => List.mem_map.mpr ⟨b, z, rfl⟩⟩
theorem marks_of_ok {ins : Nat} {some' : List Bt} {S : Sto} (i4 : ins ≤ 4) (hl : some'.length ≤ 100) : F_marks_of [.int ((ins : Nat) : Int), .frl (some'.map sW)] S = .ok (.frl ((mks ins some').map pkD)) S := by
  unfold F_marks_of
  have hpk : D.blw S.length (.frl ((mks ins some').map pkD)) = true := gd_blw (n := 3) _ (gd_frl (gd_map fun q _ => gd_tup fun d hd => by
    have : d = mW q.1 ∨ d = .tup (q.2.map sW) := by simpa [pkD] using hd
    rcases this with rfl | rfl
    · exact gd_W (wM_ok q.1)
    · exact gd_tup sW_gd0))
  refine fn_ok hpk ?_
  unfold b_marks_of
  have p81 : (allM ins).length ≤ 81 := by
    rw [allM_many]
    exact Nat.pow_le_pow_right (n := 3) (by decide) i4
  have hbl : ∀ b ∈ allB ins, b.length = ins := fun b hb => allB_len ins b hb
  have hB16 : (allB ins).length ≤ 16 := by rw [allB_many]; exact pow_le i4
  simp only [z1T, w_dC, z1L, z1i, z1W, z1Y, w_d2, z2o, w_d3, z2m, z1Z, z1e, z1J, z1g, z1U, z2p, z1G, z2n, z1V, z1f, z1M, z2q, z1I, z1m, z1R, z1K, z1N, z1c, zL, z1a, z1Q, z1S, zN, z1j, zP, zM, z19, z1h, z1l, z1d, zR, z16, z1O, z18, z1n, zK, z17, z15, zO, zI, z1k, z2r, z1X, z1b, zH, z1w, z2K, z1F, w_ok, z2v, z1x, z2l, z27, z1C, z2h, z23, z2g, z1s, zU, z12, z28, z2b, z2c, z20, z2k, z21, z2i, z2F, z2D, z2B, z2L, z2y, z2H, z2t, z2A, z29, z1P, z1H, z2f, z14, z1r, Int.reduceToNat, Int.reduceLE, Int.reduceLT, Int.reduceNeg, startD, List.map_cons, List.map_nil, List.length_cons, List.length_nil, List.replicate, List.cons_append, List.nil_append, List.getElem?_cons_zero, List.getElem?_cons_succ, List.set_cons_zero, List.set_cons_succ, Nat.reduceAdd, Nat.reduceSub, Nat.reduceEqDiff, if_true, if_false, Bool.false_eq_true, decide_true, decide_false, Int.reduceEq, Int.reduceAdd, Int.reduceSub, Int.reduceMul, Bool.not_true, Bool.not_false, c_0, c_1, c_2, c_3, c_4, c_5, c_6, c_7, c_8, c_9, c_10, c_11, c_12, sz_0, sz_1, sz_2, sz_3, sz_4, sz_5, sz_6, sz_7, sz_8, sz_9, z2J, z2I, z2E, z2s, z2x, z2z, z2w, Bool.true_eq_false, eq_self, za, zb, z4, z7, z5, z3, zw, zy, zi, zr, zp, z8, zn, zj, ze, zg, zh, z6, zz, zu, zf, zq, zo, z9, zD, zE, zm, zt, zA, zc, zG, zB, zl, zv, zx, zd, z2j, z2a, zS, z1E, z1q, z25, z2C, z2u, z2G, zY, z26, z2d, zT, z1p, z1D, z24, z1o, zF, z1u, zQ, z1t, z1B, zC, zX, z10, z2e, z22, z1z, z1A, z1y, zV, z11, z1v, zJ, zW, zZ, all_beats_ok i4, zQ, all_marks_ok i4, itemsD]
  refine w_loopP mW (fun pre sd S' => S' = S ++ [.dic 0 (kvE mW (knM ins pre))] ∧ ∃ a4, sd = [some (.int ((ins : Nat) : Int)), some (.frl (some'.map sW)), some (.frl ((allB ins).map sW)), some (.ref S.length), a4, none, none, none]) (allM ins) (fun _ _ _ _ _ _ => rfl) ⟨rfl, _, rfl⟩ ?_ ?_
  · rintro sd S' ⟨rfl, a4, rfl⟩
    have gk : ∀ {m : Mk}, m ∈ allM ins → getK (kvE mW (knM ins (allM ins))) (mW m) = some (.tup ((btsM ins m).map sW)) := fun {m} hm => by rw [getK_E (fun a b => mW_inj), knM_get hm]
    have keys : (kvE mW (knM ins (allM ins))).map (·.1) = (allM ins).map mW := by
      unfold kvE knM
      rw [List.map_map, List.map_map]
      rfl
    generalize hkv : kvE mW (knM ins (allM ins)) = kv at gk keys
    have at3 : ∀ {S'' : Sto}, Grow (S ++ [DO.dic 3 kv]) S'' → S''[S.length]? = some (.dic 3 kv) := fun {S''} g => by
      obtain ⟨T, rfl⟩ := g
      rw [List.append_assoc]
      exact get_mid rfl
    have hkb : (DO.dic 3 kv).blw (S ++ [DO.dic 0 kv]).length = true := by
      rw [← hkv]
      show ((kvE mW (knM ins (allM ins))).all fun p => p.2.blw _) = true
      rw [List.all_eq_true]
      intro p hp
      obtain ⟨q, hq, rfl⟩ := List.mem_map.mp hp
      obtain ⟨x, _, rfl⟩ := List.mem_map.mp hq
      exact gd_blw (n := 1) _ (gd_tup sW_gd0)
    have g_some : ∀ d ∈ some'.map sW, GD 0 d := sW_gd0
    have hin : ∀ {m : Mk} {S'' : Sto} {x0 x2 x5 x6 x7 : Option D}, m ∈ allM ins → Grow (S ++ [DO.dic 3 kv]) S'' → dFrz (dComp [6] (iVal (d2 ixDic3 (dVar 3) (dVar 4))) (gVar 6) (d2T notInD (dVar 6) (dVar 1)) (dVar 6)) [x0, some (.frl (some'.map sW)), x2, some (.ref S.length), some (mW m), x5, x6, x7] S'' = .ok (.frl (((btsM ins m).filter fun b => !decide (b ∈ some')).map sW)) S'' := fun {m S'' x0 x2 x5 x6 x7} hm g => by
      have hb16 := btsM_len (m := m) i4
      refine compF (btsM ins m) sW _ _ ?_ (Nat.le_trans (List.length_filter_le _ _) (szn (by omega))) ?_ ?_
      · simp only [z1T, w_dC, z1L, z1i, z1W, z1Y, w_d2, z2o, w_d3, z2m, z1Z, z1e, z1J, z1g, z1U, z2p, z1G, z2n, z1V, z1f, z1M, z2q, z1I, z1m, z1R, z1K, z1N, z1c, zL, z1a, z1Q, z1S, zN, z1j, zP, zM, z19, z1h, z1l, z1d, zR, z16, z1O, z18, z1n, zK, z17, z15, zO, zI, z1k, z2r, z1X, z1b, zH, z1w, z2K, z1F, w_ok, z2v, z1x, z2l, z27, z1C, z2h, z23, z2g, z1s, zU, z12, z28, z2b, z2c, z20, z2k, z21, z2i, z2F, z2D, z2B, z2L, z2y, z2H, z2t, z2A, z29, z1P, z1H, z2f, z14, z1r, Int.reduceToNat, Int.reduceLE, Int.reduceLT, Int.reduceNeg, startD, List.map_cons, List.map_nil, List.length_cons, List.length_nil, List.replicate, List.cons_append, List.nil_append, List.getElem?_cons_zero, List.getElem?_cons_succ, List.set_cons_zero, List.set_cons_succ, Nat.reduceAdd, Nat.reduceSub, Nat.reduceEqDiff, if_true, if_false, Bool.false_eq_true, decide_true, decide_false, Int.reduceEq, Int.reduceAdd, Int.reduceSub, Int.reduceMul, Bool.not_true, Bool.not_false, c_0, c_1, c_2, c_3, c_4, c_5, c_6, c_7, c_8, c_9, c_10, c_11, c_12, sz_0, sz_1, sz_2, sz_3, sz_4, sz_5, sz_6, sz_7, sz_8, sz_9, z2J, z2I, z2E, z2s, z2x, z2z, z2w, Bool.true_eq_false, eq_self, za, zb, z4, z7, z5, z3, zw, zy, zi, zr, zp, z8, zn, zj, ze, zg, zh, z6, zz, zu, zf, zq, zo, z9, zD, zE, zm, zt, zA, zc, zG, zB, zl, zv, zx, zd, z2j, z2a, zS, z1E, z1q, z25, z2C, z2u, z2G, zY, z26, z2d, zT, z1p, z1D, z24, z1o, zF, z1u, zQ, z1t, z1B, zC, zX, z10, z2e, z22, z1z, z1A, z1y, zV, z11, z1v, zJ, zW, zZ]
        rw [w_ixDic3 (at3 g) rfl (gk hm)]
        simp only [z1T, w_dC, z1L, z1i, z1W, z1Y, w_d2, z2o, w_d3, z2m, z1Z, z1e, z1J, z1g, z1U, z2p, z1G, z2n, z1V, z1f, z1M, z2q, z1I, z1m, z1R, z1K, z1N, z1c, zL, z1a, z1Q, z1S, zN, z1j, zP, zM, z19, z1h, z1l, z1d, zR, z16, z1O, z18, z1n, zK, z17, z15, zO, zI, z1k, z2r, z1X, z1b, zH, z1w, z2K, z1F, w_ok, z2v, z1x, z2l, z27, z1C, z2h, z23, z2g, z1s, zU, z12, z28, z2b, z2c, z20, z2k, z21, z2i, z2F, z2D, z2B, z2L, z2y, z2H, z2t, z2A, z29, z1P, z1H, z2f, z14, z1r, Int.reduceToNat, Int.reduceLE, Int.reduceLT, Int.reduceNeg, startD, List.map_cons, List.map_nil, List.length_cons, List.length_nil, List.replicate, List.cons_append, List.nil_append, List.getElem?_cons_zero, List.getElem?_cons_succ, List.set_cons_zero, List.set_cons_succ, Nat.reduceAdd, Nat.reduceSub, Nat.reduceEqDiff, if_true, if_false, Bool.false_eq_true, decide_true, decide_false, Int.reduceEq, Int.reduceAdd, Int.reduceSub, Int.reduceMul, Bool.not_true, Bool.not_false, c_0, c_1, c_2, c_3, c_4, c_5, c_6, c_7, c_8, c_9, c_10, c_11, c_12, sz_0, sz_1, sz_2, sz_3, sz_4, sz_5, sz_6, sz_7, sz_8, sz_9, z2J, z2I, z2E, z2s, z2x, z2z, z2w, Bool.true_eq_false, eq_self, za, zb, z4, z7, z5, z3, zw, zy, zi, zr, zp, z8, zn, zj, ze, zg, zh, z6, zz, zu, zf, zq, zo, z9, zD, zE, zm, zt, zA, zc, zG, zB, zl, zv, zx, zd, z2j, z2a, zS, z1E, z1q, z25, z2C, z2u, z2G, zY, z26, z2d, zT, z1p, z1D, z24, z1o, zF, z1u, zQ, z1t, z1B, zC, zX, z10, z2e, z22, z1z, z1A, z1y, zV, z11, z1v, zJ, zW, zZ, itemsD]
        exact ⟨by first | rfl | trivial, by first | rfl | trivial, fun _ _ => rfl⟩
      · intro b _ S3 _
        simp only [z1T, w_dC, z1L, z1i, z1W, z1Y, w_d2, z2o, w_d3, z2m, z1Z, z1e, z1J, z1g, z1U, z2p, z1G, z2n, z1V, z1f, z1M, z2q, z1I, z1m, z1R, z1K, z1N, z1c, zL, z1a, z1Q, z1S, zN, z1j, zP, zM, z19, z1h, z1l, z1d, zR, z16, z1O, z18, z1n, zK, z17, z15, zO, zI, z1k, z2r, z1X, z1b, zH, z1w, z2K, z1F, w_ok, z2v, z1x, z2l, z27, z1C, z2h, z23, z2g, z1s, zU, z12, z28, z2b, z2c, z20, z2k, z21, z2i, z2F, z2D, z2B, z2L, z2y, z2H, z2t, z2A, z29, z1P, z1H, z2f, z14, z1r, Int.reduceToNat, Int.reduceLE, Int.reduceLT, Int.reduceNeg, startD, List.map_cons, List.map_nil, List.length_cons, List.length_nil, List.replicate, List.cons_append, List.nil_append, List.getElem?_cons_zero, List.getElem?_cons_succ, List.set_cons_zero, List.set_cons_succ, Nat.reduceAdd, Nat.reduceSub, Nat.reduceEqDiff, if_true, if_false, Bool.false_eq_true, decide_true, decide_false, Int.reduceEq, Int.reduceAdd, Int.reduceSub, Int.reduceMul, Bool.not_true, Bool.not_false, c_0, c_1, c_2, c_3, c_4, c_5, c_6, c_7, c_8, c_9, c_10, c_11, c_12, sz_0, sz_1, sz_2, sz_3, sz_4, sz_5, sz_6, sz_7, sz_8, sz_9, z2J, z2I, z2E, z2s, z2x, z2z, z2w, Bool.true_eq_false, eq_self, za, zb, z4, z7, z5, z3, zw, zy, zi, zr, zp, z8, zn, zj, ze, zg, zh, z6, zz, zu, zf, zq, zo, z9, zD, zE, zm, zt, zA, zc, zG, zB, zl, zv, zx, zd, z2j, z2a, zS, z1E, z1q, z25, z2C, z2u, z2G, zY, z26, z2d, zT, z1p, z1D, z24, z1o, zF, z1u, zQ, z1t, z1B, zC, zX, z10, z2e, z22, z1z, z1A, z1y, zV, z11, z1v, zJ, zW, zZ, wipeD]
        have e : decide (sW b ∈ some'.map sW) = decide (b ∈ some') := decide_eq_decide.mpr in_sW
        rw [w_notInL (x := sW b) (y := .frl (some'.map sW)) (ds := some'.map sW) rfl (show GD 0 (sW b) from gd_W (wB_ok b)) g_some, e]
        simp only [z1T, w_dC, z1L, z1i, z1W, z1Y, w_d2, z2o, w_d3, z2m, z1Z, z1e, z1J, z1g, z1U, z2p, z1G, z2n, z1V, z1f, z1M, z2q, z1I, z1m, z1R, z1K, z1N, z1c, zL, z1a, z1Q, z1S, zN, z1j, zP, zM, z19, z1h, z1l, z1d, zR, z16, z1O, z18, z1n, zK, z17, z15, zO, zI, z1k, z2r, z1X, z1b, zH, z1w, z2K, z1F, w_ok, z2v, z1x, z2l, z27, z1C, z2h, z23, z2g, z1s, zU, z12, z28, z2b, z2c, z20, z2k, z21, z2i, z2F, z2D, z2B, z2L, z2y, z2H, z2t, z2A, z29, z1P, z1H, z2f, z14, z1r, Int.reduceToNat, Int.reduceLE, Int.reduceLT, Int.reduceNeg, startD, List.map_cons, List.map_nil, List.length_cons, List.length_nil, List.replicate, List.cons_append, List.nil_append, List.getElem?_cons_zero, List.getElem?_cons_succ, List.set_cons_zero, List.set_cons_succ, Nat.reduceAdd, Nat.reduceSub, Nat.reduceEqDiff, if_true, if_false, Bool.false_eq_true, decide_true, decide_false, Int.reduceEq, Int.reduceAdd, Int.reduceSub, Int.reduceMul, Bool.not_true, Bool.not_false, c_0, c_1, c_2, c_3, c_4, c_5, c_6, c_7, c_8, c_9, c_10, c_11, c_12, sz_0, sz_1, sz_2, sz_3, sz_4, sz_5, sz_6, sz_7, sz_8, sz_9, z2J, z2I, z2E, z2s, z2x, z2z, z2w, Bool.true_eq_false, eq_self, za, zb, z4, z7, z5, z3, zw, zy, zi, zr, zp, z8, zn, zj, ze, zg, zh, z6, zz, zu, zf, zq, zo, z9, zD, zE, zm, zt, zA, zc, zG, zB, zl, zv, zx, zd, z2j, z2a, zS, z1E, z1q, z25, z2C, z2u, z2G, zY, z26, z2d, zT, z1p, z1D, z24, z1o, zF, z1u, zQ, z1t, z1B, zC, zX, z10, z2e, z22, z1z, z1A, z1y, zV, z11, z1v, zJ, zW, zZ]
        exact ⟨by first | rfl | trivial, by first | rfl | trivial, by first | rfl | trivial, fun _ => ⟨by first | rfl | trivial, by first | rfl | trivial⟩⟩
      · intro b _ _; rfl
    have gS : ∀ {m : Mk}, ∀ b ∈ btsM ins m, GD 0 (sW b) := fun {m} b _ => gd_W (wB_ok b)
    have e5 : ∀ {a4 : Option D}, dFrz (dComp [4] (iKeysD (dLockD (dVar 3))) (gVar 4) (d2T eqD (dFrz (dComp [6] (iVal (d2 ixDic3 (dVar 3) (dVar 4))) (gVar 6) (d2T notInD (dVar 6) (dVar 1)) (dVar 6))) (dLstF dNil)) (dVar 4)) [some (.int ((ins : Nat) : Int)), some (.frl (some'.map sW)), some (.frl ((allB ins).map sW)), some (.ref S.length), a4, none, none, none] (S ++ [DO.dic 0 kv]) = .ok (.frl ((goodM ins some').map mW)) (S ++ [DO.dic 3 kv]) := fun {a4} => by
      refine compL (it := ⟨kv.map (·.1), chk3 S.length kv⟩) ?_ (by simp) (fun T => ?_) (gd_blws (n := 0) _ mW_gds) ?_
      · unfold iKeysD dLockD lockD
        simp only [dVar, List.getElem?_cons_succ, List.getElem?_cons_zero, Res.bind, get_last, set_last]
      · have := cutOk_set (S ++ [DO.dic 0 kv]) T S.length (.dic 3 kv) hkb
        rw [set_last] at this
        exact this
      · exact compR (S := S ++ [DO.dic 3 kv]) (sd := [some (.int ((ins : Nat) : Int)), some (.frl (some'.map sW)), some (.frl ((allB ins).map sW)), some (.ref S.length), a4, none, none, none]) (vs := [4]) (fi := fun _ S' => .ok ⟨kv.map (·.1), chk3 S.length kv⟩ S') (ga := gVar 4) (ft := d2T eqD (dFrz (dComp [6] (iVal (d2 ixDic3 (dVar 3) (dVar 4))) (gVar 6) (d2T notInD (dVar 6) (dVar 1)) (dVar 6))) (dLstF dNil)) (fe := dVar 4) (allM ins) mW (fun m => (btsM ins m).all fun b => decide (b ∈ some')) mW
          ⟨rfl, keys, fun S' g => decide_eq_true (at3 g)⟩ (Nat.le_trans (List.length_filter_le _ _) (szn (by omega))) (fun m hm S3 g => by
            simp only [z1T, w_dC, z1L, z1i, z1W, z1Y, w_d2, z2o, w_d3, z2m, z1Z, z1e, z1J, z1g, z1U, z2p, z1G, z2n, z1V, z1f, z1M, z2q, z1I, z1m, z1R, z1K, z1N, z1c, zL, z1a, z1Q, z1S, zN, z1j, zP, zM, z19, z1h, z1l, z1d, zR, z16, z1O, z18, z1n, zK, z17, z15, zO, zI, z1k, z2r, z1X, z1b, zH, z1w, z2K, z1F, w_ok, z2v, z1x, z2l, z27, z1C, z2h, z23, z2g, z1s, zU, z12, z28, z2b, z2c, z20, z2k, z21, z2i, z2F, z2D, z2B, z2L, z2y, z2H, z2t, z2A, z29, z1P, z1H, z2f, z14, z1r, Int.reduceToNat, Int.reduceLE, Int.reduceLT, Int.reduceNeg, startD, List.map_cons, List.map_nil, List.length_cons, List.length_nil, List.replicate, List.cons_append, List.nil_append, List.getElem?_cons_zero, List.getElem?_cons_succ, List.set_cons_zero, List.set_cons_succ, Nat.reduceAdd, Nat.reduceSub, Nat.reduceEqDiff, if_true, if_false, Bool.false_eq_true, decide_true, decide_false, Int.reduceEq, Int.reduceAdd, Int.reduceSub, Int.reduceMul, Bool.not_true, Bool.not_false, c_0, c_1, c_2, c_3, c_4, c_5, c_6, c_7, c_8, c_9, c_10, c_11, c_12, sz_0, sz_1, sz_2, sz_3, sz_4, sz_5, sz_6, sz_7, sz_8, sz_9, z2J, z2I, z2E, z2s, z2x, z2z, z2w, Bool.true_eq_false, eq_self, za, zb, z4, z7, z5, z3, zw, zy, zi, zr, zp, z8, zn, zj, ze, zg, zh, z6, zz, zu, zf, zq, zo, z9, zD, zE, zm, zt, zA, zc, zG, zB, zl, zv, zx, zd, z2j, z2a, zS, z1E, z1q, z25, z2C, z2u, z2G, zY, z26, z2d, zT, z1p, z1D, z24, z1o, zF, z1u, zQ, z1t, z1B, zC, zX, z10, z2e, z22, z1z, z1A, z1y, zV, z11, z1v, zJ, zW, zZ, wipeD, hin hm g]
            rw [w_eqNil (n := 0) gS]
            simp only [z1T, w_dC, z1L, z1i, z1W, z1Y, w_d2, z2o, w_d3, z2m, z1Z, z1e, z1J, z1g, z1U, z2p, z1G, z2n, z1V, z1f, z1M, z2q, z1I, z1m, z1R, z1K, z1N, z1c, zL, z1a, z1Q, z1S, zN, z1j, zP, zM, z19, z1h, z1l, z1d, zR, z16, z1O, z18, z1n, zK, z17, z15, zO, zI, z1k, z2r, z1X, z1b, zH, z1w, z2K, z1F, w_ok, z2v, z1x, z2l, z27, z1C, z2h, z23, z2g, z1s, zU, z12, z28, z2b, z2c, z20, z2k, z21, z2i, z2F, z2D, z2B, z2L, z2y, z2H, z2t, z2A, z29, z1P, z1H, z2f, z14, z1r, Int.reduceToNat, Int.reduceLE, Int.reduceLT, Int.reduceNeg, startD, List.map_cons, List.map_nil, List.length_cons, List.length_nil, List.replicate, List.cons_append, List.nil_append, List.getElem?_cons_zero, List.getElem?_cons_succ, List.set_cons_zero, List.set_cons_succ, Nat.reduceAdd, Nat.reduceSub, Nat.reduceEqDiff, if_true, if_false, Bool.false_eq_true, decide_true, decide_false, Int.reduceEq, Int.reduceAdd, Int.reduceSub, Int.reduceMul, Bool.not_true, Bool.not_false, c_0, c_1, c_2, c_3, c_4, c_5, c_6, c_7, c_8, c_9, c_10, c_11, c_12, sz_0, sz_1, sz_2, sz_3, sz_4, sz_5, sz_6, sz_7, sz_8, sz_9, z2J, z2I, z2E, z2s, z2x, z2z, z2w, Bool.true_eq_false, eq_self, za, zb, z4, z7, z5, z3, zw, zy, zi, zr, zp, z8, zn, zj, ze, zg, zh, z6, zz, zu, zf, zq, zo, z9, zD, zE, zm, zt, zA, zc, zG, zB, zl, zv, zx, zd, z2j, z2a, zS, z1E, z1q, z25, z2C, z2u, z2G, zY, z26, z2d, zT, z1p, z1D, z24, z1o, zF, z1u, zQ, z1t, z1B, zC, zX, z10, z2e, z22, z1z, z1A, z1y, zV, z11, z1v, zJ, zW, zZ, Bool.not_not]
            exact ⟨by first | rfl | trivial, by first | rfl | trivial, by first | rfl | trivial, fun _ => ⟨by first | rfl | trivial, by first | rfl | trivial⟩⟩)
    simp only [z1T, w_dC, z1L, z1i, z1W, z1Y, w_d2, z2o, w_d3, z2m, z1Z, z1e, z1J, z1g, z1U, z2p, z1G, z2n, z1V, z1f, z1M, z2q, z1I, z1m, z1R, z1K, z1N, z1c, zL, z1a, z1Q, z1S, zN, z1j, zP, zM, z19, z1h, z1l, z1d, zR, z16, z1O, z18, z1n, zK, z17, z15, zO, zI, z1k, z2r, z1X, z1b, zH, z1w, z2K, z1F, w_ok, z2v, z1x, z2l, z27, z1C, z2h, z23, z2g, z1s, zU, z12, z28, z2b, z2c, z20, z2k, z21, z2i, z2F, z2D, z2B, z2L, z2y, z2H, z2t, z2A, z29, z1P, z1H, z2f, z14, z1r, Int.reduceToNat, Int.reduceLE, Int.reduceLT, Int.reduceNeg, startD, List.map_cons, List.map_nil, List.length_cons, List.length_nil, List.replicate, List.cons_append, List.nil_append, List.getElem?_cons_zero, List.getElem?_cons_succ, List.set_cons_zero, List.set_cons_succ, Nat.reduceAdd, Nat.reduceSub, Nat.reduceEqDiff, if_true, if_false, Bool.false_eq_true, decide_true, decide_false, Int.reduceEq, Int.reduceAdd, Int.reduceSub, Int.reduceMul, Bool.not_true, Bool.not_false, c_0, c_1, c_2, c_3, c_4, c_5, c_6, c_7, c_8, c_9, c_10, c_11, c_12, sz_0, sz_1, sz_2, sz_3, sz_4, sz_5, sz_6, sz_7, sz_8, sz_9, z2J, z2I, z2E, z2s, z2x, z2z, z2w, Bool.true_eq_false, eq_self, za, zb, z4, z7, z5, z3, zw, zy, zi, zr, zp, z8, zn, zj, ze, zg, zh, z6, zz, zu, zf, zq, zo, z9, zD, zE, zm, zt, zA, zc, zG, zB, zl, zv, zx, zd, z2j, z2a, zS, z1E, z1q, z25, z2C, z2u, z2G, zY, z26, z2d, zT, z1p, z1D, z24, z1o, zF, z1u, zQ, z1t, z1B, zC, zX, z10, z2e, z22, z1z, z1A, z1y, zV, z11, z1v, zJ, zW, zZ, e5]
    have hgl : (goodM ins some').length ≤ 81 := Nat.le_trans (List.length_filter_le _ _) p81
    have hgm : ∀ {m : Mk}, m ∈ goodM ins some' → m ∈ allM ins := fun {m} h => (List.mem_filter.mp h).1
    have hw : ∀ {m : Mk} {S3 : Sto} {x0 x1 x2 x3 x6 x7 : Option D}, m ∈ allM ins → dFrz (dComp [7] (iVal (dCallF 1 F_wider (dCons (dVar 4) dNil))) (gVar 7) (d2T inD (dVar 7) (dVar 5)) (dVar 7)) [x0, x1, x2, x3, some (mW m), some (.frl ((goodM ins some').map mW)), x6, x7] S3 = .ok (.frl (((wid m).filter fun x => decide (x ∈ goodM ins some')).map mW)) S3 := fun {m S3 x0 x1 x2 x3 x6 x7} hm => by
      have hml := allM_len ins hm
      have hwl : (wid m).length ≤ 100 := by
        unfold wid
        rw [List.length_map]
        exact Nat.le_trans (List.length_filter_le _ _) (by simp; omega)
      refine compF (wid m) mW _ _ ?_ (Nat.le_trans (List.length_filter_le _ _) (szn (by omega))) ?_ ?_
      · simp only [z1T, w_dC, z1L, z1i, z1W, z1Y, w_d2, z2o, w_d3, z2m, z1Z, z1e, z1J, z1g, z1U, z2p, z1G, z2n, z1V, z1f, z1M, z2q, z1I, z1m, z1R, z1K, z1N, z1c, zL, z1a, z1Q, z1S, zN, z1j, zP, zM, z19, z1h, z1l, z1d, zR, z16, z1O, z18, z1n, zK, z17, z15, zO, zI, z1k, z2r, z1X, z1b, zH, z1w, z2K, z1F, w_ok, z2v, z1x, z2l, z27, z1C, z2h, z23, z2g, z1s, zU, z12, z28, z2b, z2c, z20, z2k, z21, z2i, z2F, z2D, z2B, z2L, z2y, z2H, z2t, z2A, z29, z1P, z1H, z2f, z14, z1r, Int.reduceToNat, Int.reduceLE, Int.reduceLT, Int.reduceNeg, startD, List.map_cons, List.map_nil, List.length_cons, List.length_nil, List.replicate, List.cons_append, List.nil_append, List.getElem?_cons_zero, List.getElem?_cons_succ, List.set_cons_zero, List.set_cons_succ, Nat.reduceAdd, Nat.reduceSub, Nat.reduceEqDiff, if_true, if_false, Bool.false_eq_true, decide_true, decide_false, Int.reduceEq, Int.reduceAdd, Int.reduceSub, Int.reduceMul, Bool.not_true, Bool.not_false, c_0, c_1, c_2, c_3, c_4, c_5, c_6, c_7, c_8, c_9, c_10, c_11, c_12, sz_0, sz_1, sz_2, sz_3, sz_4, sz_5, sz_6, sz_7, sz_8, sz_9, z2J, z2I, z2E, z2s, z2x, z2z, z2w, Bool.true_eq_false, eq_self, za, zb, z4, z7, z5, z3, zw, zy, zi, zr, zp, z8, zn, zj, ze, zg, zh, z6, zz, zu, zf, zq, zo, z9, zD, zE, zm, zt, zA, zc, zG, zB, zl, zv, zx, zd, z2j, z2a, zS, z1E, z1q, z25, z2C, z2u, z2G, zY, z26, z2d, zT, z1p, z1D, z24, z1o, zF, z1u, zQ, z1t, z1B, zC, zX, z10, z2e, z22, z1z, z1A, z1y, zV, z11, z1v, zJ, zW, zZ, wider_ok (show m.length ≤ 100 by omega), itemsD]
        exact ⟨by first | rfl | trivial, by first | rfl | trivial, fun _ _ => rfl⟩
      · intro x _ S4 _
        simp only [z1T, w_dC, z1L, z1i, z1W, z1Y, w_d2, z2o, w_d3, z2m, z1Z, z1e, z1J, z1g, z1U, z2p, z1G, z2n, z1V, z1f, z1M, z2q, z1I, z1m, z1R, z1K, z1N, z1c, zL, z1a, z1Q, z1S, zN, z1j, zP, zM, z19, z1h, z1l, z1d, zR, z16, z1O, z18, z1n, zK, z17, z15, zO, zI, z1k, z2r, z1X, z1b, zH, z1w, z2K, z1F, w_ok, z2v, z1x, z2l, z27, z1C, z2h, z23, z2g, z1s, zU, z12, z28, z2b, z2c, z20, z2k, z21, z2i, z2F, z2D, z2B, z2L, z2y, z2H, z2t, z2A, z29, z1P, z1H, z2f, z14, z1r, Int.reduceToNat, Int.reduceLE, Int.reduceLT, Int.reduceNeg, startD, List.map_cons, List.map_nil, List.length_cons, List.length_nil, List.replicate, List.cons_append, List.nil_append, List.getElem?_cons_zero, List.getElem?_cons_succ, List.set_cons_zero, List.set_cons_succ, Nat.reduceAdd, Nat.reduceSub, Nat.reduceEqDiff, if_true, if_false, Bool.false_eq_true, decide_true, decide_false, Int.reduceEq, Int.reduceAdd, Int.reduceSub, Int.reduceMul, Bool.not_true, Bool.not_false, c_0, c_1, c_2, c_3, c_4, c_5, c_6, c_7, c_8, c_9, c_10, c_11, c_12, sz_0, sz_1, sz_2, sz_3, sz_4, sz_5, sz_6, sz_7, sz_8, sz_9, z2J, z2I, z2E, z2s, z2x, z2z, z2w, Bool.true_eq_false, eq_self, za, zb, z4, z7, z5, z3, zw, zy, zi, zr, zp, z8, zn, zj, ze, zg, zh, z6, zz, zu, zf, zq, zo, z9, zD, zE, zm, zt, zA, zc, zG, zB, zl, zv, zx, zd, z2j, z2a, zS, z1E, z1q, z25, z2C, z2u, z2G, zY, z26, z2d, zT, z1p, z1D, z24, z1o, zF, z1u, zQ, z1t, z1B, zC, zX, z10, z2e, z22, z1z, z1A, z1y, zV, z11, z1v, zJ, zW, zZ, wipeD]
        have e : decide (mW x ∈ (goodM ins some').map mW) = decide (x ∈ goodM ins some') := decide_eq_decide.mpr in_mW
        rw [w_inL (x := mW x) (y := .frl ((goodM ins some').map mW)) (ds := (goodM ins some').map mW) rfl (show GD 0 (mW x) from gd_W (wM_ok x)) mW_gds, e]
        simp only [z1T, w_dC, z1L, z1i, z1W, z1Y, w_d2, z2o, w_d3, z2m, z1Z, z1e, z1J, z1g, z1U, z2p, z1G, z2n, z1V, z1f, z1M, z2q, z1I, z1m, z1R, z1K, z1N, z1c, zL, z1a, z1Q, z1S, zN, z1j, zP, zM, z19, z1h, z1l, z1d, zR, z16, z1O, z18, z1n, zK, z17, z15, zO, zI, z1k, z2r, z1X, z1b, zH, z1w, z2K, z1F, w_ok, z2v, z1x, z2l, z27, z1C, z2h, z23, z2g, z1s, zU, z12, z28, z2b, z2c, z20, z2k, z21, z2i, z2F, z2D, z2B, z2L, z2y, z2H, z2t, z2A, z29, z1P, z1H, z2f, z14, z1r, Int.reduceToNat, Int.reduceLE, Int.reduceLT, Int.reduceNeg, startD, List.map_cons, List.map_nil, List.length_cons, List.length_nil, List.replicate, List.cons_append, List.nil_append, List.getElem?_cons_zero, List.getElem?_cons_succ, List.set_cons_zero, List.set_cons_succ, Nat.reduceAdd, Nat.reduceSub, Nat.reduceEqDiff, if_true, if_false, Bool.false_eq_true, decide_true, decide_false, Int.reduceEq, Int.reduceAdd, Int.reduceSub, Int.reduceMul, Bool.not_true, Bool.not_false, c_0, c_1, c_2, c_3, c_4, c_5, c_6, c_7, c_8, c_9, c_10, c_11, c_12, sz_0, sz_1, sz_2, sz_3, sz_4, sz_5, sz_6, sz_7, sz_8, sz_9, z2J, z2I, z2E, z2s, z2x, z2z, z2w, Bool.true_eq_false, eq_self, za, zb, z4, z7, z5, z3, zw, zy, zi, zr, zp, z8, zn, zj, ze, zg, zh, z6, zz, zu, zf, zq, zo, z9, zD, zE, zm, zt, zA, zc, zG, zB, zl, zv, zx, zd, z2j, z2a, zS, z1E, z1q, z25, z2C, z2u, z2G, zY, z26, z2d, zT, z1p, z1D, z24, z1o, zF, z1u, zQ, z1t, z1B, zC, zX, z10, z2e, z22, z1z, z1A, z1y, zV, z11, z1v, zJ, zW, zZ]
        exact ⟨by first | rfl | trivial, by first | rfl | trivial, by first | rfl | trivial, fun _ => ⟨by first | rfl | trivial, by first | rfl | trivial⟩⟩
      · intro x _ _; rfl
    have gM : ∀ {m : Mk}, ∀ b ∈ wid m, GD 0 (mW b) := fun {m} b _ => gd_W (wM_ok b)
    have e6 : ∀ {a4 : Option D}, dFrz (dComp [4] (iVal (dVar 5)) (gVar 4) (d2T eqD (dFrz (dComp [7] (iVal (dCallF 1 F_wider (dCons (dVar 4) dNil))) (gVar 7) (d2T inD (dVar 7) (dVar 5)) (dVar 7))) (dLstF dNil)) (dTup (dCons (dVar 4) (dCons (d2 ixDic3 (dVar 3) (dVar 4)) dNil)))) [some (.int ((ins : Nat) : Int)), some (.frl (some'.map sW)), some (.frl ((allB ins).map sW)), some (.ref S.length), a4, some (.frl ((goodM ins some').map mW)), none, none] (S ++ [DO.dic 3 kv]) = .ok (.frl ((mks ins some').map pkD)) (S ++ [DO.dic 3 kv]) := fun {a4} => by
      have : (mks ins some').map pkD = ((goodM ins some').filter fun m => (wid m).all fun x => !decide (x ∈ goodM ins some')).map fun m => D.tup [mW m, .tup ((btsM ins m).map sW)] := by
        unfold mks
        rw [List.map_map]
        rfl
      rw [this]
      refine compF (goodM ins some') mW _ _ ?_ (Nat.le_trans (List.length_filter_le _ _) (szn (by omega))) ?_ ?_
      · simp only [z1T, w_dC, z1L, z1i, z1W, z1Y, w_d2, z2o, w_d3, z2m, z1Z, z1e, z1J, z1g, z1U, z2p, z1G, z2n, z1V, z1f, z1M, z2q, z1I, z1m, z1R, z1K, z1N, z1c, zL, z1a, z1Q, z1S, zN, z1j, zP, zM, z19, z1h, z1l, z1d, zR, z16, z1O, z18, z1n, zK, z17, z15, zO, zI, z1k, z2r, z1X, z1b, zH, z1w, z2K, z1F, w_ok, z2v, z1x, z2l, z27, z1C, z2h, z23, z2g, z1s, zU, z12, z28, z2b, z2c, z20, z2k, z21, z2i, z2F, z2D, z2B, z2L, z2y, z2H, z2t, z2A, z29, z1P, z1H, z2f, z14, z1r, Int.reduceToNat, Int.reduceLE, Int.reduceLT, Int.reduceNeg, startD, List.map_cons, List.map_nil, List.length_cons, List.length_nil, List.replicate, List.cons_append, List.nil_append, List.getElem?_cons_zero, List.getElem?_cons_succ, List.set_cons_zero, List.set_cons_succ, Nat.reduceAdd, Nat.reduceSub, Nat.reduceEqDiff, if_true, if_false, Bool.false_eq_true, decide_true, decide_false, Int.reduceEq, Int.reduceAdd, Int.reduceSub, Int.reduceMul, Bool.not_true, Bool.not_false, c_0, c_1, c_2, c_3, c_4, c_5, c_6, c_7, c_8, c_9, c_10, c_11, c_12, sz_0, sz_1, sz_2, sz_3, sz_4, sz_5, sz_6, sz_7, sz_8, sz_9, z2J, z2I, z2E, z2s, z2x, z2z, z2w, Bool.true_eq_false, eq_self, za, zb, z4, z7, z5, z3, zw, zy, zi, zr, zp, z8, zn, zj, ze, zg, zh, z6, zz, zu, zf, zq, zo, z9, zD, zE, zm, zt, zA, zc, zG, zB, zl, zv, zx, zd, z2j, z2a, zS, z1E, z1q, z25, z2C, z2u, z2G, zY, z26, z2d, zT, z1p, z1D, z24, z1o, zF, z1u, zQ, z1t, z1B, zC, zX, z10, z2e, z22, z1z, z1A, z1y, zV, z11, z1v, zJ, zW, zZ, itemsD]
        exact ⟨by first | rfl | trivial, by first | rfl | trivial, fun _ _ => rfl⟩
      · intro m hm S3 g
        simp only [z1T, w_dC, z1L, z1i, z1W, z1Y, w_d2, z2o, w_d3, z2m, z1Z, z1e, z1J, z1g, z1U, z2p, z1G, z2n, z1V, z1f, z1M, z2q, z1I, z1m, z1R, z1K, z1N, z1c, zL, z1a, z1Q, z1S, zN, z1j, zP, zM, z19, z1h, z1l, z1d, zR, z16, z1O, z18, z1n, zK, z17, z15, zO, zI, z1k, z2r, z1X, z1b, zH, z1w, z2K, z1F, w_ok, z2v, z1x, z2l, z27, z1C, z2h, z23, z2g, z1s, zU, z12, z28, z2b, z2c, z20, z2k, z21, z2i, z2F, z2D, z2B, z2L, z2y, z2H, z2t, z2A, z29, z1P, z1H, z2f, z14, z1r, Int.reduceToNat, Int.reduceLE, Int.reduceLT, Int.reduceNeg, startD, List.map_cons, List.map_nil, List.length_cons, List.length_nil, List.replicate, List.cons_append, List.nil_append, List.getElem?_cons_zero, List.getElem?_cons_succ, List.set_cons_zero, List.set_cons_succ, Nat.reduceAdd, Nat.reduceSub, Nat.reduceEqDiff, if_true, if_false, Bool.false_eq_true, decide_true, decide_false, Int.reduceEq, Int.reduceAdd, Int.reduceSub, Int.reduceMul, Bool.not_true, Bool.not_false, c_0, c_1, c_2, c_3, c_4, c_5, c_6, c_7, c_8, c_9, c_10, c_11, c_12, sz_0, sz_1, sz_2, sz_3, sz_4, sz_5, sz_6, sz_7, sz_8, sz_9, z2J, z2I, z2E, z2s, z2x, z2z, z2w, Bool.true_eq_false, eq_self, za, zb, z4, z7, z5, z3, zw, zy, zi, zr, zp, z8, zn, zj, ze, zg, zh, z6, zz, zu, zf, zq, zo, z9, zD, zE, zm, zt, zA, zc, zG, zB, zl, zv, zx, zd, z2j, z2a, zS, z1E, z1q, z25, z2C, z2u, z2G, zY, z26, z2d, zT, z1p, z1D, z24, z1o, zF, z1u, zQ, z1t, z1B, zC, zX, z10, z2e, z22, z1z, z1A, z1y, zV, z11, z1v, zJ, zW, zZ, wipeD, hw (hgm hm)]
        rw [w_eqNil (n := 0) gM]
        simp only [z1T, w_dC, z1L, z1i, z1W, z1Y, w_d2, z2o, w_d3, z2m, z1Z, z1e, z1J, z1g, z1U, z2p, z1G, z2n, z1V, z1f, z1M, z2q, z1I, z1m, z1R, z1K, z1N, z1c, zL, z1a, z1Q, z1S, zN, z1j, zP, zM, z19, z1h, z1l, z1d, zR, z16, z1O, z18, z1n, zK, z17, z15, zO, zI, z1k, z2r, z1X, z1b, zH, z1w, z2K, z1F, w_ok, z2v, z1x, z2l, z27, z1C, z2h, z23, z2g, z1s, zU, z12, z28, z2b, z2c, z20, z2k, z21, z2i, z2F, z2D, z2B, z2L, z2y, z2H, z2t, z2A, z29, z1P, z1H, z2f, z14, z1r, Int.reduceToNat, Int.reduceLE, Int.reduceLT, Int.reduceNeg, startD, List.map_cons, List.map_nil, List.length_cons, List.length_nil, List.replicate, List.cons_append, List.nil_append, List.getElem?_cons_zero, List.getElem?_cons_succ, List.set_cons_zero, List.set_cons_succ, Nat.reduceAdd, Nat.reduceSub, Nat.reduceEqDiff, if_true, if_false, Bool.false_eq_true, decide_true, decide_false, Int.reduceEq, Int.reduceAdd, Int.reduceSub, Int.reduceMul, Bool.not_true, Bool.not_false, c_0, c_1, c_2, c_3, c_4, c_5, c_6, c_7, c_8, c_9, c_10, c_11, c_12, sz_0, sz_1, sz_2, sz_3, sz_4, sz_5, sz_6, sz_7, sz_8, sz_9, z2J, z2I, z2E, z2s, z2x, z2z, z2w, Bool.true_eq_false, eq_self, za, zb, z4, z7, z5, z3, zw, zy, zi, zr, zp, z8, zn, zj, ze, zg, zh, z6, zz, zu, zf, zq, zo, z9, zD, zE, zm, zt, zA, zc, zG, zB, zl, zv, zx, zd, z2j, z2a, zS, z1E, z1q, z25, z2C, z2u, z2G, zY, z26, z2d, zT, z1p, z1D, z24, z1o, zF, z1u, zQ, z1t, z1B, zC, zX, z10, z2e, z22, z1z, z1A, z1y, zV, z11, z1v, zJ, zW, zZ]
        refine ⟨by first | rfl | trivial, by first | rfl | trivial, by first | rfl | trivial, fun _ => ?_⟩
        rw [w_ixDic3 (at3 g) rfl (gk (hgm hm))]
        simp only [z1T, w_dC, z1L, z1i, z1W, z1Y, w_d2, z2o, w_d3, z2m, z1Z, z1e, z1J, z1g, z1U, z2p, z1G, z2n, z1V, z1f, z1M, z2q, z1I, z1m, z1R, z1K, z1N, z1c, zL, z1a, z1Q, z1S, zN, z1j, zP, zM, z19, z1h, z1l, z1d, zR, z16, z1O, z18, z1n, zK, z17, z15, zO, zI, z1k, z2r, z1X, z1b, zH, z1w, z2K, z1F, w_ok, z2v, z1x, z2l, z27, z1C, z2h, z23, z2g, z1s, zU, z12, z28, z2b, z2c, z20, z2k, z21, z2i, z2F, z2D, z2B, z2L, z2y, z2H, z2t, z2A, z29, z1P, z1H, z2f, z14, z1r, Int.reduceToNat, Int.reduceLE, Int.reduceLT, Int.reduceNeg, startD, List.map_cons, List.map_nil, List.length_cons, List.length_nil, List.replicate, List.cons_append, List.nil_append, List.getElem?_cons_zero, List.getElem?_cons_succ, List.set_cons_zero, List.set_cons_succ, Nat.reduceAdd, Nat.reduceSub, Nat.reduceEqDiff, if_true, if_false, Bool.false_eq_true, decide_true, decide_false, Int.reduceEq, Int.reduceAdd, Int.reduceSub, Int.reduceMul, Bool.not_true, Bool.not_false, c_0, c_1, c_2, c_3, c_4, c_5, c_6, c_7, c_8, c_9, c_10, c_11, c_12, sz_0, sz_1, sz_2, sz_3, sz_4, sz_5, sz_6, sz_7, sz_8, sz_9, z2J, z2I, z2E, z2s, z2x, z2z, z2w, Bool.true_eq_false, eq_self, za, zb, z4, z7, z5, z3, zw, zy, zi, zr, zp, z8, zn, zj, ze, zg, zh, z6, zz, zu, zf, zq, zo, z9, zD, zE, zm, zt, zA, zc, zG, zB, zl, zv, zx, zd, z2j, z2a, zS, z1E, z1q, z25, z2C, z2u, z2G, zY, z26, z2d, zT, z1p, z1D, z24, z1o, zF, z1u, zQ, z1t, z1B, zC, zX, z10, z2e, z22, z1z, z1A, z1y, zV, z11, z1v, zJ, zW, zZ]
        exact ⟨by first | rfl | trivial, by first | rfl | trivial⟩
      · intro m hm _
        exact gd_blw (n := 2) _ (gd_tup fun d hd => by
          have : d = mW m ∨ d = .tup ((btsM ins m).map sW) := by simpa using hd
          rcases this with rfl | rfl
          · exact gd_W (wM_ok m)
          · exact gd_tup sW_gd0)
    simp only [e6, z1T, w_dC, z1L, z1i, z1W, z1Y, w_d2, z2o, w_d3, z2m, z1Z, z1e, z1J, z1g, z1U, z2p, z1G, z2n, z1V, z1f, z1M, z2q, z1I, z1m, z1R, z1K, z1N, z1c, zL, z1a, z1Q, z1S, zN, z1j, zP, zM, z19, z1h, z1l, z1d, zR, z16, z1O, z18, z1n, zK, z17, z15, zO, zI, z1k, z2r, z1X, z1b, zH, z1w, z2K, z1F, w_ok, z2v, z1x, z2l, z27, z1C, z2h, z23, z2g, z1s, zU, z12, z28, z2b, z2c, z20, z2k, z21, z2i, z2F, z2D, z2B, z2L, z2y, z2H, z2t, z2A, z29, z1P, z1H, z2f, z14, z1r, Int.reduceToNat, Int.reduceLE, Int.reduceLT, Int.reduceNeg, startD, List.map_cons, List.map_nil, List.length_cons, List.length_nil, List.replicate, List.cons_append, List.nil_append, List.getElem?_cons_zero, List.getElem?_cons_succ, List.set_cons_zero, List.set_cons_succ, Nat.reduceAdd, Nat.reduceSub, Nat.reduceEqDiff, if_true, if_false, Bool.false_eq_true, decide_true, decide_false, Int.reduceEq, Int.reduceAdd, Int.reduceSub, Int.reduceMul, Bool.not_true, Bool.not_false, c_0, c_1, c_2, c_3, c_4, c_5, c_6, c_7, c_8, c_9, c_10, c_11, c_12, sz_0, sz_1, sz_2, sz_3, sz_4, sz_5, sz_6, sz_7, sz_8, sz_9, z2J, z2I, z2E, z2s, z2x, z2z, z2w, Bool.true_eq_false, eq_self, za, zb, z4, z7, z5, z3, zw, zy, zi, zr, zp, z8, zn, zj, ze, zg, zh, z6, zz, zu, zf, zq, zo, z9, zD, zE, zm, zt, zA, zc, zG, zB, zl, zv, zx, zd, z2j, z2a, zS, z1E, z1q, z25, z2C, z2u, z2G, zY, z26, z2d, zT, z1p, z1D, z24, z1o, zF, z1u, zQ, z1t, z1B, zC, zX, z10, z2e, z22, z1z, z1A, z1y, zV, z11, z1v, zJ, zW, zZ]
    exact ⟨trivial, [.dic 3 kv], rfl⟩
  · rintro pre m post sd S' e ⟨rfl, a4, rfl⟩
    have hm : m ∈ allM ins := by rw [e]; simp
    have hml := allM_len ins hm
    have hnot : m ∉ pre := fun z => by
      have := allM_nodup ins
      rw [e, List.nodup_append] at this
      exact this.2.2 m z m (List.mem_cons_self) rfl
    have hpl : pre.length ≤ 81 := by
      rw [e] at p81
      simp at p81
      omega
    have hc : ∀ {S : Sto} {x0 x1 x3 x5 x6 x7 : Option D}, dFrz (dComp [6] (iVal (dVar 2)) (gVar 6) (tstB (dCallF 2 F_fits (dCons (dVar 4) (dCons (dVar 6) dNil)))) (dVar 6)) [x0, x1, some (.frl ((allB ins).map sW)), x3, some (mW m), x5, x6, x7] S = .ok (.frl (((allB ins).filter (ft m)).map sW)) S := fun {S x0 x1 x3 x5 x6 x7} => by
      refine compF (allB ins) sW _ _ ?_ (Nat.le_trans (List.length_filter_le _ _) (szn (by omega))) ?_ ?_
      · simp only [z1T, w_dC, z1L, z1i, z1W, z1Y, w_d2, z2o, w_d3, z2m, z1Z, z1e, z1J, z1g, z1U, z2p, z1G, z2n, z1V, z1f, z1M, z2q, z1I, z1m, z1R, z1K, z1N, z1c, zL, z1a, z1Q, z1S, zN, z1j, zP, zM, z19, z1h, z1l, z1d, zR, z16, z1O, z18, z1n, zK, z17, z15, zO, zI, z1k, z2r, z1X, z1b, zH, z1w, z2K, z1F, w_ok, z2v, z1x, z2l, z27, z1C, z2h, z23, z2g, z1s, zU, z12, z28, z2b, z2c, z20, z2k, z21, z2i, z2F, z2D, z2B, z2L, z2y, z2H, z2t, z2A, z29, z1P, z1H, z2f, z14, z1r, Int.reduceToNat, Int.reduceLE, Int.reduceLT, Int.reduceNeg, startD, List.map_cons, List.map_nil, List.length_cons, List.length_nil, List.replicate, List.cons_append, List.nil_append, List.getElem?_cons_zero, List.getElem?_cons_succ, List.set_cons_zero, List.set_cons_succ, Nat.reduceAdd, Nat.reduceSub, Nat.reduceEqDiff, if_true, if_false, Bool.false_eq_true, decide_true, decide_false, Int.reduceEq, Int.reduceAdd, Int.reduceSub, Int.reduceMul, Bool.not_true, Bool.not_false, c_0, c_1, c_2, c_3, c_4, c_5, c_6, c_7, c_8, c_9, c_10, c_11, c_12, sz_0, sz_1, sz_2, sz_3, sz_4, sz_5, sz_6, sz_7, sz_8, sz_9, z2J, z2I, z2E, z2s, z2x, z2z, z2w, Bool.true_eq_false, eq_self, za, zb, z4, z7, z5, z3, zw, zy, zi, zr, zp, z8, zn, zj, ze, zg, zh, z6, zz, zu, zf, zq, zo, z9, zD, zE, zm, zt, zA, zc, zG, zB, zl, zv, zx, zd, z2j, z2a, zS, z1E, z1q, z25, z2C, z2u, z2G, zY, z26, z2d, zT, z1p, z1D, z24, z1o, zF, z1u, zQ, z1t, z1B, zC, zX, z10, z2e, z22, z1z, z1A, z1y, zV, z11, z1v, zJ, zW, zZ, itemsD]
        exact ⟨by first | rfl | trivial, by first | rfl | trivial, fun _ _ => rfl⟩
      · intro b hb S' _
        simp only [z1T, w_dC, z1L, z1i, z1W, z1Y, w_d2, z2o, w_d3, z2m, z1Z, z1e, z1J, z1g, z1U, z2p, z1G, z2n, z1V, z1f, z1M, z2q, z1I, z1m, z1R, z1K, z1N, z1c, zL, z1a, z1Q, z1S, zN, z1j, zP, zM, z19, z1h, z1l, z1d, zR, z16, z1O, z18, z1n, zK, z17, z15, zO, zI, z1k, z2r, z1X, z1b, zH, z1w, z2K, z1F, w_ok, z2v, z1x, z2l, z27, z1C, z2h, z23, z2g, z1s, zU, z12, z28, z2b, z2c, z20, z2k, z21, z2i, z2F, z2D, z2B, z2L, z2y, z2H, z2t, z2A, z29, z1P, z1H, z2f, z14, z1r, Int.reduceToNat, Int.reduceLE, Int.reduceLT, Int.reduceNeg, startD, List.map_cons, List.map_nil, List.length_cons, List.length_nil, List.replicate, List.cons_append, List.nil_append, List.getElem?_cons_zero, List.getElem?_cons_succ, List.set_cons_zero, List.set_cons_succ, Nat.reduceAdd, Nat.reduceSub, Nat.reduceEqDiff, if_true, if_false, Bool.false_eq_true, decide_true, decide_false, Int.reduceEq, Int.reduceAdd, Int.reduceSub, Int.reduceMul, Bool.not_true, Bool.not_false, c_0, c_1, c_2, c_3, c_4, c_5, c_6, c_7, c_8, c_9, c_10, c_11, c_12, sz_0, sz_1, sz_2, sz_3, sz_4, sz_5, sz_6, sz_7, sz_8, sz_9, z2J, z2I, z2E, z2s, z2x, z2z, z2w, Bool.true_eq_false, eq_self, za, zb, z4, z7, z5, z3, zw, zy, zi, zr, zp, z8, zn, zj, ze, zg, zh, z6, zz, zu, zf, zq, zo, z9, zD, zE, zm, zt, zA, zc, zG, zB, zl, zv, zx, zd, z2j, z2a, zS, z1E, z1q, z25, z2C, z2u, z2G, zY, z26, z2d, zT, z1p, z1D, z24, z1o, zF, z1u, zQ, z1t, z1B, zC, zX, z10, z2e, z22, z1z, z1A, z1y, zV, z11, z1v, zJ, zW, zZ, wipeD, mW, sW, fits_ok (show m.length ≤ b.length by have := hbl b hb; omega) (show b.length ≤ 100 by have := hbl b hb; omega)]
        exact ⟨trivial, trivial, trivial, fun _ => ⟨trivial, trivial⟩⟩
      · intro b _ _; rfl
    simp only [z1T, w_dC, z1L, z1i, z1W, z1Y, w_d2, z2o, w_d3, z2m, z1Z, z1e, z1J, z1g, z1U, z2p, z1G, z2n, z1V, z1f, z1M, z2q, z1I, z1m, z1R, z1K, z1N, z1c, zL, z1a, z1Q, z1S, zN, z1j, zP, zM, z19, z1h, z1l, z1d, zR, z16, z1O, z18, z1n, zK, z17, z15, zO, zI, z1k, z2r, z1X, z1b, zH, z1w, z2K, z1F, w_ok, z2v, z1x, z2l, z27, z1C, z2h, z23, z2g, z1s, zU, z12, z28, z2b, z2c, z20, z2k, z21, z2i, z2F, z2D, z2B, z2L, z2y, z2H, z2t, z2A, z29, z1P, z1H, z2f, z14, z1r, Int.reduceToNat, Int.reduceLE, Int.reduceLT, Int.reduceNeg, startD, List.map_cons, List.map_nil, List.length_cons, List.length_nil, List.replicate, List.cons_append, List.nil_append, List.getElem?_cons_zero, List.getElem?_cons_succ, List.set_cons_zero, List.set_cons_succ, Nat.reduceAdd, Nat.reduceSub, Nat.reduceEqDiff, if_true, if_false, Bool.false_eq_true, decide_true, decide_false, Int.reduceEq, Int.reduceAdd, Int.reduceSub, Int.reduceMul, Bool.not_true, Bool.not_false, c_0, c_1, c_2, c_3, c_4, c_5, c_6, c_7, c_8, c_9, c_10, c_11, c_12, sz_0, sz_1, sz_2, sz_3, sz_4, sz_5, sz_6, sz_7, sz_8, sz_9, z2J, z2I, z2E, z2s, z2x, z2z, z2w, Bool.true_eq_false, eq_self, za, zb, z4, z7, z5, z3, zw, zy, zi, zr, zp, z8, zn, zj, ze, zg, zh, z6, zz, zu, zf, zq, zo, z9, zD, zE, zm, zt, zA, zc, zG, zB, zl, zv, zx, zd, z2j, z2a, zS, z1E, z1q, z25, z2C, z2u, z2G, zY, z26, z2d, zT, z1p, z1D, z24, z1o, zF, z1u, zQ, z1t, z1B, zC, zX, z10, z2e, z22, z1z, z1A, z1y, zV, z11, z1v, zJ, zW, zZ, hc]
    rw [w_tupF]
    simp only [z1T, w_dC, z1L, z1i, z1W, z1Y, w_d2, z2o, w_d3, z2m, z1Z, z1e, z1J, z1g, z1U, z2p, z1G, z2n, z1V, z1f, z1M, z2q, z1I, z1m, z1R, z1K, z1N, z1c, zL, z1a, z1Q, z1S, zN, z1j, zP, zM, z19, z1h, z1l, z1d, zR, z16, z1O, z18, z1n, zK, z17, z15, zO, zI, z1k, z2r, z1X, z1b, zH, z1w, z2K, z1F, w_ok, z2v, z1x, z2l, z27, z1C, z2h, z23, z2g, z1s, zU, z12, z28, z2b, z2c, z20, z2k, z21, z2i, z2F, z2D, z2B, z2L, z2y, z2H, z2t, z2A, z29, z1P, z1H, z2f, z14, z1r, Int.reduceToNat, Int.reduceLE, Int.reduceLT, Int.reduceNeg, startD, List.map_cons, List.map_nil, List.length_cons, List.length_nil, List.replicate, List.cons_append, List.nil_append, List.getElem?_cons_zero, List.getElem?_cons_succ, List.set_cons_zero, List.set_cons_succ, Nat.reduceAdd, Nat.reduceSub, Nat.reduceEqDiff, if_true, if_false, Bool.false_eq_true, decide_true, decide_false, Int.reduceEq, Int.reduceAdd, Int.reduceSub, Int.reduceMul, Bool.not_true, Bool.not_false, c_0, c_1, c_2, c_3, c_4, c_5, c_6, c_7, c_8, c_9, c_10, c_11, c_12, sz_0, sz_1, sz_2, sz_3, sz_4, sz_5, sz_6, sz_7, sz_8, sz_9, z2J, z2I, z2E, z2s, z2x, z2z, z2w, Bool.true_eq_false, eq_self, za, zb, z4, z7, z5, z3, zw, zy, zi, zr, zp, z8, zn, zj, ze, zg, zh, z6, zz, zu, zf, zq, zo, z9, zD, zE, zm, zt, zA, zc, zG, zB, zl, zv, zx, zd, z2j, z2a, zS, z1E, z1q, z25, z2C, z2u, z2G, zY, z26, z2d, zT, z1p, z1D, z24, z1o, zF, z1u, zQ, z1t, z1B, zC, zX, z10, z2e, z22, z1z, z1A, z1y, zV, z11, z1v, zJ, zW, zZ]
    rw [w_setDic' get_last rfl (by rw [sizeLine_eq]; unfold kvE knM; simp; omega), putD_E (fun a b => mW_inj) (by rw [knM_keys]; exact hnot), set_last]
    refine ⟨?_, _, rfl⟩
    unfold knM
    rw [List.map_append]
    rfl

end Lw

namespace Lw
open PySem PySem.Spec PyProof.Rows L2 DL
theorem fn_keep {n : Nat} {b : Sl → Sto → Res Fl} {ds : List D} {S S' : Sto} {v : D} (hc : cutOk S S' = false) (h : Wp (b (startD n ds) S) (kFn fun d S1 => d = v ∧ S1 = S') NX) : cutF (dFn n b) ds S = .ok v S' := by
  have h' : Wp (dFn n b ds S) (fun d S1 => d = v ∧ S1 = S') NX := by rw [z2l]; exact h
  obtain ⟨d, S1, e, rfl, rfl⟩ := Wp.ok h'
  unfold cutF
  rw [e]
  simp only [cutR, hc, Bool.false_eq_true, if_false]
theorem cutOk_no {S S' : Sto} {i : Nat} {o : DO} (hi : i < S.length) (h : S'[i]? = some o) (hn : S[i]? ≠ some o) (hb : o.blw S.length = false) : cutOk S S' = false := by
  rw [Bool.eq_false_iff]
  intro z
  unfold cutOk at z
  rw [Bool.and_eq_true] at z
  have := List.all_eq_true.mp z.2 i (List.mem_range.mpr hi)
  unfold sameO at this
  rw [h] at this
  simp only [Bool.or_eq_true, decide_eq_true_eq] at this
  rcases this with y | y
  · exact hn y.symm
  · rw [hb] at y; cases y
theorem w_setF1 {r c : Nat} {f : Str} {fs : List (Str × D)} {v : D} {S : Sto} {Q : Unit → Sto → Prop} {X : Exc → Sto → Prop} (hr : S[r]? = some (.ins c fs)) (hv : fs.length < 1000) : Wp (setF [c] f (.ref r) v S) Q X = Q () (S.set r (.ins c (putFD f v fs))) := by
  simp only [setF, hr]
  rw [if_pos ⟨by simp, hv⟩]
  rfl

theorem ne_marks_known : (Str.ofString "marks" = Str.ofString "known") = False := by decide +kernel
theorem ne_known_marks : (Str.ofString "known" = Str.ofString "marks") = False := by decide +kernel
theorem cover_init {ps : List Pk} {S : Sto} : F_Cover_init [.ref S.length, .frl (ps.map pkD)] (S ++ [.ins 21 []]) = .ok .non (S ++ [cvO ps (S.length + 1), .dic 2 (kvE rsD [([], .int 0)])]) := by
  unfold F_Cover_init
  refine fn_keep (cutOk_no (i := S.length) (o := cvO ps (S.length + 1)) (by simp) (by simp) (by simp [cvO]) (by simp [cvO, DO.blw, D.blw])) ?_
  unfold b_Cover_init
  simp only [z1T, w_dC, z1L, z1i, z1W, z1Y, w_d2, z2o, w_d3, z2m, z1Z, z1e, z1J, z1g, z1U, z2p, z1G, z2n, z1V, z1f, z1M, z2q, z1I, z1m, z1R, z1K, z1N, z1c, zL, z1a, z1Q, z1S, zN, z1j, zP, zM, z19, z1h, z1l, z1d, zR, z16, z1O, z18, z1n, zK, z17, z15, zO, zI, z1k, z2r, z1X, z1b, zH, z1w, z2K, z1F, w_ok, z2v, z1x, z2l, z27, z1C, z2h, z23, z2g, z1s, zU, z12, z28, z2b, z2c, z20, z2k, z21, z2i, z2F, z2D, z2B, z2L, z2y, z2H, z2t, z2A, z29, z1P, z1H, z2f, z14, z1r, Int.reduceToNat, Int.reduceLE, Int.reduceLT, Int.reduceNeg, startD, List.map_cons, List.map_nil, List.length_cons, List.length_nil, List.replicate, List.cons_append, List.nil_append, List.getElem?_cons_zero, List.getElem?_cons_succ, List.set_cons_zero, List.set_cons_succ, Nat.reduceAdd, Nat.reduceSub, Nat.reduceEqDiff, if_true, if_false, Bool.false_eq_true, decide_true, decide_false, Int.reduceEq, Int.reduceAdd, Int.reduceSub, Int.reduceMul, Bool.not_true, Bool.not_false, c_0, c_1, c_2, c_3, c_4, c_5, c_6, c_7, c_8, c_9, c_10, c_11, c_12, sz_0, sz_1, sz_2, sz_3, sz_4, sz_5, sz_6, sz_7, sz_8, sz_9, z2J, z2I, z2E, z2s, z2x, z2z, z2w, Bool.true_eq_false, eq_self, za, zb, z4, z7, z5, z3, zw, zy, zi, zr, zp, z8, zn, zj, ze, zg, zh, z6, zz, zu, zf, zq, zo, z9, zD, zE, zm, zt, zA, zc, zG, zB, zl, zv, zx, zd, z2j, z2a, zS, z1E, z1q, z25, z2C, z2u, z2G, zY, z26, z2d, zT, z1p, z1D, z24, z1o, zF, z1u, zQ, z1t, z1B, zC, zX, z10, z2e, z22, z1z, z1A, z1y, zV, z11, z1v, zJ, zW, zZ]
  rw [w_setF1 (fs := []) (by simp) (by simp)]
  have s1 : (S ++ [DO.ins 21 []]).set S.length (.ins 21 (putFD "marks" (.frl (ps.map pkD)) [])) = S ++ [.ins 21 [("marks", .frl (ps.map pkD))]] := by
    rw [List.set_append_right _ _ (Nat.le_refl _)]
    simp [putFD]
  rw [s1]
  have nk : nokD (.tup []) = true := rsD_nok []
  simp only [z1T, w_dC, z1L, z1i, z1W, z1Y, w_d2, z2o, w_d3, z2m, z1Z, z1e, z1J, z1g, z1U, z2p, z1G, z2n, z1V, z1f, z1M, z2q, z1I, z1m, z1R, z1K, z1N, z1c, zL, z1a, z1Q, z1S, zN, z1j, zP, zM, z19, z1h, z1l, z1d, zR, z16, z1O, z18, z1n, zK, z17, z15, zO, zI, z1k, z2r, z1X, z1b, zH, z1w, z2K, z1F, w_ok, z2v, z1x, z2l, z27, z1C, z2h, z23, z2g, z1s, zU, z12, z28, z2b, z2c, z20, z2k, z21, z2i, z2F, z2D, z2B, z2L, z2y, z2H, z2t, z2A, z29, z1P, z1H, z2f, z14, z1r, Int.reduceToNat, Int.reduceLE, Int.reduceLT, Int.reduceNeg, startD, List.map_cons, List.map_nil, List.length_cons, List.length_nil, List.replicate, List.cons_append, List.nil_append, List.getElem?_cons_zero, List.getElem?_cons_succ, List.set_cons_zero, List.set_cons_succ, Nat.reduceAdd, Nat.reduceSub, Nat.reduceEqDiff, if_true, if_false, Bool.false_eq_true, decide_true, decide_false, Int.reduceEq, Int.reduceAdd, Int.reduceSub, Int.reduceMul, Bool.not_true, Bool.not_false, c_0, c_1, c_2, c_3, c_4, c_5, c_6, c_7, c_8, c_9, c_10, c_11, c_12, sz_0, sz_1, sz_2, sz_3, sz_4, sz_5, sz_6, sz_7, sz_8, sz_9, z2J, z2I, z2E, z2s, z2x, z2z, z2w, Bool.true_eq_false, eq_self, za, zb, z4, z7, z5, z3, zw, zy, zi, zr, zp, z8, zn, zj, ze, zg, zh, z6, zz, zu, zf, zq, zo, z9, zD, zE, zm, zt, zA, zc, zG, zB, zl, zv, zx, zd, z2j, z2a, zS, z1E, z1q, z25, z2C, z2u, z2G, zY, z26, z2d, zT, z1p, z1D, z24, z1o, zF, z1u, zQ, z1t, z1B, zC, zX, z10, z2e, z22, z1z, z1A, z1y, zV, z11, z1v, zJ, zW, zZ, w_dDispN, nk]
  rw [w_setF1 (fs := [("marks", .frl (ps.map pkD))]) (by simp) (by simp)]
  simp only [putFD, ne_marks_known, ne_known_marks, if_false]
  refine ⟨rfl, ?_⟩
  rw [List.append_assoc, List.set_append_right _ _ (Nat.le_refl _)]
  simp [cvO, kvE, rsD]
theorem lk_first {x y : D} : ([(Str.ofString "marks", x), (Str.ofString "known", y)] : List (Str × D)).lookup (Str.ofString "first") = none := by
  simp only [List.lookup, show ((Str.ofString "first") == (Str.ofString "marks")) = false by decide +kernel, show ((Str.ofString "first") == (Str.ofString "known")) = false by decide +kernel]
theorem fewest_of_raw {ins : Nat} {some' : List Bt} {S : Sto} (i4 : ins ≤ 4) (hl : some'.length ≤ 16) (hc : Cov (mks ins some') some') : Fr_fewest_of [.int ((ins : Nat) : Int), .frl (some'.map sW)] S = .ok (.ref S.length) (S ++ [.lst ((fs (mks ins some') some').map fun q => mW q.1)]) := by
  unfold Fr_fewest_of
  refine fn_new (gd_blws (n := 0) _ (gd_map fun q _ => gd_W (wM_ok q.1))) ?_
  unfold br_fewest_of
  have hpl : (mks ins some').length ≤ 1000 := by
    unfold mks
    rw [List.length_map]
    have h1 : ((goodM ins some').filter fun m => (wid m).all fun x => !decide (x ∈ goodM ins some')).length ≤ (goodM ins some').length := List.length_filter_le _ _
    have h2 : (goodM ins some').length ≤ (allM ins).length := List.length_filter_le _ _
    have h3 : (allM ins).length ≤ 81 := by
      rw [allM_many]
      exact Nat.pow_le_pow_right (n := 3) (by decide) i4
    omega
  have hq : ∀ q ∈ mks ins some', q.2.length ≤ 100 := fun q h => by
    obtain ⟨m, _, rfl⟩ := List.mem_map.mp h
    have := btsM_len (m := m) i4
    show (btsM ins m).length ≤ 100
    omega
  have K0 : KN (mks ins some') some' [([], .int 0)] := ⟨fun p hp => by
    rw [List.mem_singleton] at hp
    rw [hp]
    exact ⟨rfl, List.nil_sublist _⟩, by simp, by simp⟩
  have hs : (S ++ [cvO (mks ins some') (S.length + 1), DO.dic 2 (kvE rsD [([], .int 0)])])[S.length]? = some (.ins 21 [("marks", .frl ((mks ins some').map pkD)), ("known", .ref (S.length + 1))]) := get_mid rfl
  have hk : (S ++ [cvO (mks ins some') (S.length + 1), DO.dic 2 (kvE rsD [([], .int 0)])])[S.length + 1]? = some (.dic 2 (kvE rsD [([], .int 0)])) := by
    rw [List.getElem?_append_right (by omega), Nat.add_sub_cancel_left]
    rfl
  obtain ⟨kn', e, _⟩ := first_raw (self := S.length) (k := S.length + 1) (base := some') (ps := mks ins some') (kn := [([], .int 0)]) (S := S ++ [cvO (mks ins some') (S.length + 1), DO.dic 2 (kvE rsD [([], .int 0)])]) hl hpl hq hc (by omega) K0 hs hk
  have e' : Fr_Cover_first [.ref S.length, .tup (some'.map sW)] _ = _ := e
  simp only [z1T, w_dC, z1L, z1i, z1W, z1Y, w_d2, z2o, w_d3, z2m, z1Z, z1e, z1J, z1g, z1U, z2p, z1G, z2n, z1V, z1f, z1M, z2q, z1I, z1m, z1R, z1K, z1N, z1c, zL, z1a, z1Q, z1S, zN, z1j, zP, zM, z19, z1h, z1l, z1d, zR, z16, z1O, z18, z1n, zK, z17, z15, zO, zI, z1k, z2r, z1X, z1b, zH, z1w, z2K, z1F, w_ok, z2v, z1x, z2l, z27, z1C, z2h, z23, z2g, z1s, zU, z12, z28, z2b, z2c, z20, z2k, z21, z2i, z2F, z2D, z2B, z2L, z2y, z2H, z2t, z2A, z29, z1P, z1H, z2f, z14, z1r, Int.reduceToNat, Int.reduceLE, Int.reduceLT, Int.reduceNeg, startD, List.map_cons, List.map_nil, List.length_cons, List.length_nil, List.replicate, List.cons_append, List.nil_append, List.getElem?_cons_zero, List.getElem?_cons_succ, List.set_cons_zero, List.set_cons_succ, Nat.reduceAdd, Nat.reduceSub, Nat.reduceEqDiff, if_true, if_false, Bool.false_eq_true, decide_true, decide_false, Int.reduceEq, Int.reduceAdd, Int.reduceSub, Int.reduceMul, Bool.not_true, Bool.not_false, c_0, c_1, c_2, c_3, c_4, c_5, c_6, c_7, c_8, c_9, c_10, c_11, c_12, sz_0, sz_1, sz_2, sz_3, sz_4, sz_5, sz_6, sz_7, sz_8, sz_9, z2J, z2I, z2E, z2s, z2x, z2z, z2w, Bool.true_eq_false, eq_self, za, zb, z4, z7, z5, z3, zw, zy, zi, zr, zp, z8, zn, zj, ze, zg, zh, z6, zz, zu, zf, zq, zo, z9, zD, zE, zm, zt, zA, zc, zG, zB, zl, zv, zx, zd, z2j, z2a, zS, z1E, z1q, z25, z2C, z2u, z2G, zY, z26, z2d, zT, z1p, z1D, z24, z1o, zF, z1u, zQ, z1t, z1B, zC, zX, z10, z2e, z22, z1z, z1A, z1y, zV, z11, z1v, zJ, zW, zZ, marks_of_ok i4 (show some'.length ≤ 100 by omega), cover_init, hs, lk_first, and_self]
  rw [w_tupF]
  simp only [z1T, w_dC, z1L, z1i, z1W, z1Y, w_d2, z2o, w_d3, z2m, z1Z, z1e, z1J, z1g, z1U, z2p, z1G, z2n, z1V, z1f, z1M, z2q, z1I, z1m, z1R, z1K, z1N, z1c, zL, z1a, z1Q, z1S, zN, z1j, zP, zM, z19, z1h, z1l, z1d, zR, z16, z1O, z18, z1n, zK, z17, z15, zO, zI, z1k, z2r, z1X, z1b, zH, z1w, z2K, z1F, w_ok, z2v, z1x, z2l, z27, z1C, z2h, z23, z2g, z1s, zU, z12, z28, z2b, z2c, z20, z2k, z21, z2i, z2F, z2D, z2B, z2L, z2y, z2H, z2t, z2A, z29, z1P, z1H, z2f, z14, z1r, Int.reduceToNat, Int.reduceLE, Int.reduceLT, Int.reduceNeg, startD, List.map_cons, List.map_nil, List.length_cons, List.length_nil, List.replicate, List.cons_append, List.nil_append, List.getElem?_cons_zero, List.getElem?_cons_succ, List.set_cons_zero, List.set_cons_succ, Nat.reduceAdd, Nat.reduceSub, Nat.reduceEqDiff, if_true, if_false, Bool.false_eq_true, decide_true, decide_false, Int.reduceEq, Int.reduceAdd, Int.reduceSub, Int.reduceMul, Bool.not_true, Bool.not_false, c_0, c_1, c_2, c_3, c_4, c_5, c_6, c_7, c_8, c_9, c_10, c_11, c_12, sz_0, sz_1, sz_2, sz_3, sz_4, sz_5, sz_6, sz_7, sz_8, sz_9, z2J, z2I, z2E, z2s, z2x, z2z, z2w, Bool.true_eq_false, eq_self, za, zb, z4, z7, z5, z3, zw, zy, zi, zr, zp, z8, zn, zj, ze, zg, zh, z6, zz, zu, zf, zq, zo, z9, zD, zE, zm, zt, zA, zc, zG, zB, zl, zv, zx, zd, z2j, z2a, zS, z1E, z1q, z25, z2C, z2u, z2G, zY, z26, z2d, zT, z1p, z1D, z24, z1o, zF, z1u, zQ, z1t, z1B, zC, zX, z10, z2e, z22, z1z, z1A, z1y, zV, z11, z1v, zJ, zW, zZ, e']
  refine ⟨_, [cvO (mks ins some') (S.length + 1), DO.dic 2 (kvE rsD kn'), DO.lst ((fs (mks ins some') some').map fun q => mW q.1)], rfl, ?_, ?_, by simp⟩
  · rw [List.set_append_right _ _ (by omega), Nat.add_sub_cancel_left, List.append_assoc]
    rfl
  · rw [List.getElem?_append_right (by simp)]
    simp

theorem good_iff {ins : Nat} {s : List Bt} {m : Mk} : m ∈ goodM ins s ↔ m.length = ins ∧ ∀ b : Bt, b.length = ins → ft m b = true → b ∈ s := by
  unfold goodM
  rw [List.mem_filter, List.all_eq_true]
  constructor
  · rintro ⟨h1, h2⟩
    refine ⟨allM_len ins h1, fun b hb hf => ?_⟩
    exact of_decide_eq_true (h2 b (List.mem_filter.mpr ⟨by subst hb; exact allB_mem b, hf⟩))
  · rintro ⟨h1, h2⟩
    refine ⟨allM_mem h1, fun b hb => ?_⟩
    obtain ⟨h3, h4⟩ := List.mem_filter.mp hb
    exact decide_eq_true (h2 b (allB_len ins b h3) h4)
theorem wd_len {m : Mk} {k : Nat} (h : k < m.length) : (wd m k).length = m.length := by
  unfold wd
  rw [List.length_append, List.length_take, List.length_cons, List.length_drop]
  omega
theorem wd_get {m : Mk} {k j : Nat} (h : k < m.length) : (wd m k).getD j none = if j = k then none else m.getD j none := by
  unfold wd
  rw [List.getD_eq_getElem?_getD, List.getD_eq_getElem?_getD]
  have hl : (m.take k).length = k := by rw [List.length_take]; omega
  by_cases h1 : j < k
  · rw [List.getElem?_append_left (by omega), List.getElem?_take, if_pos h1, if_neg (by omega)]
  · rw [List.getElem?_append_right (by omega), hl]
    by_cases h2 : j = k
    · subst h2
      rw [if_pos rfl, Nat.sub_self]
      rfl
    · rw [if_neg h2]
      obtain ⟨d, hd⟩ : ∃ d, j - k = d + 1 := ⟨j - k - 1, by omega⟩
      rw [hd, List.getElem?_cons_succ, List.getElem?_drop]
      congr 2
      omega
theorem wd_ft {m : Mk} {k : Nat} {b : Bt} (h : k < m.length) (hf : ft m b = true) : ft (wd m k) b = true := by
  rw [ft_iff] at hf ⊢
  intro j hj
  rw [wd_len h] at hj
  have := hf j hj
  unfold fk at this ⊢
  rw [wd_get h]
  by_cases e : j = k
  · rw [if_pos e]
  · rw [if_neg e]
    exact this
def nfx (m : Mk) : Nat := m.countP Option.isSome
theorem nfx_wd {m : Mk} {k : Nat} (h : k < m.length) (hf : fixd m k = true) : nfx (wd m k) + 1 = nfx m := by
  have hs : m[k].isSome = true := by
    unfold fixd at hf
    rw [List.getD_eq_getElem?_getD, List.getElem?_eq_getElem h] at hf
    cases hm : m[k] with
    | none => rw [hm] at hf; simp at hf
    | some b => rfl
  have h1 : nfx m = (m.take k).countP Option.isSome + (1 + (m.drop (k + 1)).countP Option.isSome) := by
    have e2 : m.countP Option.isSome = (m.take k ++ m.drop k).countP Option.isSome := by rw [List.take_append_drop]
    unfold nfx
    rw [e2, List.countP_append, List.drop_eq_getElem_cons h, List.countP_cons, hs]
    simp
    omega
  unfold nfx wd
  rw [List.countP_append, List.countP_cons]
  unfold nfx at h1
  rw [h1]
  simp
  omega
theorem prime_ex {ins : Nat} {s : List Bt} : ∀ (n : Nat) {m : Mk}, nfx m ≤ n → m ∈ goodM ins s → ∃ q ∈ mks ins s, ∀ b, b ∈ btsM ins m → b ∈ q.2
  | n, m, hn, hm => by
    by_cases hp : ((wid m).all fun x => !decide (x ∈ goodM ins s)) = true
    · exact ⟨(m, btsM ins m), List.mem_map.mpr ⟨m, List.mem_filter.mpr ⟨hm, hp⟩, rfl⟩, fun b hb => hb⟩
    · rw [Bool.not_eq_true, List.all_eq_false] at hp
      obtain ⟨x, hx, hg⟩ := hp
      have hg : x ∈ goodM ins s := by simpa using hg
      unfold wid at hx
      obtain ⟨k, hk, rfl⟩ := List.mem_map.mp hx
      obtain ⟨hk1, hk2⟩ := List.mem_filter.mp hk
      have hk1 := List.mem_range.mp hk1
      have hnf := nfx_wd hk1 hk2
      cases n with
      | zero => omega
      | succ n =>
        obtain ⟨q, hq, hb⟩ := prime_ex n (by omega) hg
        refine ⟨q, hq, fun b hbm => hb b ?_⟩
        obtain ⟨h1, h2⟩ := List.mem_filter.mp hbm
        exact List.mem_filter.mpr ⟨h1, wd_ft hk1 h2⟩
theorem ft_self {b c : Bt} (h : c.length = b.length) : ft (b.map some) c = true ↔ c = b := by
  rw [ft_iff]
  rw [List.length_map]
  constructor
  · intro hf
    apply List.ext_getElem h
    intro i h1 h2
    have := hf i h2
    unfold fk at this
    have e1 : (b.map some).getD i none = some b[i] := by
      rw [List.getD_eq_getElem?_getD, List.getElem?_map, List.getElem?_eq_getElem h2]
      rfl
    have e2 : c.getD i false = c[i] := by
      rw [List.getD_eq_getElem?_getD, List.getElem?_eq_getElem h1]
      rfl
    rw [e1, e2] at this
    exact (eq_of_beq this).symm
  · rintro rfl i hi
    unfold fk
    have e1 : (c.map some).getD i none = some c[i] := by
      rw [List.getD_eq_getElem?_getD, List.getElem?_map, List.getElem?_eq_getElem hi]
      rfl
    have e2 : c.getD i false = c[i] := by
      rw [List.getD_eq_getElem?_getD, List.getElem?_eq_getElem hi]
      rfl
    rw [e1, e2]
    exact beq_self_eq_true _
theorem cov_mks {ins : Nat} {s : List Bt} (hs : ∀ b ∈ s, b.length = ins) : Cov (mks ins s) s := fun b hb => by
  have hbl := hs b hb
  have hg : b.map some ∈ goodM ins s := good_iff.mpr ⟨by rw [List.length_map]; exact hbl, fun c hc hf => by
    rw [(ft_self (by omega)).mp hf]
    exact hb⟩
  obtain ⟨q, hq, h⟩ := prime_ex (nfx (b.map some)) (Nat.le_refl _) hg
  refine ⟨q, hq, h b (List.mem_filter.mpr ⟨by subst hbl; exact allB_mem b, (ft_self rfl).mpr rfl⟩)⟩

theorem cov_cons {cs : List Pk} {q : Pk} {rest : List Bt} (h : Cov cs (lft rest q.2)) : Cov (q :: cs) rest := fun b hb => by
  by_cases hbq : b ∈ q.2
  · exact ⟨q, List.mem_cons_self, hbq⟩
  · obtain ⟨p, hp, hpb⟩ := h b (lft_mem.mpr ⟨hb, hbq⟩)
    exact ⟨p, List.mem_cons_of_mem _ hp, hpb⟩
theorem mn_ex {ps : List Pk} {rest : List Bt} (hc : Cov ps rest) : ∃ cs : List Pk, (∀ q ∈ cs, q ∈ ps) ∧ Cov cs rest ∧ cs.length = mn ps rest := ⟨fsF ps rest.length rest, fsF_ok rest.length (Nat.le_refl _) hc⟩
theorem mem_ok {ps : List Pk} {rest : List Bt} {cs : List Pk} {q : Pk} (hs : ∀ q ∈ cs, q ∈ ps) (hc : Cov cs rest) (hl : cs.length = mn ps rest) (hq : q ∈ cs) : okP ps rest q = true := by
  have hpos := List.length_pos_of_mem hq
  have hel : (cs.erase q).length = cs.length - 1 := List.length_erase_of_mem hq
  have hes : ∀ x ∈ cs.erase q, x ∈ ps := fun x hx => hs x (List.mem_of_mem_erase hx)
  have c1 : Cov (cs.erase q) (lft rest q.2) := fun x hx => by
    obtain ⟨h1, h2⟩ := lft_mem.mp hx
    obtain ⟨p, hp, hpx⟩ := hc x h1
    exact ⟨p, (List.mem_erase_of_ne (fun z => h2 (by rw [← z]; exact hpx))).mpr hp, hpx⟩
  have m1 := mn_le _ (Nat.le_refl _) hes c1
  have hlt : (lft rest q.2).length < rest.length := by
    refine Nat.lt_of_le_of_ne (lft_len _ _) fun e => ?_
    have e2 := List.length_filter_eq_length_iff.mp e
    have c2 : Cov (cs.erase q) rest := fun x hx => by
      have : x ∈ lft rest q.2 := lft_mem.mpr ⟨hx, by have := e2 x hx; simpa using this⟩
      exact c1 x this
    have := mn_le _ (Nat.le_refl _) hes c2
    omega
  have hcp : Cov ps rest := fun b hb => by
    obtain ⟨p, hp, h⟩ := hc b hb
    exact ⟨p, hs p hp, h⟩
  obtain ⟨ds, d1, d2, d3⟩ := mn_ex (hcp.lft (bs := q.2))
  have m2 := mn_le (ps := ps) (rest := rest) (cs := q :: ds) _ (Nat.le_refl _) (fun x hx => by
    rcases List.mem_cons.mp hx with rfl | hx
    · exact hs x hq
    · exact d1 x hx) (cov_cons d2)
  rw [List.length_cons] at m2
  unfold okP
  rw [decide_eq_true hlt, decide_eq_true (show 1 + mn ps (lft rest q.2) = mn ps rest by omega)]
  rfl
theorem fs_ok {ps : List Pk} {rest : List Bt} (hc : Cov ps rest) : (∀ q ∈ fs ps rest, q ∈ ps) ∧ Cov (fs ps rest) rest ∧ (fs ps rest).length = mn ps rest := fsF_ok rest.length (Nat.le_refl _) hc
theorem lft_lft {rest bs : List Bt} : lft (lft rest bs) bs = lft rest bs := by
  unfold lft
  rw [List.filter_filter]
  congr 1
  funext b
  simp
theorem once_no {ps : List Pk} {rest : List Bt} {a x : Pk} (ha : a ∈ ps) (hx : x ∈ ps) (hc : Cov ps rest) (oa : okP ps rest a = true) (ox : okP ps (lft rest a.2) x = true) : okP ps rest x = true := by
  unfold okP at oa ox
  rw [Bool.and_eq_true] at oa ox
  have a2 := of_decide_eq_true oa.2
  have x2 := of_decide_eq_true ox.2
  obtain ⟨ds, d1, d2, d3⟩ := mn_ex ((hc.lft (bs := a.2)).lft (bs := x.2))
  exact mem_ok (cs := a :: x :: ds) (fun q hq => by
    rcases List.mem_cons.mp hq with rfl | hq
    · exact ha
    · rcases List.mem_cons.mp hq with rfl | hq
      · exact hx
      · exact d1 q hq) (cov_cons (cov_cons d2)) (by simp only [List.length_cons]; omega) (by simp)
structure Once (ps : List Pk) (base : List Bt) (pre out : List Pk) (rest : List Bt) : Prop where
  sub : rest.Sublist base
  out : out ++ fs ps rest = fs ps base
  no : ∀ x ∈ pre, okP ps rest x = false
theorem Once.skip {ps : List Pk} {base rest : List Bt} {pre out : List Pk} {a : Pk} (h : Once ps base pre out rest) (ha : okP ps rest a = false) : Once ps base (pre ++ [a]) out rest := ⟨h.sub, h.out, fun x hx => by
  rcases List.mem_append.mp hx with hx | hx
  · exact h.no x hx
  · rw [List.mem_singleton.mp hx]; exact ha⟩
theorem Once.take {ps : List Pk} {base rest : List Bt} {pre post out : List Pk} {a : Pk} (hc : Cov ps base) (e : ps = pre ++ a :: post) (h : Once ps base pre out rest) (ha : okP ps rest a = true) : Once ps base (pre ++ [a]) (out ++ [a]) (lft rest a.2) := by
  have hcr : Cov ps rest := fun b hb => hc b (h.sub.subset hb)
  have hap : a ∈ ps := by rw [e]; simp
  have hne : rest ≠ [] := by
    rintro rfl
    unfold okP at ha
    simp at ha
  have hf := find_at e h.no ha
  refine ⟨lft_sub h.sub, ?_, fun x hx => ?_⟩
  · rw [← h.out, fs_step hne hf]
    simp
  · cases ox : okP ps (lft rest a.2) x with
    | false => rfl
    | true =>
      rcases List.mem_append.mp hx with hx | hx
      · have := once_no hap (by rw [e]; simp [hx]) hcr ha ox
        rw [h.no x hx] at this
        cases this
      · rw [List.mem_singleton.mp hx] at ox
        unfold okP at ox
        rw [lft_lft] at ox
        simp at ox
theorem Once.fin {ps : List Pk} {base rest : List Bt} {out : List Pk} (hc : Cov ps base) (h : Once ps base ps out rest) : out = fs ps base := by
  have hcr : Cov ps rest := fun b hb => hc b (h.sub.subset hb)
  by_cases hne : rest = []
  · subst hne
    rw [← h.out]
    simp [fs, fsF]
  · obtain ⟨q, hf, hq, _⟩ := okP_some hne hcr
    have := List.find?_some hf
    rw [h.no q hq] at this
    cases this

theorem need_beats_ok {ins : Int} {ws : List (List Nat)} {S : Sto} (hw : ∀ w ∈ ws, Wok w ∧ w.length ≤ 16777216) (h : ∀ w ∈ ws, isWord w ins b01 = true) : F_need_beats [.int ins, .frl (ws.map fun w => .str (W w))] S = .ok .non S := by
  unfold F_need_beats
  refine fn_ok rfl ?_
  unfold b_need_beats
  simp only [z1T, w_dC, z1L, z1i, z1W, z1Y, w_d2, z2o, w_d3, z2m, z1Z, z1e, z1J, z1g, z1U, z2p, z1G, z2n, z1V, z1f, z1M, z2q, z1I, z1m, z1R, z1K, z1N, z1c, zL, z1a, z1Q, z1S, zN, z1j, zP, zM, z19, z1h, z1l, z1d, zR, z16, z1O, z18, z1n, zK, z17, z15, zO, zI, z1k, z2r, z1X, z1b, zH, z1w, z2K, z1F, w_ok, z2v, z1x, z2l, z27, z1C, z2h, z23, z2O, z2N, z2g, z1s, zU, z12, z28, z2b, z2c, z20, z2k, z21, z2i, z2F, z2D, z2B, z2L, z2y, z2H, z2t, z2A, z29, z1P, z1H, z2f, z14, z1r, Int.reduceToNat, Int.reduceLE, Int.reduceLT, Int.reduceNeg, startD, List.map_cons, List.map_nil, List.length_cons, List.length_nil, List.replicate, List.cons_append, List.nil_append, List.getElem?_cons_zero, List.getElem?_cons_succ, List.set_cons_zero, List.set_cons_succ, Nat.reduceAdd, Nat.reduceSub, Nat.reduceEqDiff, if_true, if_false, Bool.false_eq_true, decide_true, decide_false, Int.reduceEq, Int.reduceAdd, Int.reduceSub, Int.reduceMul, Bool.not_true, Bool.not_false, c_0, c_1, c_2, c_3, c_4, c_5, c_6, c_7, c_8, c_9, c_10, c_11, c_12, sz_0, sz_1, sz_2, sz_3, sz_4, sz_5, sz_6, sz_7, sz_8, sz_9, z2J, z2I, z2E, z2s, z2x, z2z, z2w, Bool.true_eq_false, eq_self, za, zb, z4, z7, z5, z3, zw, zy, zi, zr, zp, z8, zn, zj, ze, zg, zh, z6, zz, zu, zf, zq, zo, z9, zD, zE, zm, zt, zA, zc, zG, zB, zl, zv, zx, zd, z2j, z2a, zS, z1E, z1q, z25, z2C, z2u, z2G, zY, z26, z2d, zT, z1p, z1D, z24, z1o, zF, z1u, zQ, z1t, z1B, zC, zX, z10, z2e, z22, z1z, z1A, z1y, zV, z11, z1v, zJ, zW, zZ, itemsD]
  refine w_enumP (fun w => D.str (W w)) (fun _ sd S' => S' = S ∧ ∃ a b, sd = [some (.int ins), some (.frl (ws.map fun w => .str (W w))), a, b]) ws (fun _ _ _ _ _ _ => rfl) ⟨rfl, none, none, rfl⟩ ?_ ?_
  · rintro sd S' ⟨rfl, a, b, rfl⟩
    exact ⟨rfl, app_nil _⟩
  · rintro pre w post sd S' e ⟨rfl, a, b, rfl⟩
    have hm : w ∈ ws := by rw [e]; simp
    simp only [z1T, w_dC, z1L, z1i, z1W, z1Y, w_d2, z2o, w_d3, z2m, z1Z, z1e, z1J, z1g, z1U, z2p, z1G, z2n, z1V, z1f, z1M, z2q, z1I, z1m, z1R, z1K, z1N, z1c, zL, z1a, z1Q, z1S, zN, z1j, zP, zM, z19, z1h, z1l, z1d, zR, z16, z1O, z18, z1n, zK, z17, z15, zO, zI, z1k, z2r, z1X, z1b, zH, z1w, z2K, z1F, w_ok, z2v, z1x, z2l, z27, z1C, z2h, z23, z2O, z2N, z2g, z1s, zU, z12, z28, z2b, z2c, z20, z2k, z21, z2i, z2F, z2D, z2B, z2L, z2y, z2H, z2t, z2A, z29, z1P, z1H, z2f, z14, z1r, Int.reduceToNat, Int.reduceLE, Int.reduceLT, Int.reduceNeg, startD, List.map_cons, List.map_nil, List.length_cons, List.length_nil, List.replicate, List.cons_append, List.nil_append, List.getElem?_cons_zero, List.getElem?_cons_succ, List.set_cons_zero, List.set_cons_succ, Nat.reduceAdd, Nat.reduceSub, Nat.reduceEqDiff, if_true, if_false, Bool.false_eq_true, decide_true, decide_false, Int.reduceEq, Int.reduceAdd, Int.reduceSub, Int.reduceMul, Bool.not_true, Bool.not_false, c_0, c_1, c_2, c_3, c_4, c_5, c_6, c_7, c_8, c_9, c_10, c_11, c_12, sz_0, sz_1, sz_2, sz_3, sz_4, sz_5, sz_6, sz_7, sz_8, sz_9, z2J, z2I, z2E, z2s, z2x, z2z, z2w, Bool.true_eq_false, eq_self, za, zb, z4, z7, z5, z3, zw, zy, zi, zr, zp, z8, zn, zj, ze, zg, zh, z6, zz, zu, zf, zq, zo, z9, zD, zE, zm, zt, zA, zc, zG, zB, zl, zv, zx, zd, z2j, z2a, zS, z1E, z1q, z25, z2C, z2u, z2G, zY, z26, z2d, zT, z1p, z1D, z24, z1o, zF, z1u, zQ, z1t, z1B, zC, zX, z10, z2e, z22, z1z, z1A, z1y, zV, z11, z1v, zJ, zW, zZ, gTupD, W_01]
    rw [is_word_ok (hw w hm).1 (hw w hm).2]
    have e1 : isWord w ins [48, 49] = true := h w hm
    simp only [z1T, w_dC, z1L, z1i, z1W, z1Y, w_d2, z2o, w_d3, z2m, z1Z, z1e, z1J, z1g, z1U, z2p, z1G, z2n, z1V, z1f, z1M, z2q, z1I, z1m, z1R, z1K, z1N, z1c, zL, z1a, z1Q, z1S, zN, z1j, zP, zM, z19, z1h, z1l, z1d, zR, z16, z1O, z18, z1n, zK, z17, z15, zO, zI, z1k, z2r, z1X, z1b, zH, z1w, z2K, z1F, w_ok, z2v, z1x, z2l, z27, z1C, z2h, z23, z2O, z2N, z2g, z1s, zU, z12, z28, z2b, z2c, z20, z2k, z21, z2i, z2F, z2D, z2B, z2L, z2y, z2H, z2t, z2A, z29, z1P, z1H, z2f, z14, z1r, Int.reduceToNat, Int.reduceLE, Int.reduceLT, Int.reduceNeg, startD, List.map_cons, List.map_nil, List.length_cons, List.length_nil, List.replicate, List.cons_append, List.nil_append, List.getElem?_cons_zero, List.getElem?_cons_succ, List.set_cons_zero, List.set_cons_succ, Nat.reduceAdd, Nat.reduceSub, Nat.reduceEqDiff, if_true, if_false, Bool.false_eq_true, decide_true, decide_false, Int.reduceEq, Int.reduceAdd, Int.reduceSub, Int.reduceMul, Bool.not_true, Bool.not_false, c_0, c_1, c_2, c_3, c_4, c_5, c_6, c_7, c_8, c_9, c_10, c_11, c_12, sz_0, sz_1, sz_2, sz_3, sz_4, sz_5, sz_6, sz_7, sz_8, sz_9, z2J, z2I, z2E, z2s, z2x, z2z, z2w, Bool.true_eq_false, eq_self, za, zb, z4, z7, z5, z3, zw, zy, zi, zr, zp, z8, zn, zj, ze, zg, zh, z6, zz, zu, zf, zq, zo, z9, zD, zE, zm, zt, zA, zc, zG, zB, zl, zv, zx, zd, z2j, z2a, zS, z1E, z1q, z25, z2C, z2u, z2G, zY, z26, z2d, zT, z1p, z1D, z24, z1o, zF, z1u, zQ, z1t, z1B, zC, zX, z10, z2e, z22, z1z, z1A, z1y, zV, z11, z1v, zJ, zW, zZ, e1]
    exact ⟨trivial, _, _, rfl⟩
theorem strs_sW (l : List Bt) : strsD (l.map sW) = some (l.map fun b => W (wB b)) := by
  have := strsD_W (l.map wB)
  rw [List.map_map, List.map_map] at this
  exact this
theorem isW' {b : Bt} {ins : Nat} (h : b.length = ins) : isWord (wB b) ((ins : Nat) : Int) [48, 49] = true := by
  unfold isWord
  rw [wB_len, decide_eq_true (by rw [h]), Bool.true_and, List.all_eq_true]
  intro c hc
  obtain ⟨x, _, rfl⟩ := List.mem_map.mp hc
  exact decide_eq_true (cb_mem x)
theorem fewest_raw {ins : Nat} {s : List Bt} {S : Sto} (i1 : 1 ≤ ins) (i4 : ins ≤ 4) (hs : ∀ b ∈ s, b.length = ins) (hl : s.length ≤ 16) (hr : ssrt (s.map fun b => W (wB b)) = s.map fun b => W (wB b)) : Fr_fewest [.int ((ins : Nat) : Int), .frl (s.map sW)] S = .ok (.ref S.length) (S ++ [.lst ((fs (mks ins s) s).map fun q => mW q.1)]) := by
  unfold Fr_fewest
  refine fn_new (gd_blws (n := 0) _ (gd_map fun q _ => gd_W (wM_ok q.1))) ?_
  unfold br_fewest
  have nb : F_need_beats [.int ((ins : Nat) : Int), .frl (s.map sW)] S = .ok .non S := by
    have := need_beats_ok (ins := ((ins : Nat) : Int)) (ws := s.map wB) (S := S) (fun w hw => by
      obtain ⟨b, hb, rfl⟩ := List.mem_map.mp hw
      exact ⟨wB_ok b, by rw [wB_len, hs b hb]; omega⟩) (fun w hw => by
      obtain ⟨b, hb, rfl⟩ := List.mem_map.mp hw
      exact isW' (hs b hb))
    rw [List.map_map] at this
    exact this
  have hset : dSortSetS (dVar 1) [some (.int ((ins : Nat) : Int)), some (.frl (s.map sW))] S = .ok (.frl (s.map sW)) S := by
    unfold dSortSetS dVar
    simp only [List.getElem?_cons_succ, List.getElem?_cons_zero, Res.bind, lsD, strs_sW]
    rw [if_pos (by rw [List.length_map]; omega), hr, List.map_map]
    rfl
  have gs : GD 1 (.frl (s.map sW)) := gd_frl sW_gd0
  have h1 : decide ((1 : Int) ≤ ((ins : Nat) : Int)) = true := decide_eq_true (by omega)
  have h2 : decide (((ins : Nat) : Int) ≤ 4) = true := decide_eq_true (by omega)
  have hlf : ∀ S, listF [.frl (s.map sW)] S = .ok (.frl (s.map sW)) S := fun S => rfl
  simp only [z1T, w_dC, z1L, z1i, z1W, z1Y, w_d2, z2o, w_d3, z2m, z1Z, z1e, z1J, z1g, z1U, z2p, z1G, z2n, z1V, z1f, z1M, z2q, z1I, z1m, z1R, z1K, z1N, z1c, zL, z1a, z1Q, z1S, zN, z1j, zP, zM, z19, z1h, z1l, z1d, zR, z16, z1O, z18, z1n, zK, z17, z15, zO, zI, z1k, z2r, z1X, z1b, zH, z1w, z2K, z1F, w_ok, z2v, z1x, z2l, z27, z1C, z2h, z23, z2g, z1s, zU, z12, z28, z2b, z2c, z20, z2k, z21, z2i, z2F, z2D, z2B, z2L, z2y, z2H, z2t, z2A, z29, z1P, z1H, z2f, z14, z1r, Int.reduceToNat, Int.reduceLE, Int.reduceLT, Int.reduceNeg, startD, List.map_cons, List.map_nil, List.length_cons, List.length_nil, List.replicate, List.cons_append, List.nil_append, List.getElem?_cons_zero, List.getElem?_cons_succ, List.set_cons_zero, List.set_cons_succ, Nat.reduceAdd, Nat.reduceSub, Nat.reduceEqDiff, if_true, if_false, Bool.false_eq_true, decide_true, decide_false, Int.reduceEq, Int.reduceAdd, Int.reduceSub, Int.reduceMul, Bool.not_true, Bool.not_false, c_0, c_1, c_2, c_3, c_4, c_5, c_6, c_7, c_8, c_9, c_10, c_11, c_12, sz_0, sz_1, sz_2, sz_3, sz_4, sz_5, sz_6, sz_7, sz_8, sz_9, z2J, z2I, z2E, z2s, z2x, z2z, z2w, Bool.true_eq_false, eq_self, za, zb, z4, z7, z5, z3, zw, zy, zi, zr, zp, z8, zn, zj, ze, zg, zh, z6, zz, zu, zf, zq, zo, z9, zD, zE, zm, zt, zA, zc, zG, zB, zl, zv, zx, zd, z2j, z2a, zS, z1E, z1q, z25, z2C, z2u, z2G, zY, z26, z2d, zT, z1p, z1D, z24, z1o, zF, z1u, zQ, z1t, z1B, zC, zX, z10, z2e, z22, z1z, z1A, z1y, zV, z11, z1v, zJ, zW, zZ, h1, h2, nb, hset, hlf]
  rw [w_neG gs gs]
  simp only [z1T, w_dC, z1L, z1i, z1W, z1Y, w_d2, z2o, w_d3, z2m, z1Z, z1e, z1J, z1g, z1U, z2p, z1G, z2n, z1V, z1f, z1M, z2q, z1I, z1m, z1R, z1K, z1N, z1c, zL, z1a, z1Q, z1S, zN, z1j, zP, zM, z19, z1h, z1l, z1d, zR, z16, z1O, z18, z1n, zK, z17, z15, zO, zI, z1k, z2r, z1X, z1b, zH, z1w, z2K, z1F, w_ok, z2v, z1x, z2l, z27, z1C, z2h, z23, z2g, z1s, zU, z12, z28, z2b, z2c, z20, z2k, z21, z2i, z2F, z2D, z2B, z2L, z2y, z2H, z2t, z2A, z29, z1P, z1H, z2f, z14, z1r, Int.reduceToNat, Int.reduceLE, Int.reduceLT, Int.reduceNeg, startD, List.map_cons, List.map_nil, List.length_cons, List.length_nil, List.replicate, List.cons_append, List.nil_append, List.getElem?_cons_zero, List.getElem?_cons_succ, List.set_cons_zero, List.set_cons_succ, Nat.reduceAdd, Nat.reduceSub, Nat.reduceEqDiff, if_true, if_false, Bool.false_eq_true, decide_true, decide_false, Int.reduceEq, Int.reduceAdd, Int.reduceSub, Int.reduceMul, Bool.not_true, Bool.not_false, c_0, c_1, c_2, c_3, c_4, c_5, c_6, c_7, c_8, c_9, c_10, c_11, c_12, sz_0, sz_1, sz_2, sz_3, sz_4, sz_5, sz_6, sz_7, sz_8, sz_9, z2J, z2I, z2E, z2s, z2x, z2z, z2w, Bool.true_eq_false, eq_self, za, zb, z4, z7, z5, z3, zw, zy, zi, zr, zp, z8, zn, zj, ze, zg, zh, z6, zz, zu, zf, zq, zo, z9, zD, zE, zm, zt, zA, zc, zG, zB, zl, zv, zx, zd, z2j, z2a, zS, z1E, z1q, z25, z2C, z2u, z2G, zY, z26, z2d, zT, z1p, z1D, z24, z1o, zF, z1u, zQ, z1t, z1B, zC, zX, z10, z2e, z22, z1z, z1A, z1y, zV, z11, z1v, zJ, zW, zZ, decide_true, Bool.not_true, fewest_of_raw i4 hl (cov_mks hs)]
  exact ⟨_, _, rfl, rfl, get_last, Nat.le_refl _⟩

def sLt (a b : Str) : Prop := a.cps.toList < b.cps.toList
theorem ssrt_eq {l r : List Str} (h : r.Pairwise sLt) (hm : ∀ x, x ∈ r ↔ x ∈ l) : ssrt l = r := by
  obtain ⟨d1, _, d3⟩ := ddK_all l
  have hnd : r.Nodup := h.imp fun {a b} hab e => by
    subst e
    exact List.lt_irrefl _ hab
  have hp : (ddK l).Perm r := (List.perm_ext_iff_of_nodup d1 hnd).mpr fun x => (d3 x).trans (hm x).symm
  have h1 : ((ddK l).mergeSort sLe).Perm r := (List.mergeSort_perm _ _).trans hp
  refine List.Perm.eq_of_pairwise (le := fun a b => sLe a b = true) (fun x y _ _ h2 h3 => ?_) (sLe_sorted _) (h.imp fun {a b} hab => sLe_iff.mpr (List.le_of_lt hab)) h1
  exact str_ext (List.le_antisymm (sLe_iff.mp h2) (sLe_iff.mp h3))
theorem allB_rise : ∀ n : Nat, (allB n).Pairwise fun a b => wB a < wB b
  | 0 => by simp [allB]
  | n + 1 => by
    have ih := allB_rise n
    unfold allB
    rw [List.pairwise_append]
    refine ⟨?_, ?_, ?_⟩
    · exact List.pairwise_map.mpr (ih.imp fun {a b} h => by simpa [wB, List.cons_lt_cons_iff] using h)
    · exact List.pairwise_map.mpr (ih.imp fun {a b} h => by simpa [wB, List.cons_lt_cons_iff] using h)
    · intro a ha b hb
      obtain ⟨x, _, rfl⟩ := List.mem_map.mp ha
      obtain ⟨y, _, rfl⟩ := List.mem_map.mp hb
      simp [wB, cb, List.cons_lt_cons_iff]
theorem law_beats_ok {S : Sto} : ∀ (n j : Nat), n ≤ 10 → F__law_beats (n + 1 + j) [.int (n : Nat)] S = .ok (.frl ((allB n).map sW)) S := by
  intro n
  induction n with
  | zero =>
    intro j _
    rw [show 0 + 1 + j = j + 1 by omega]
    unfold F__law_beats
    refine fn_ok rfl ?_
    unfold b__law_beats
    simp only [z1T, w_dC, z1L, z1i, z1W, z1Y, w_d2, z2o, w_d3, z2m, z1Z, z1e, z1J, z1g, z1U, z2p, z1G, z2n, z1V, z1f, z1M, z2q, z1I, z1m, z1R, z1K, z1N, z1c, zL, z1a, z1Q, z1S, zN, z1j, zP, zM, z19, z1h, z1l, z1d, zR, z16, z1O, z18, z1n, zK, z17, z15, zO, zI, z1k, z2r, z1X, z1b, zH, z1w, z2K, z1F, w_ok, z2v, z1x, z2l, z27, z1C, z2h, z23, z2O, z2N, z2g, z1s, zU, z12, z28, z2b, z2c, z20, z2k, z21, z2i, z2F, z2D, z2B, z2L, z2y, z2H, z2t, z2A, z29, z1P, z1H, z2f, z14, z1r, Int.reduceToNat, Int.reduceLE, Int.reduceLT, Int.reduceNeg, startD, List.map_cons, List.map_nil, List.length_cons, List.length_nil, List.replicate, List.cons_append, List.nil_append, List.getElem?_cons_zero, List.getElem?_cons_succ, List.set_cons_zero, List.set_cons_succ, Nat.reduceAdd, Nat.reduceSub, Nat.reduceEqDiff, if_true, if_false, Bool.false_eq_true, decide_true, decide_false, Int.reduceEq, Int.reduceAdd, Int.reduceSub, Int.reduceMul, Bool.not_true, Bool.not_false, c_0, c_1, c_2, c_3, c_4, c_5, c_6, c_7, c_8, c_9, c_10, c_11, c_12, sz_0, sz_1, sz_2, sz_3, sz_4, sz_5, sz_6, sz_7, sz_8, sz_9, z2J, z2I, z2E, z2s, z2x, z2z, z2w, Bool.true_eq_false, eq_self, za, zb, z4, z7, z5, z3, zw, zy, zi, zr, zp, z8, zn, zj, ze, zg, zh, z6, zz, zu, zf, zq, zo, z9, zD, zE, zm, zt, zA, zc, zG, zB, zl, zv, zx, zd, z2j, z2a, zS, z1E, z1q, z25, z2C, z2u, z2G, zY, z26, z2d, zT, z1p, z1D, z24, z1o, zF, z1u, zQ, z1t, z1B, zC, zX, z10, z2e, z22, z1z, z1A, z1y, zV, z11, z1v, zJ, zW, zZ, W_empty]
    exact ⟨rfl, app_nil S⟩
  | succ n ih =>
    intro j hn
    rw [show n + 1 + 1 + j = (n + 1 + j) + 1 by omega]
    unfold F__law_beats
    have hne : ¬ ((n + 1 : Nat) : Int) = 0 := by omega
    have hsub : ((n + 1 : Nat) : Int) - 1 = (n : Nat) := by omega
    have h2 : (allB n).length ≤ 1024 := by
      rw [allB_many]
      have : 2 ^ n ≤ 2 ^ 10 := Nat.pow_le_pow_right (by decide) (by omega)
      omega
    have hc : ∀ (c : Bool) (cs : Str) (o2 : Option D), cs = W [cb c] → dFrz (dComp [2] (iVal (dVar 1)) (gVar 2) tYesD (d2 addD (dC (.str cs)) (dVar 2))) [some (.int ((n + 1 : Nat) : Int)), some (.frl ((allB n).map sW)), o2] S = .ok (.frl (((allB n).map (c :: ·)).map sW)) S := by
      intro c cs o2 hcs
      subst hcs
      rw [List.map_map]
      refine compM (allB n) sW _ ?_ (szn (by omega)) ?_ ?_
      · simp only [z1T, w_dC, z1L, z1i, z1W, z1Y, w_d2, z2o, w_d3, z2m, z1Z, z1e, z1J, z1g, z1U, z2p, z1G, z2n, z1V, z1f, z1M, z2q, z1I, z1m, z1R, z1K, z1N, z1c, zL, z1a, z1Q, z1S, zN, z1j, zP, zM, z19, z1h, z1l, z1d, zR, z16, z1O, z18, z1n, zK, z17, z15, zO, zI, z1k, z2r, z1X, z1b, zH, z1w, z2K, z1F, w_ok, z2v, z1x, z2l, z27, z1C, z2h, z23, z2O, z2N, z2g, z1s, zU, z12, z28, z2b, z2c, z20, z2k, z21, z2i, z2F, z2D, z2B, z2L, z2y, z2H, z2t, z2A, z29, z1P, z1H, z2f, z14, z1r, Int.reduceToNat, Int.reduceLE, Int.reduceLT, Int.reduceNeg, startD, List.map_cons, List.map_nil, List.length_cons, List.length_nil, List.replicate, List.cons_append, List.nil_append, List.getElem?_cons_zero, List.getElem?_cons_succ, List.set_cons_zero, List.set_cons_succ, Nat.reduceAdd, Nat.reduceSub, Nat.reduceEqDiff, if_true, if_false, Bool.false_eq_true, decide_true, decide_false, Int.reduceEq, Int.reduceAdd, Int.reduceSub, Int.reduceMul, Bool.not_true, Bool.not_false, c_0, c_1, c_2, c_3, c_4, c_5, c_6, c_7, c_8, c_9, c_10, c_11, c_12, sz_0, sz_1, sz_2, sz_3, sz_4, sz_5, sz_6, sz_7, sz_8, sz_9, z2J, z2I, z2E, z2s, z2x, z2z, z2w, Bool.true_eq_false, eq_self, za, zb, z4, z7, z5, z3, zw, zy, zi, zr, zp, z8, zn, zj, ze, zg, zh, z6, zz, zu, zf, zq, zo, z9, zD, zE, zm, zt, zA, zc, zG, zB, zl, zv, zx, zd, z2j, z2a, zS, z1E, z1q, z25, z2C, z2u, z2G, zY, z26, z2d, zT, z1p, z1D, z24, z1o, zF, z1u, zQ, z1t, z1B, zC, zX, z10, z2e, z22, z1z, z1A, z1y, zV, z11, z1v, zJ, zW, zZ, itemsD]
        exact ⟨trivial, trivial, fun _ _ => rfl⟩
      · intro b hb S' _
        simp only [z1T, w_dC, z1L, z1i, z1W, z1Y, w_d2, z2o, w_d3, z2m, z1Z, z1e, z1J, z1g, z1U, z2p, z1G, z2n, z1V, z1f, z1M, z2q, z1I, z1m, z1R, z1K, z1N, z1c, zL, z1a, z1Q, z1S, zN, z1j, zP, zM, z19, z1h, z1l, z1d, zR, z16, z1O, z18, z1n, zK, z17, z15, zO, zI, z1k, z2r, z1X, z1b, zH, z1w, z2K, z1F, w_ok, z2v, z1x, z2l, z27, z1C, z2h, z23, z2O, z2N, z2g, z1s, zU, z12, z28, z2b, z2c, z20, z2k, z21, z2i, z2F, z2D, z2B, z2L, z2y, z2H, z2t, z2A, z29, z1P, z1H, z2f, z14, z1r, Int.reduceToNat, Int.reduceLE, Int.reduceLT, Int.reduceNeg, startD, List.map_cons, List.map_nil, List.length_cons, List.length_nil, List.replicate, List.cons_append, List.nil_append, List.getElem?_cons_zero, List.getElem?_cons_succ, List.set_cons_zero, List.set_cons_succ, Nat.reduceAdd, Nat.reduceSub, Nat.reduceEqDiff, if_true, if_false, Bool.false_eq_true, decide_true, decide_false, Int.reduceEq, Int.reduceAdd, Int.reduceSub, Int.reduceMul, Bool.not_true, Bool.not_false, c_0, c_1, c_2, c_3, c_4, c_5, c_6, c_7, c_8, c_9, c_10, c_11, c_12, sz_0, sz_1, sz_2, sz_3, sz_4, sz_5, sz_6, sz_7, sz_8, sz_9, z2J, z2I, z2E, z2s, z2x, z2z, z2w, Bool.true_eq_false, eq_self, za, zb, z4, z7, z5, z3, zw, zy, zi, zr, zp, z8, zn, zj, ze, zg, zh, z6, zz, zu, zf, zq, zo, z9, zD, zE, zm, zt, zA, zc, zG, zB, zl, zv, zx, zd, z2j, z2a, zS, z1E, z1q, z25, z2C, z2u, z2G, zY, z26, z2d, zT, z1p, z1D, z24, z1o, zF, z1u, zQ, z1t, z1B, zC, zX, z10, z2e, z22, z1z, z1A, z1y, zV, z11, z1v, zJ, zW, zZ, wipeD, sW]
        refine ⟨trivial, ?_⟩
        rw [w_addS (by rw [W_len, W_len, wB_len, allB_len n b hb]; exact szn (by simp; omega)), W_app]
        exact ⟨rfl, rfl⟩
      · intro b _; rfl
    refine fn_ok (gd_blw (n := 1) _ (gd_frl (gd_map fun b _ => gd_W (wB_ok b)))) ?_
    unfold b__law_beats
    simp only [z1T, w_dC, z1L, z1i, z1W, z1Y, w_d2, z2o, w_d3, z2m, z1Z, z1e, z1J, z1g, z1U, z2p, z1G, z2n, z1V, z1f, z1M, z2q, z1I, z1m, z1R, z1K, z1N, z1c, zL, z1a, z1Q, z1S, zN, z1j, zP, zM, z19, z1h, z1l, z1d, zR, z16, z1O, z18, z1n, zK, z17, z15, zO, zI, z1k, z2r, z1X, z1b, zH, z1w, z2K, z1F, w_ok, z2v, z1x, z2l, z27, z1C, z2h, z23, z2O, z2N, z2g, z1s, zU, z12, z28, z2b, z2c, z20, z2k, z21, z2i, z2F, z2D, z2B, z2L, z2y, z2H, z2t, z2A, z29, z1P, z1H, z2f, z14, z1r, Int.reduceToNat, Int.reduceLE, Int.reduceLT, Int.reduceNeg, startD, List.map_cons, List.map_nil, List.length_cons, List.length_nil, List.replicate, List.cons_append, List.nil_append, List.getElem?_cons_zero, List.getElem?_cons_succ, List.set_cons_zero, List.set_cons_succ, Nat.reduceAdd, Nat.reduceSub, Nat.reduceEqDiff, if_true, if_false, Bool.false_eq_true, decide_true, decide_false, Int.reduceEq, Int.reduceAdd, Int.reduceSub, Int.reduceMul, Bool.not_true, Bool.not_false, c_0, c_1, c_2, c_3, c_4, c_5, c_6, c_7, c_8, c_9, c_10, c_11, c_12, sz_0, sz_1, sz_2, sz_3, sz_4, sz_5, sz_6, sz_7, sz_8, sz_9, z2J, z2I, z2E, z2s, z2x, z2z, z2w, Bool.true_eq_false, eq_self, za, zb, z4, z7, z5, z3, zw, zy, zi, zr, zp, z8, zn, zj, ze, zg, zh, z6, zz, zu, zf, zq, zo, z9, zD, zE, zm, zt, zA, zc, zG, zB, zl, zv, zx, zd, z2j, z2a, zS, z1E, z1q, z25, z2C, z2u, z2G, zY, z26, z2d, zT, z1p, z1D, z24, z1o, zF, z1u, zQ, z1t, z1B, zC, zX, z10, z2e, z22, z1z, z1A, z1y, zV, z11, z1v, zJ, zW, zZ, hne, hsub, ih j (by omega), hc false _ _ W_0, hc true _ _ W_1, List.length_map]
    rw [w_ite (szn (by omega))]
    simp only [z1T, w_dC, z1L, z1i, z1W, z1Y, w_d2, z2o, w_d3, z2m, z1Z, z1e, z1J, z1g, z1U, z2p, z1G, z2n, z1V, z1f, z1M, z2q, z1I, z1m, z1R, z1K, z1N, z1c, zL, z1a, z1Q, z1S, zN, z1j, zP, zM, z19, z1h, z1l, z1d, zR, z16, z1O, z18, z1n, zK, z17, z15, zO, zI, z1k, z2r, z1X, z1b, zH, z1w, z2K, z1F, w_ok, z2v, z1x, z2l, z27, z1C, z2h, z23, z2O, z2N, z2g, z1s, zU, z12, z28, z2b, z2c, z20, z2k, z21, z2i, z2F, z2D, z2B, z2L, z2y, z2H, z2t, z2A, z29, z1P, z1H, z2f, z14, z1r, Int.reduceToNat, Int.reduceLE, Int.reduceLT, Int.reduceNeg, startD, List.map_cons, List.map_nil, List.length_cons, List.length_nil, List.replicate, List.cons_append, List.nil_append, List.getElem?_cons_zero, List.getElem?_cons_succ, List.set_cons_zero, List.set_cons_succ, Nat.reduceAdd, Nat.reduceSub, Nat.reduceEqDiff, if_true, if_false, Bool.false_eq_true, decide_true, decide_false, Int.reduceEq, Int.reduceAdd, Int.reduceSub, Int.reduceMul, Bool.not_true, Bool.not_false, c_0, c_1, c_2, c_3, c_4, c_5, c_6, c_7, c_8, c_9, c_10, c_11, c_12, sz_0, sz_1, sz_2, sz_3, sz_4, sz_5, sz_6, sz_7, sz_8, sz_9, z2J, z2I, z2E, z2s, z2x, z2z, z2w, Bool.true_eq_false, eq_self, za, zb, z4, z7, z5, z3, zw, zy, zi, zr, zp, z8, zn, zj, ze, zg, zh, z6, zz, zu, zf, zq, zo, z9, zD, zE, zm, zt, zA, zc, zG, zB, zl, zv, zx, zd, z2j, z2a, zS, z1E, z1q, z25, z2C, z2u, z2G, zY, z26, z2d, zT, z1p, z1D, z24, z1o, zF, z1u, zQ, z1t, z1B, zC, zX, z10, z2e, z22, z1z, z1A, z1y, zV, z11, z1v, zJ, zW, zZ]
    refine ⟨?_, app_nil S⟩
    simp [allB]

theorem at_d01 {v : Int} (h0 : 0 ≤ v) (h1 : v < 3) : ∃ o, atI [45, 48, 49] v = some (cM o) := by
  have : v = 0 ∨ v = 1 ∨ v = 2 := by omega
  rcases this with rfl | rfl | rfl
  · exact ⟨none, rfl⟩
  · exact ⟨some false, rfl⟩
  · exact ⟨some true, rfl⟩
theorem has_btF {b : Bt} {bs : List Bt} {S : Sto} : hasD (sW b) (.frl (bs.map sW)) S = some (decide (b ∈ bs)) := by
  have := has_frl (x := sW b) (ds := bs.map sW) (S := S) (n := 0) (m := 0) (gd_W (wB_ok b)) sW_gd0
  rw [this, decide_eq_decide.mpr in_sW]
end Lw

namespace Lw
open PySem PySem.Spec PyProof.Rows L2 DL
theorem fsF_le {ps : List Pk} : ∀ (n : Nat) (rest : List Bt), (fsF ps n rest).length ≤ n
  | 0, _ => Nat.le_refl _
  | n + 1, rest => by
    unfold fsF
    split
    · simp
    · split
      · have := fsF_le (ps := ps) n
        simp [this]
      · simp
structure KL (ps : List Pk) (base : List Bt) (kn : List (List Bt × D)) : Prop where
  val : ∀ p ∈ kn, p.2 = .int ((mn ps p.1 : Nat) : Int) ∧ p.1.Sublist base
  nd : (kn.map (·.1)).Nodup
theorem KL.few {ps : List Pk} {base : List Bt} {kn : List (List Bt × D)} (h : KL ps base kn) (hb : base.length ≤ 16) : kn.length ≤ 65536 := by
  have h1 := sub_few h.nd (r := subs base) fun x hx => by
    obtain ⟨p, hp, rfl⟩ := List.mem_map.mp hx
    exact subs_of (h.val p hp).2
  rw [List.length_map, subs_len] at h1
  have : 2 ^ base.length ≤ 2 ^ 16 := Nat.pow_le_pow_right (by decide) hb
  omega
theorem KL.get {ps : List Pk} {base : List Bt} {kn : List (List Bt × D)} (h : KL ps base kn) {r : List Bt} (hr : r ∈ kn.map (·.1)) : getE kn r = some (.int ((mn ps r : Nat) : Int)) := by
  unfold getE
  cases e : kn.find? fun p => decide (p.1 = r) with
  | none =>
    obtain ⟨p, hp, rfl⟩ := List.mem_map.mp hr
    have := List.find?_eq_none.mp e p hp
    simp at this
  | some p =>
    have h1 := List.find?_some e
    have h2 := List.mem_of_find?_eq_some e
    have h3 := of_decide_eq_true h1
    show some p.2 = _
    rw [(h.val p h2).1, h3]
theorem KL.blw {ps : List Pk} {base : List Bt} {kn : List (List Bt × D)} {n : Nat} (h : KL ps base kn) : (DO.dic 2 (kvE rsD kn)).blw n = true := by
  show ((kn.map fun p => (rsD p.1, p.2)).all fun p => p.2.blw n) = true
  rw [List.all_eq_true]
  intro p hp
  obtain ⟨q, hq, rfl⟩ := List.mem_map.mp hp
  show q.2.blw n = true
  rw [(h.val q hq).1]
  rfl
theorem KL.put {ps : List Pk} {base : List Bt} {kn : List (List Bt × D)} {r : List Bt} (h : KL ps base kn) (hr : r ∉ kn.map (·.1)) (hs : r.Sublist base) : KL ps base (kn ++ [(r, .int ((mn ps r : Nat) : Int))]) := by
  refine ⟨fun p hp => ?_, ?_⟩
  · rcases List.mem_append.mp hp with z | z
    · exact h.val p z
    · rw [List.mem_singleton] at z
      rw [z]
      exact ⟨rfl, hs⟩
  · rw [List.map_append, List.nodup_append]
    refine ⟨h.nd, by simp, fun x hx y hy e => ?_⟩
    have : y = r := by simpa using hy
    rw [e, this] at hx
    exact hr hx
def mnB (l : List Nat) : Nat := l.foldl (fun a n => if 1 + n < a then 1 + n else a) 99
theorem mnB_snoc (l : List Nat) (n : Nat) : mnB (l ++ [n]) = if 1 + n < mnB l then 1 + n else mnB l := by
  unfold mnB
  rw [List.foldl_append]
  rfl
theorem mnB_all : ∀ (l : List Nat) (a : Nat), l.foldl (fun a n => if 1 + n < a then 1 + n else a) a ≤ a ∧ (∀ n ∈ l, l.foldl (fun a n => if 1 + n < a then 1 + n else a) a ≤ 1 + n) ∧ (l.foldl (fun a n => if 1 + n < a then 1 + n else a) a = a ∨ ∃ n ∈ l, l.foldl (fun a n => if 1 + n < a then 1 + n else a) a = 1 + n)
  | [], a => ⟨Nat.le_refl _, fun n h => (by cases h), .inl rfl⟩
  | m :: l, a => by
    obtain ⟨h1, h2, h3⟩ := mnB_all l (if 1 + m < a then 1 + m else a)
    rw [List.foldl_cons]
    refine ⟨Nat.le_trans h1 (by split <;> omega), fun n hn => ?_, ?_⟩
    · rcases List.mem_cons.mp hn with rfl | hn
      · exact Nat.le_trans h1 (by split <;> omega)
      · exact h2 n hn
    · rcases h3 with h3 | ⟨n, hn, h3⟩
      · rw [h3]
        by_cases h : 1 + m < a
        · rw [if_pos h]
          exact .inr ⟨m, by simp, rfl⟩
        · rw [if_neg h]
          exact .inl rfl
      · exact .inr ⟨n, by simp [hn], h3⟩
theorem mnB_eq {l : List Nat} (hne : l ≠ []) (h : ∀ n ∈ l, n ≤ 16) : mnB l = 1 + mnL l := by
  obtain ⟨_, h2, h3⟩ := mnB_all l 99
  have e : l.foldl (fun a n => if 1 + n < a then 1 + n else a) 99 = mnB l := rfl
  rw [e] at h2 h3
  have hm := mnL_mem hne
  have a1 := h2 _ hm
  have a2 := h _ hm
  rcases h3 with h3 | ⟨n, hn, h3⟩
  · omega
  · have := mnL_low n hn
    omega
def lps (ins : Nat) (ms : List Mk) : List Pk := ms.map fun m => (m, btsM ins m)
theorem bts_in {ins : Nat} {m : Mk} {b : Bt} (hb : b.length = ins) : b ∈ btsM ins m ↔ ft m b = true := by
  unfold btsM
  rw [List.mem_filter]
  subst hb
  exact ⟨fun h => h.2, fun h => ⟨allB_mem b, h⟩⟩
theorem lft_bts {ins : Nat} {m : Mk} {rest : List Bt} (h : ∀ b ∈ rest, b.length = ins) : lft rest (btsM ins m) = rest.filter fun b => !ft m b := by
  unfold lft
  refine List.filter_congr fun b hb => ?_
  congr 1
  by_cases e : b ∈ btsM ins m
  · rw [decide_eq_true e, (bts_in (h b hb)).mp e]
  · rw [decide_eq_false e]
    cases hf : ft m b with
    | false => rfl
    | true => exact absurd ((bts_in (h b hb)).mpr hf) e
theorem mn_lt {ps : List Pk} {rest : List Bt} (hc : Cov ps rest) : mn ps rest ≤ rest.length := by
  obtain ⟨_, _, h⟩ := fs_ok hc
  rw [← h]
  exact fsF_le _ _
def lvals (ins : Nat) (ps : List Pk) (rest : List Bt) (b : Bt) (pre : List Mk) : List Nat := (pre.filter fun m => ft m b).map fun m => mn ps (lft rest (btsM ins m))
theorem lvals_snoc {ins : Nat} {ps : List Pk} {rest : List Bt} {b : Bt} {pre : List Mk} {m : Mk} : lvals ins ps rest b (pre ++ [m]) = lvals ins ps rest b pre ++ (if ft m b = true then [mn ps (lft rest (btsM ins m))] else []) := by
  unfold lvals
  rw [List.filter_append, List.map_append]
  congr 1
  cases hf : ft m b <;> simp [hf, List.filter_cons]
theorem lvals_all {ins : Nat} {ms : List Mk} {b : Bt} {r : List Bt} (hb : b.length = ins) (hc : Cov (lps ins ms) (b :: r)) (hl : (b :: r).length ≤ 16) : mnB (lvals ins (lps ins ms) (b :: r) b ms) = mn (lps ins ms) (b :: r) := by
  have e : ((lps ins ms).filter fun q => decide (b ∈ q.2)).map (fun q => mn (lps ins ms) (lft (b :: r) q.2)) = lvals ins (lps ins ms) (b :: r) b ms := by
    unfold lvals
    have : ∀ l : List Mk, ((l.map fun m => (m, btsM ins m)).filter fun q => decide (b ∈ q.2)).map (fun q => mn (lps ins ms) (lft (b :: r) q.2)) = (l.filter fun m => ft m b).map fun m => mn (lps ins ms) (lft (b :: r) (btsM ins m)) := fun l => by
      induction l with
      | nil => rfl
      | cons m l ih =>
        rw [List.map_cons, List.filter_cons, List.filter_cons]
        by_cases h : ft m b = true
        · rw [if_pos (decide_eq_true ((bts_in hb).mpr h)), if_pos h, List.map_cons, List.map_cons, ih]
        · rw [if_neg (by simpa using fun z => h ((bts_in hb).mp z)), if_neg h, ih]
    exact this ms
  rw [mn_cons, e]
  refine mnB_eq (fun z => ?_) fun n hn => ?_
  · obtain ⟨q, hq, hbq⟩ := hc b (List.mem_cons_self)
    obtain ⟨m, hm, rfl⟩ := List.mem_map.mp hq
    have : mn (lps ins ms) (lft (b :: r) (btsM ins m)) ∈ ([] : List Nat) := by
      rw [← z]
      exact List.mem_map.mpr ⟨m, List.mem_filter.mpr ⟨hm, (bts_in hb).mp hbq⟩, rfl⟩
    cases this
  · obtain ⟨m, _, rfl⟩ := List.mem_map.mp hn
    have := mn_lt (hc.lft (bs := btsM ins m))
    have := lft_len (b :: r) (btsM ins m)
    omega
theorem law_many_ok {ins : Nat} {ms : List Mk} {base : List Bt} {k : Nat} (hi : ins ≤ 4) (hb : base.length ≤ 16) (hb4 : ∀ b ∈ base, b.length = ins) (hms : ∀ m ∈ ms, m.length = ins) (hc : Cov (lps ins ms) base) :
    ∀ (n : Nat) {rest : List Bt} {kn : List (List Bt × D)} {S : Sto}, rest.length < n → rest.Sublist base → KL (lps ins ms) base kn → S[k]? = some (.dic 2 (kvE rsD kn)) →
      ∃ kn', F__law_many n [rsD rest, .frl (ms.map mW), .ref k] S = .ok (.int ((mn (lps ins ms) rest : Nat) : Int)) (S.set k (.dic 2 (kvE rsD kn'))) ∧ KL (lps ins ms) base kn' ∧ ∀ p ∈ kn', p ∈ kn ∨ p.1.length ≤ rest.length
  | 0, rest, _, _, h, _, _, _ => by omega
  | n + 1, rest, kn, S, hn, hsub, K, hk => by
    have ih := fun {rest : List Bt} {kn : List (List Bt × D)} {S : Sto} => law_many_ok (k := k) hi hb hb4 hms hc n (rest := rest) (kn := kn) (S := S)
    have hkl : k < S.length := (List.getElem?_eq_some_iff.mp hk).1
    have hrl : rest.length ≤ 16 := by have := hsub.length_le; omega
    have main : Wp (dFn 7 (b__law_many (F__law_many n)) [rsD rest, .frl (ms.map mW), .ref k] S) (fun d S' => d = .int ((mn (lps ins ms) rest : Nat) : Int) ∧ ∃ kn', (∃ T, S' = S.set k (.dic 2 (kvE rsD kn')) ++ T) ∧ KL (lps ins ms) base kn' ∧ ∀ p ∈ kn', p ∈ kn ∨ p.1.length ≤ rest.length) NX := by
      rw [z2l]
      unfold b__law_many
      have gr : GD 1 (rsD rest) := gd_tup sW_gd0
      simp only [z1T, w_dC, z1L, z1i, z1W, z1Y, w_d2, z2o, w_d3, z2m, z1Z, z1e, z1J, z1g, z1U, z2p, z1G, z2n, z1V, z1f, z1M, z2q, z1I, z1m, z1R, z1K, z1N, z1c, zL, z1a, z1Q, z1S, zN, z1j, zP, zM, z19, z1h, z1l, z1d, zR, z16, z1O, z18, z1n, zK, z17, z15, zO, zI, z1k, z2r, z1X, z1b, zH, z1w, z2K, z1F, w_ok, z2v, z1x, z2l, z27, z1C, z2h, z23, z2g, z1s, zU, z12, z28, z2b, z2c, z20, z2k, z21, z2i, z2F, z2D, z2B, z2L, z2y, z2H, z2t, z2A, z29, z1P, z1H, z2f, z14, z1r, Int.reduceToNat, Int.reduceLE, Int.reduceLT, Int.reduceNeg, startD, List.map_cons, List.map_nil, List.length_cons, List.length_nil, List.replicate, List.cons_append, List.nil_append, List.getElem?_cons_zero, List.getElem?_cons_succ, List.set_cons_zero, List.set_cons_succ, Nat.reduceAdd, Nat.reduceSub, Nat.reduceEqDiff, if_true, if_false, Bool.false_eq_true, decide_true, decide_false, Int.reduceEq, Int.reduceAdd, Int.reduceSub, Int.reduceMul, Bool.not_true, Bool.not_false, c_0, c_1, c_2, c_3, c_4, c_5, c_6, c_7, c_8, c_9, c_10, c_11, c_12, sz_0, sz_1, sz_2, sz_3, sz_4, sz_5, sz_6, sz_7, sz_8, sz_9, z2J, z2I, z2E, z2s, z2x, z2z, z2w, Bool.true_eq_false, eq_self, za, zb, z4, z7, z5, z3, zw, zy, zi, zr, zp, z8, zn, zj, ze, zg, zh, z6, zz, zu, zf, zq, zo, z9, zD, zE, zm, zt, zA, zc, zG, zB, zl, zv, zx, zd, z2j, z2a, zS, z1E, z1q, z25, z2C, z2u, z2G, zY, z26, z2d, zT, z1p, z1D, z24, z1o, zF, z1u, zQ, z1t, z1B, zC, zX, z10, z2e, z22, z1z, z1A, z1y, zV, z11, z1v, zJ, zW, zZ]
      rw [w_eqG (n := 1) (m := 1) gr (gd_tup (n := 0) fun d hd => by cases hd)]
      by_cases hnil : rest = []
      · subst hnil
        have e0 : rsD [] = .tup [] := rfl
        simp only [z1T, w_dC, z1L, z1i, z1W, z1Y, w_d2, z2o, w_d3, z2m, z1Z, z1e, z1J, z1g, z1U, z2p, z1G, z2n, z1V, z1f, z1M, z2q, z1I, z1m, z1R, z1K, z1N, z1c, zL, z1a, z1Q, z1S, zN, z1j, zP, zM, z19, z1h, z1l, z1d, zR, z16, z1O, z18, z1n, zK, z17, z15, zO, zI, z1k, z2r, z1X, z1b, zH, z1w, z2K, z1F, w_ok, z2v, z1x, z2l, z27, z1C, z2h, z23, z2g, z1s, zU, z12, z28, z2b, z2c, z20, z2k, z21, z2i, z2F, z2D, z2B, z2L, z2y, z2H, z2t, z2A, z29, z1P, z1H, z2f, z14, z1r, Int.reduceToNat, Int.reduceLE, Int.reduceLT, Int.reduceNeg, startD, List.map_cons, List.map_nil, List.length_cons, List.length_nil, List.replicate, List.cons_append, List.nil_append, List.getElem?_cons_zero, List.getElem?_cons_succ, List.set_cons_zero, List.set_cons_succ, Nat.reduceAdd, Nat.reduceSub, Nat.reduceEqDiff, if_true, if_false, Bool.false_eq_true, decide_true, decide_false, Int.reduceEq, Int.reduceAdd, Int.reduceSub, Int.reduceMul, Bool.not_true, Bool.not_false, c_0, c_1, c_2, c_3, c_4, c_5, c_6, c_7, c_8, c_9, c_10, c_11, c_12, sz_0, sz_1, sz_2, sz_3, sz_4, sz_5, sz_6, sz_7, sz_8, sz_9, z2J, z2I, z2E, z2s, z2x, z2z, z2w, Bool.true_eq_false, eq_self, za, zb, z4, z7, z5, z3, zw, zy, zi, zr, zp, z8, zn, zj, ze, zg, zh, z6, zz, zu, zf, zq, zo, z9, zD, zE, zm, zt, zA, zc, zG, zB, zl, zv, zx, zd, z2j, z2a, zS, z1E, z1q, z25, z2C, z2u, z2G, zY, z26, z2d, zT, z1p, z1D, z24, z1o, zF, z1u, zQ, z1t, z1B, zC, zX, z10, z2e, z22, z1z, z1A, z1y, zV, z11, z1v, zJ, zW, zZ, e0, decide_true]
        exact ⟨rfl, kn, ⟨[], by rw [List.append_nil, set_same hk]⟩, K, fun p hp => .inl hp⟩
      obtain ⟨b, r, rfl⟩ := List.exists_cons_of_ne_nil hnil
      have hne : ¬ rsD (b :: r) = .tup [] := fun z => by unfold rsD at z; simp at z
      have hbb : b.length = ins := hb4 b (hsub.subset (List.mem_cons_self))
      have hcr : Cov (lps ins ms) (b :: r) := fun c hcb => hc c (hsub.subset hcb)
      simp only [z1T, w_dC, z1L, z1i, z1W, z1Y, w_d2, z2o, w_d3, z2m, z1Z, z1e, z1J, z1g, z1U, z2p, z1G, z2n, z1V, z1f, z1M, z2q, z1I, z1m, z1R, z1K, z1N, z1c, zL, z1a, z1Q, z1S, zN, z1j, zP, zM, z19, z1h, z1l, z1d, zR, z16, z1O, z18, z1n, zK, z17, z15, zO, zI, z1k, z2r, z1X, z1b, zH, z1w, z2K, z1F, w_ok, z2v, z1x, z2l, z27, z1C, z2h, z23, z2g, z1s, zU, z12, z28, z2b, z2c, z20, z2k, z21, z2i, z2F, z2D, z2B, z2L, z2y, z2H, z2t, z2A, z29, z1P, z1H, z2f, z14, z1r, Int.reduceToNat, Int.reduceLE, Int.reduceLT, Int.reduceNeg, startD, List.map_cons, List.map_nil, List.length_cons, List.length_nil, List.replicate, List.cons_append, List.nil_append, List.getElem?_cons_zero, List.getElem?_cons_succ, List.set_cons_zero, List.set_cons_succ, Nat.reduceAdd, Nat.reduceSub, Nat.reduceEqDiff, if_true, if_false, Bool.false_eq_true, decide_true, decide_false, Int.reduceEq, Int.reduceAdd, Int.reduceSub, Int.reduceMul, Bool.not_true, Bool.not_false, c_0, c_1, c_2, c_3, c_4, c_5, c_6, c_7, c_8, c_9, c_10, c_11, c_12, sz_0, sz_1, sz_2, sz_3, sz_4, sz_5, sz_6, sz_7, sz_8, sz_9, z2J, z2I, z2E, z2s, z2x, z2z, z2w, Bool.true_eq_false, eq_self, za, zb, z4, z7, z5, z3, zw, zy, zi, zr, zp, z8, zn, zj, ze, zg, zh, z6, zz, zu, zf, zq, zo, z9, zD, zE, zm, zt, zA, zc, zG, zB, zl, zv, zx, zd, z2j, z2a, zS, z1E, z1q, z25, z2C, z2u, z2G, zY, z26, z2d, zT, z1p, z1D, z24, z1o, zF, z1u, zQ, z1t, z1B, zC, zX, z10, z2e, z22, z1z, z1A, z1y, zV, z11, z1v, zJ, zW, zZ, decide_eq_false hne]
      rw [w_notInN (dicN_at hk (rsD_nok _)), getK_E rsD_inj]
      by_cases hm : (b :: r) ∈ kn.map (·.1)
      · simp only [K.get hm, z1T, w_dC, z1L, z1i, z1W, z1Y, w_d2, z2o, w_d3, z2m, z1Z, z1e, z1J, z1g, z1U, z2p, z1G, z2n, z1V, z1f, z1M, z2q, z1I, z1m, z1R, z1K, z1N, z1c, zL, z1a, z1Q, z1S, zN, z1j, zP, zM, z19, z1h, z1l, z1d, zR, z16, z1O, z18, z1n, zK, z17, z15, zO, zI, z1k, z2r, z1X, z1b, zH, z1w, z2K, z1F, w_ok, z2v, z1x, z2l, z27, z1C, z2h, z23, z2g, z1s, zU, z12, z28, z2b, z2c, z20, z2k, z21, z2i, z2F, z2D, z2B, z2L, z2y, z2H, z2t, z2A, z29, z1P, z1H, z2f, z14, z1r, Int.reduceToNat, Int.reduceLE, Int.reduceLT, Int.reduceNeg, startD, List.map_cons, List.map_nil, List.length_cons, List.length_nil, List.replicate, List.cons_append, List.nil_append, List.getElem?_cons_zero, List.getElem?_cons_succ, List.set_cons_zero, List.set_cons_succ, Nat.reduceAdd, Nat.reduceSub, Nat.reduceEqDiff, if_true, if_false, Bool.false_eq_true, decide_true, decide_false, Int.reduceEq, Int.reduceAdd, Int.reduceSub, Int.reduceMul, Bool.not_true, Bool.not_false, c_0, c_1, c_2, c_3, c_4, c_5, c_6, c_7, c_8, c_9, c_10, c_11, c_12, sz_0, sz_1, sz_2, sz_3, sz_4, sz_5, sz_6, sz_7, sz_8, sz_9, z2J, z2I, z2E, z2s, z2x, z2z, z2w, Bool.true_eq_false, eq_self, za, zb, z4, z7, z5, z3, zw, zy, zi, zr, zp, z8, zn, zj, ze, zg, zh, z6, zz, zu, zf, zq, zo, z9, zD, zE, zm, zt, zA, zc, zG, zB, zl, zv, zx, zd, z2j, z2a, zS, z1E, z1q, z25, z2C, z2u, z2G, zY, z26, z2d, zT, z1p, z1D, z24, z1o, zF, z1u, zQ, z1t, z1B, zC, zX, z10, z2e, z22, z1z, z1A, z1y, zV, z11, z1v, zJ, zW, zZ, Option.isSome_some, Bool.not_true]
        rw [w_ixN (dicN_at hk (rsD_nok _) |>.trans (by rw [getK_E rsD_inj, K.get hm]))]
        exact ⟨rfl, kn, ⟨[], by rw [List.append_nil, set_same hk]⟩, K, fun p hp => .inl hp⟩
      · simp only [getE_none hm, z1T, w_dC, z1L, z1i, z1W, z1Y, w_d2, z2o, w_d3, z2m, z1Z, z1e, z1J, z1g, z1U, z2p, z1G, z2n, z1V, z1f, z1M, z2q, z1I, z1m, z1R, z1K, z1N, z1c, zL, z1a, z1Q, z1S, zN, z1j, zP, zM, z19, z1h, z1l, z1d, zR, z16, z1O, z18, z1n, zK, z17, z15, zO, zI, z1k, z2r, z1X, z1b, zH, z1w, z2K, z1F, w_ok, z2v, z1x, z2l, z27, z1C, z2h, z23, z2g, z1s, zU, z12, z28, z2b, z2c, z20, z2k, z21, z2i, z2F, z2D, z2B, z2L, z2y, z2H, z2t, z2A, z29, z1P, z1H, z2f, z14, z1r, Int.reduceToNat, Int.reduceLE, Int.reduceLT, Int.reduceNeg, startD, List.map_cons, List.map_nil, List.length_cons, List.length_nil, List.replicate, List.cons_append, List.nil_append, List.getElem?_cons_zero, List.getElem?_cons_succ, List.set_cons_zero, List.set_cons_succ, Nat.reduceAdd, Nat.reduceSub, Nat.reduceEqDiff, if_true, if_false, Bool.false_eq_true, decide_true, decide_false, Int.reduceEq, Int.reduceAdd, Int.reduceSub, Int.reduceMul, Bool.not_true, Bool.not_false, c_0, c_1, c_2, c_3, c_4, c_5, c_6, c_7, c_8, c_9, c_10, c_11, c_12, sz_0, sz_1, sz_2, sz_3, sz_4, sz_5, sz_6, sz_7, sz_8, sz_9, z2J, z2I, z2E, z2s, z2x, z2z, z2w, Bool.true_eq_false, eq_self, za, zb, z4, z7, z5, z3, zw, zy, zi, zr, zp, z8, zn, zj, ze, zg, zh, z6, zz, zu, zf, zq, zo, z9, zD, zE, zm, zt, zA, zc, zG, zB, zl, zv, zx, zd, z2j, z2a, zS, z1E, z1q, z25, z2C, z2u, z2G, zY, z26, z2d, zT, z1p, z1D, z24, z1o, zF, z1u, zQ, z1t, z1B, zC, zX, z10, z2e, z22, z1z, z1A, z1y, zV, z11, z1v, zJ, zW, zZ, Option.isSome_none, Bool.not_false, itemsD]
        refine w_loopP mW (fun pre sd S' => ∃ (kn' : List (List Bt × D)) (a4 a5 a6 : Option D), S' = S.set k (.dic 2 (kvE rsD kn')) ∧ KL (lps ins ms) base kn' ∧ (∀ p ∈ kn', p ∈ kn ∨ p.1.length < (b :: r).length) ∧ sd = [some (rsD (b :: r)), some (.frl (ms.map mW)), some (.ref k), some (.int ((mnB (lvals ins (lps ins ms) (b :: r) b pre) : Nat) : Int)), a4, a5, a6]) ms (fun _ _ _ _ _ _ => rfl) ⟨kn, _, _, _, (set_same hk).symm, K, fun p hp => .inl hp, rfl⟩ ?_ ?_
        · rintro sd S' ⟨kn', a4, a5, a6, rfl, K', up', rfl⟩
          have hk' : (S.set k (.dic 2 (kvE rsD kn')))[k]? = some (.dic 2 (kvE rsD kn')) := by simp [hkl]
          have hnot : (b :: r) ∉ kn'.map (·.1) := fun z => by
            obtain ⟨p, hp, e⟩ := List.mem_map.mp z
            rcases up' p hp with h | h
            · exact hm (List.mem_map.mpr ⟨p, h, e⟩)
            · rw [e] at h
              exact Nat.lt_irrefl _ h
          have few := K'.few hb
          simp only [z1T, w_dC, z1L, z1i, z1W, z1Y, w_d2, z2o, w_d3, z2m, z1Z, z1e, z1J, z1g, z1U, z2p, z1G, z2n, z1V, z1f, z1M, z2q, z1I, z1m, z1R, z1K, z1N, z1c, zL, z1a, z1Q, z1S, zN, z1j, zP, zM, z19, z1h, z1l, z1d, zR, z16, z1O, z18, z1n, zK, z17, z15, zO, zI, z1k, z2r, z1X, z1b, zH, z1w, z2K, z1F, w_ok, z2v, z1x, z2l, z27, z1C, z2h, z23, z2g, z1s, zU, z12, z28, z2b, z2c, z20, z2k, z21, z2i, z2F, z2D, z2B, z2L, z2y, z2H, z2t, z2A, z29, z1P, z1H, z2f, z14, z1r, Int.reduceToNat, Int.reduceLE, Int.reduceLT, Int.reduceNeg, startD, List.map_cons, List.map_nil, List.length_cons, List.length_nil, List.replicate, List.cons_append, List.nil_append, List.getElem?_cons_zero, List.getElem?_cons_succ, List.set_cons_zero, List.set_cons_succ, Nat.reduceAdd, Nat.reduceSub, Nat.reduceEqDiff, if_true, if_false, Bool.false_eq_true, decide_true, decide_false, Int.reduceEq, Int.reduceAdd, Int.reduceSub, Int.reduceMul, Bool.not_true, Bool.not_false, c_0, c_1, c_2, c_3, c_4, c_5, c_6, c_7, c_8, c_9, c_10, c_11, c_12, sz_0, sz_1, sz_2, sz_3, sz_4, sz_5, sz_6, sz_7, sz_8, sz_9, z2J, z2I, z2E, z2s, z2x, z2z, z2w, Bool.true_eq_false, eq_self, za, zb, z4, z7, z5, z3, zw, zy, zi, zr, zp, z8, zn, zj, ze, zg, zh, z6, zz, zu, zf, zq, zo, z9, zD, zE, zm, zt, zA, zc, zG, zB, zl, zv, zx, zd, z2j, z2a, zS, z1E, z1q, z25, z2C, z2u, z2G, zY, z26, z2d, zT, z1p, z1D, z24, z1o, zF, z1u, zQ, z1t, z1B, zC, zX, z10, z2e, z22, z1z, z1A, z1y, zV, z11, z1v, zJ, zW, zZ, lvals_all hbb hcr hrl]
          rw [w_setN hk' (rsD_nok _) (szn (by simp [kvE]; omega)), putD_E rsD_inj hnot, List.set_set]
          have K2 := K'.put hnot hsub
          have hk3 : (S.set k (.dic 2 (kvE rsD (kn' ++ [(b :: r, .int ((mn (lps ins ms) (b :: r) : Nat) : Int))]))))[k]? = some (.dic 2 (kvE rsD (kn' ++ [(b :: r, .int ((mn (lps ins ms) (b :: r) : Nat) : Int))]))) := by simp [hkl]
          simp only [z1T, w_dC, z1L, z1i, z1W, z1Y, w_d2, z2o, w_d3, z2m, z1Z, z1e, z1J, z1g, z1U, z2p, z1G, z2n, z1V, z1f, z1M, z2q, z1I, z1m, z1R, z1K, z1N, z1c, zL, z1a, z1Q, z1S, zN, z1j, zP, zM, z19, z1h, z1l, z1d, zR, z16, z1O, z18, z1n, zK, z17, z15, zO, zI, z1k, z2r, z1X, z1b, zH, z1w, z2K, z1F, w_ok, z2v, z1x, z2l, z27, z1C, z2h, z23, z2g, z1s, zU, z12, z28, z2b, z2c, z20, z2k, z21, z2i, z2F, z2D, z2B, z2L, z2y, z2H, z2t, z2A, z29, z1P, z1H, z2f, z14, z1r, Int.reduceToNat, Int.reduceLE, Int.reduceLT, Int.reduceNeg, startD, List.map_cons, List.map_nil, List.length_cons, List.length_nil, List.replicate, List.cons_append, List.nil_append, List.getElem?_cons_zero, List.getElem?_cons_succ, List.set_cons_zero, List.set_cons_succ, Nat.reduceAdd, Nat.reduceSub, Nat.reduceEqDiff, if_true, if_false, Bool.false_eq_true, decide_true, decide_false, Int.reduceEq, Int.reduceAdd, Int.reduceSub, Int.reduceMul, Bool.not_true, Bool.not_false, c_0, c_1, c_2, c_3, c_4, c_5, c_6, c_7, c_8, c_9, c_10, c_11, c_12, sz_0, sz_1, sz_2, sz_3, sz_4, sz_5, sz_6, sz_7, sz_8, sz_9, z2J, z2I, z2E, z2s, z2x, z2z, z2w, Bool.true_eq_false, eq_self, za, zb, z4, z7, z5, z3, zw, zy, zi, zr, zp, z8, zn, zj, ze, zg, zh, z6, zz, zu, zf, zq, zo, z9, zD, zE, zm, zt, zA, zc, zG, zB, zl, zv, zx, zd, z2j, z2a, zS, z1E, z1q, z25, z2C, z2u, z2G, zY, z26, z2d, zT, z1p, z1D, z24, z1o, zF, z1u, zQ, z1t, z1B, zC, zX, z10, z2e, z22, z1z, z1A, z1y, zV, z11, z1v, zJ, zW, zZ]
          rw [w_ixN (dicN_at hk3 (rsD_nok _) |>.trans (by rw [getK_E rsD_inj, K2.get (by simp)]))]
          refine ⟨rfl, _, ⟨[], by rw [List.append_nil]⟩, K2, fun p hp => ?_⟩
          rcases List.mem_append.mp hp with h | h
          · rcases up' p h with h | h
            · exact .inl h
            · exact .inr (Nat.le_of_lt h)
          · rw [List.mem_singleton] at h
            rw [h]
            exact .inr (Nat.le_refl _)
        · rintro pre m post sd S' epp ⟨kn', a4, a5, a6, rfl, K', up', rfl⟩
          have hmm : m ∈ ms := by rw [epp]; simp
          have hml := hms m hmm
          have lk := lets_ok (m := m) (b := b) (S := S.set k (.dic 2 (kvE rsD kn'))) (by omega) (by omega)
          have e0 : rsD (b :: r) = .tup (.str (W (wB b)) :: r.map sW) := rfl
          have hat : ∀ {S : Sto} {Q : D → Sto → Prop} {X : Exc → Sto → Prop}, Wp (ixD (rsD (b :: r)) (.int 0) S) Q X = Q (.str (W (wB b))) S := fun {S Q X} => by
            rw [e0, z1H, z14 (Int.le_refl 0)]
            rfl
          simp only [z1T, w_dC, z1L, z1i, z1W, z1Y, w_d2, z2o, w_d3, z2m, z1Z, z1e, z1J, z1g, z1U, z2p, z1G, z2n, z1V, z1f, z1M, z2q, z1I, z1m, z1R, z1K, z1N, z1c, zL, z1a, z1Q, z1S, zN, z1j, zP, zM, z19, z1h, z1l, z1d, zR, z16, z1O, z18, z1n, zK, z17, z15, zO, zI, z1k, z2r, z1X, z1b, zH, z1w, z2K, z1F, w_ok, z2v, z1x, z2l, z27, z1C, z2h, z23, z2g, z1s, zU, z12, z28, z2b, z2c, z20, z2k, z21, z2i, z2F, z2D, z2B, z2L, z2y, z2H, z2t, z2A, z29, z1P, z1H, z2f, z14, z1r, Int.reduceToNat, Int.reduceLE, Int.reduceLT, Int.reduceNeg, startD, List.map_cons, List.map_nil, List.length_cons, List.length_nil, List.replicate, List.cons_append, List.nil_append, List.getElem?_cons_zero, List.getElem?_cons_succ, List.set_cons_zero, List.set_cons_succ, Nat.reduceAdd, Nat.reduceSub, Nat.reduceEqDiff, if_true, if_false, Bool.false_eq_true, decide_true, decide_false, Int.reduceEq, Int.reduceAdd, Int.reduceSub, Int.reduceMul, Bool.not_true, Bool.not_false, c_0, c_1, c_2, c_3, c_4, c_5, c_6, c_7, c_8, c_9, c_10, c_11, c_12, sz_0, sz_1, sz_2, sz_3, sz_4, sz_5, sz_6, sz_7, sz_8, sz_9, z2J, z2I, z2E, z2s, z2x, z2z, z2w, Bool.true_eq_false, eq_self, za, zb, z4, z7, z5, z3, zw, zy, zi, zr, zp, z8, zn, zj, ze, zg, zh, z6, zz, zu, zf, zq, zo, z9, zD, zE, zm, zt, zA, zc, zG, zB, zl, zv, zx, zd, z2j, z2a, zS, z1E, z1q, z25, z2C, z2u, z2G, zY, z26, z2d, zT, z1p, z1D, z24, z1o, zF, z1u, zQ, z1t, z1B, zC, zX, z10, z2e, z22, z1z, z1A, z1y, zV, z11, z1v, zJ, zW, zZ, hat, mW, lk]
          cases hf : ft m b with
          | false =>
            simp only [z1T, w_dC, z1L, z1i, z1W, z1Y, w_d2, z2o, w_d3, z2m, z1Z, z1e, z1J, z1g, z1U, z2p, z1G, z2n, z1V, z1f, z1M, z2q, z1I, z1m, z1R, z1K, z1N, z1c, zL, z1a, z1Q, z1S, zN, z1j, zP, zM, z19, z1h, z1l, z1d, zR, z16, z1O, z18, z1n, zK, z17, z15, zO, zI, z1k, z2r, z1X, z1b, zH, z1w, z2K, z1F, w_ok, z2v, z1x, z2l, z27, z1C, z2h, z23, z2g, z1s, zU, z12, z28, z2b, z2c, z20, z2k, z21, z2i, z2F, z2D, z2B, z2L, z2y, z2H, z2t, z2A, z29, z1P, z1H, z2f, z14, z1r, Int.reduceToNat, Int.reduceLE, Int.reduceLT, Int.reduceNeg, startD, List.map_cons, List.map_nil, List.length_cons, List.length_nil, List.replicate, List.cons_append, List.nil_append, List.getElem?_cons_zero, List.getElem?_cons_succ, List.set_cons_zero, List.set_cons_succ, Nat.reduceAdd, Nat.reduceSub, Nat.reduceEqDiff, if_true, if_false, Bool.false_eq_true, decide_true, decide_false, Int.reduceEq, Int.reduceAdd, Int.reduceSub, Int.reduceMul, Bool.not_true, Bool.not_false, c_0, c_1, c_2, c_3, c_4, c_5, c_6, c_7, c_8, c_9, c_10, c_11, c_12, sz_0, sz_1, sz_2, sz_3, sz_4, sz_5, sz_6, sz_7, sz_8, sz_9, z2J, z2I, z2E, z2s, z2x, z2z, z2w, Bool.true_eq_false, eq_self, za, zb, z4, z7, z5, z3, zw, zy, zi, zr, zp, z8, zn, zj, ze, zg, zh, z6, zz, zu, zf, zq, zo, z9, zD, zE, zm, zt, zA, zc, zG, zB, zl, zv, zx, zd, z2j, z2a, zS, z1E, z1q, z25, z2C, z2u, z2G, zY, z26, z2d, zT, z1p, z1D, z24, z1o, zF, z1u, zQ, z1t, z1B, zC, zX, z10, z2e, z22, z1z, z1A, z1y, zV, z11, z1v, zJ, zW, zZ]
            have el : lvals ins (lps ins ms) (b :: r) b (pre ++ [m]) = lvals ins (lps ins ms) (b :: r) b pre := by
              rw [lvals_snoc, hf]
              simp
            rw [el]
            exact ⟨kn', _, _, _, rfl, K', up', rfl⟩
          | true =>
            have hcomp : ∀ a5 a6 : Option D, dFrz (dComp [6] (iVal (dVar 0)) (gVar 6) (tNotD (tstB (dCallF 2 F__law_lets (dCons (dVar 4) (dCons (dVar 6) dNil))))) (dVar 6)) [some (rsD (b :: r)), some (.frl (ms.map mW)), some (.ref k), some (.int ((mnB (lvals ins (lps ins ms) (b :: r) b pre) : Nat) : Int)), some (.str (W (wM m))), a5, a6] (S.set k (.dic 2 (kvE rsD kn'))) = .ok (.frl ((lft (b :: r) (btsM ins m)).map sW)) (S.set k (.dic 2 (kvE rsD kn'))) := fun a5 a6 => by
              rw [lft_bts fun c hcb => hb4 c (hsub.subset hcb)]
              refine compF (b :: r) sW _ sW ?_ (Nat.le_trans (List.length_filter_le _ _) (szn (by omega))) ?_ ?_
              · simp only [z1T, w_dC, z1L, z1i, z1W, z1Y, w_d2, z2o, w_d3, z2m, z1Z, z1e, z1J, z1g, z1U, z2p, z1G, z2n, z1V, z1f, z1M, z2q, z1I, z1m, z1R, z1K, z1N, z1c, zL, z1a, z1Q, z1S, zN, z1j, zP, zM, z19, z1h, z1l, z1d, zR, z16, z1O, z18, z1n, zK, z17, z15, zO, zI, z1k, z2r, z1X, z1b, zH, z1w, z2K, z1F, w_ok, z2v, z1x, z2l, z27, z1C, z2h, z23, z2g, z1s, zU, z12, z28, z2b, z2c, z20, z2k, z21, z2i, z2F, z2D, z2B, z2L, z2y, z2H, z2t, z2A, z29, z1P, z1H, z2f, z14, z1r, Int.reduceToNat, Int.reduceLE, Int.reduceLT, Int.reduceNeg, startD, List.map_cons, List.map_nil, List.length_cons, List.length_nil, List.replicate, List.cons_append, List.nil_append, List.getElem?_cons_zero, List.getElem?_cons_succ, List.set_cons_zero, List.set_cons_succ, Nat.reduceAdd, Nat.reduceSub, Nat.reduceEqDiff, if_true, if_false, Bool.false_eq_true, decide_true, decide_false, Int.reduceEq, Int.reduceAdd, Int.reduceSub, Int.reduceMul, Bool.not_true, Bool.not_false, c_0, c_1, c_2, c_3, c_4, c_5, c_6, c_7, c_8, c_9, c_10, c_11, c_12, sz_0, sz_1, sz_2, sz_3, sz_4, sz_5, sz_6, sz_7, sz_8, sz_9, z2J, z2I, z2E, z2s, z2x, z2z, z2w, Bool.true_eq_false, eq_self, za, zb, z4, z7, z5, z3, zw, zy, zi, zr, zp, z8, zn, zj, ze, zg, zh, z6, zz, zu, zf, zq, zo, z9, zD, zE, zm, zt, zA, zc, zG, zB, zl, zv, zx, zd, z2j, z2a, zS, z1E, z1q, z25, z2C, z2u, z2G, zY, z26, z2d, zT, z1p, z1D, z24, z1o, zF, z1u, zQ, z1t, z1B, zC, zX, z10, z2e, z22, z1z, z1A, z1y, zV, z11, z1v, zJ, zW, zZ, rsD, itemsD]
                exact ⟨trivial, trivial, fun _ _ => rfl⟩
              · intro c hcb S' _
                have hcl := hb4 c (hsub.subset hcb)
                have := lets_ok (m := m) (b := c) (S := S') (by omega) (by omega)
                simp only [z1T, w_dC, z1L, z1i, z1W, z1Y, w_d2, z2o, w_d3, z2m, z1Z, z1e, z1J, z1g, z1U, z2p, z1G, z2n, z1V, z1f, z1M, z2q, z1I, z1m, z1R, z1K, z1N, z1c, zL, z1a, z1Q, z1S, zN, z1j, zP, zM, z19, z1h, z1l, z1d, zR, z16, z1O, z18, z1n, zK, z17, z15, zO, zI, z1k, z2r, z1X, z1b, zH, z1w, z2K, z1F, w_ok, z2v, z1x, z2l, z27, z1C, z2h, z23, z2g, z1s, zU, z12, z28, z2b, z2c, z20, z2k, z21, z2i, z2F, z2D, z2B, z2L, z2y, z2H, z2t, z2A, z29, z1P, z1H, z2f, z14, z1r, Int.reduceToNat, Int.reduceLE, Int.reduceLT, Int.reduceNeg, startD, List.map_cons, List.map_nil, List.length_cons, List.length_nil, List.replicate, List.cons_append, List.nil_append, List.getElem?_cons_zero, List.getElem?_cons_succ, List.set_cons_zero, List.set_cons_succ, Nat.reduceAdd, Nat.reduceSub, Nat.reduceEqDiff, if_true, if_false, Bool.false_eq_true, decide_true, decide_false, Int.reduceEq, Int.reduceAdd, Int.reduceSub, Int.reduceMul, Bool.not_true, Bool.not_false, c_0, c_1, c_2, c_3, c_4, c_5, c_6, c_7, c_8, c_9, c_10, c_11, c_12, sz_0, sz_1, sz_2, sz_3, sz_4, sz_5, sz_6, sz_7, sz_8, sz_9, z2J, z2I, z2E, z2s, z2x, z2z, z2w, Bool.true_eq_false, eq_self, za, zb, z4, z7, z5, z3, zw, zy, zi, zr, zp, z8, zn, zj, ze, zg, zh, z6, zz, zu, zf, zq, zo, z9, zD, zE, zm, zt, zA, zc, zG, zB, zl, zv, zx, zd, z2j, z2a, zS, z1E, z1q, z25, z2C, z2u, z2G, zY, z26, z2d, zT, z1p, z1D, z24, z1o, zF, z1u, zQ, z1t, z1B, zC, zX, z10, z2e, z22, z1z, z1A, z1y, zV, z11, z1v, zJ, zW, zZ, wipeD, sW, this]
                exact ⟨trivial, trivial, trivial, fun _ => ⟨trivial, trivial⟩⟩
              · intro c _ _; rfl
            have hbq : b ∈ btsM ins m := (bts_in hbb).mpr hf
            have hlt := lft_lt (rest := b :: r) (List.mem_cons_self) hbq
            have hk' : (S.set k (.dic 2 (kvE rsD kn')))[k]? = some (.dic 2 (kvE rsD kn')) := by simp [hkl]
            obtain ⟨kn2, e2, K2, up2⟩ := ih (rest := lft (b :: r) (btsM ins m)) (kn := kn') (S := S.set k (.dic 2 (kvE rsD kn'))) (by omega) (lft_sub hsub) K' hk'
            have e3 : F__law_many n [.tup ((lft (b :: r) (btsM ins m)).map sW), .frl (ms.map mW), .ref k] _ = _ := e2
            simp only [z1T, w_dC, z1L, z1i, z1W, z1Y, w_d2, z2o, w_d3, z2m, z1Z, z1e, z1J, z1g, z1U, z2p, z1G, z2n, z1V, z1f, z1M, z2q, z1I, z1m, z1R, z1K, z1N, z1c, zL, z1a, z1Q, z1S, zN, z1j, zP, zM, z19, z1h, z1l, z1d, zR, z16, z1O, z18, z1n, zK, z17, z15, zO, zI, z1k, z2r, z1X, z1b, zH, z1w, z2K, z1F, w_ok, z2v, z1x, z2l, z27, z1C, z2h, z23, z2g, z1s, zU, z12, z28, z2b, z2c, z20, z2k, z21, z2i, z2F, z2D, z2B, z2L, z2y, z2H, z2t, z2A, z29, z1P, z1H, z2f, z14, z1r, Int.reduceToNat, Int.reduceLE, Int.reduceLT, Int.reduceNeg, startD, List.map_cons, List.map_nil, List.length_cons, List.length_nil, List.replicate, List.cons_append, List.nil_append, List.getElem?_cons_zero, List.getElem?_cons_succ, List.set_cons_zero, List.set_cons_succ, Nat.reduceAdd, Nat.reduceSub, Nat.reduceEqDiff, if_true, if_false, Bool.false_eq_true, decide_true, decide_false, Int.reduceEq, Int.reduceAdd, Int.reduceSub, Int.reduceMul, Bool.not_true, Bool.not_false, c_0, c_1, c_2, c_3, c_4, c_5, c_6, c_7, c_8, c_9, c_10, c_11, c_12, sz_0, sz_1, sz_2, sz_3, sz_4, sz_5, sz_6, sz_7, sz_8, sz_9, z2J, z2I, z2E, z2s, z2x, z2z, z2w, Bool.true_eq_false, eq_self, za, zb, z4, z7, z5, z3, zw, zy, zi, zr, zp, z8, zn, zj, ze, zg, zh, z6, zz, zu, zf, zq, zo, z9, zD, zE, zm, zt, zA, zc, zG, zB, zl, zv, zx, zd, z2j, z2a, zS, z1E, z1q, z25, z2C, z2u, z2G, zY, z26, z2d, zT, z1p, z1D, z24, z1o, zF, z1u, zQ, z1t, z1B, zC, zX, z10, z2e, z22, z1z, z1A, z1y, zV, z11, z1v, zJ, zW, zZ, hcomp]
            rw [w_tupF]
            simp only [z1T, w_dC, z1L, z1i, z1W, z1Y, w_d2, z2o, w_d3, z2m, z1Z, z1e, z1J, z1g, z1U, z2p, z1G, z2n, z1V, z1f, z1M, z2q, z1I, z1m, z1R, z1K, z1N, z1c, zL, z1a, z1Q, z1S, zN, z1j, zP, zM, z19, z1h, z1l, z1d, zR, z16, z1O, z18, z1n, zK, z17, z15, zO, zI, z1k, z2r, z1X, z1b, zH, z1w, z2K, z1F, w_ok, z2v, z1x, z2l, z27, z1C, z2h, z23, z2g, z1s, zU, z12, z28, z2b, z2c, z20, z2k, z21, z2i, z2F, z2D, z2B, z2L, z2y, z2H, z2t, z2A, z29, z1P, z1H, z2f, z14, z1r, Int.reduceToNat, Int.reduceLE, Int.reduceLT, Int.reduceNeg, startD, List.map_cons, List.map_nil, List.length_cons, List.length_nil, List.replicate, List.cons_append, List.nil_append, List.getElem?_cons_zero, List.getElem?_cons_succ, List.set_cons_zero, List.set_cons_succ, Nat.reduceAdd, Nat.reduceSub, Nat.reduceEqDiff, if_true, if_false, Bool.false_eq_true, decide_true, decide_false, Int.reduceEq, Int.reduceAdd, Int.reduceSub, Int.reduceMul, Bool.not_true, Bool.not_false, c_0, c_1, c_2, c_3, c_4, c_5, c_6, c_7, c_8, c_9, c_10, c_11, c_12, sz_0, sz_1, sz_2, sz_3, sz_4, sz_5, sz_6, sz_7, sz_8, sz_9, z2J, z2I, z2E, z2s, z2x, z2z, z2w, Bool.true_eq_false, eq_self, za, zb, z4, z7, z5, z3, zw, zy, zi, zr, zp, z8, zn, zj, ze, zg, zh, z6, zz, zu, zf, zq, zo, z9, zD, zE, zm, zt, zA, zc, zG, zB, zl, zv, zx, zd, z2j, z2a, zS, z1E, z1q, z25, z2C, z2u, z2G, zY, z26, z2d, zT, z1p, z1D, z24, z1o, zF, z1u, zQ, z1t, z1B, zC, zX, z10, z2e, z22, z1z, z1A, z1y, zV, z11, z1v, zJ, zW, zZ, e3, w_min2, List.set_set]
            have el : ((mnB (lvals ins (lps ins ms) (b :: r) b (pre ++ [m])) : Nat) : Int) = if (1 : Int) + ((mn (lps ins ms) (lft (b :: r) (btsM ins m)) : Nat) : Int) < ((mnB (lvals ins (lps ins ms) (b :: r) b pre) : Nat) : Int) then (1 : Int) + ((mn (lps ins ms) (lft (b :: r) (btsM ins m)) : Nat) : Int) else ((mnB (lvals ins (lps ins ms) (b :: r) b pre) : Nat) : Int) := by
              rw [lvals_snoc, hf, if_pos rfl, mnB_snoc]
              by_cases h : 1 + mn (lps ins ms) (lft (b :: r) (btsM ins m)) < mnB (lvals ins (lps ins ms) (b :: r) b pre)
              · rw [if_pos h, if_pos (by omega)]
                simp
              · rw [if_neg h, if_neg (by omega)]
            rw [el]
            refine ⟨kn2, _, _, _, rfl, K2, fun p hp => ?_, rfl⟩
            rcases up2 p hp with h | h
            · exact up' p h
            · exact .inr (Nat.lt_of_le_of_lt h hlt)
    obtain ⟨d, S', e, rfl, kn', ⟨T, rfl⟩, K', up⟩ := Wp.ok main
    refine ⟨kn', ?_, K', up⟩
    unfold F__law_many cutF
    rw [e, cut_set rfl K'.blw]

end Lw

namespace Lw
open PySem PySem.Spec PyProof.Rows L2 DL
def sg3 : List (Option Bool) := [none, some false, some true]
def allL : Nat → List Mk
  | 0 => [[]]
  | n + 1 => sg3.flatMap fun o => (allL n).map (o :: ·)
theorem allL_eq {n : Nat} (h : n ≤ 4) : allL n = allM n := by
  have : n = 0 ∨ n = 1 ∨ n = 2 ∨ n = 3 ∨ n = 4 := by omega
  rcases this with rfl | rfl | rfl | rfl | rfl <;> decide +kernel
theorem allL_len : ∀ (n : Nat) {m : Mk}, m ∈ allL n → m.length = n
  | 0, m, h => by simp [allL] at h; simp [h]
  | n + 1, m, h => by
    unfold allL at h
    obtain ⟨o, _, h⟩ := List.mem_flatMap.mp h
    obtain ⟨x, hx, rfl⟩ := List.mem_map.mp h
    simp [allL_len n hx]
theorem allL_many : ∀ n : Nat, (allL n).length = 3 ^ n
  | 0 => rfl
  | n + 1 => by
    have := allL_many n
    unfold allL sg3
    simp only [List.flatMap_cons, List.flatMap_nil, List.length_append, List.length_map, this, Nat.pow_succ, List.length_nil]
    omega
theorem law_marks_ok {S : Sto} : ∀ (n j : Nat), n ≤ 4 → F__law_marks (n + 1 + j) [.int (n : Nat)] S = .ok (.frl ((allL n).map mW)) S := by
  intro n
  induction n with
  | zero =>
    intro j _
    rw [show 0 + 1 + j = j + 1 by omega]
    unfold F__law_marks
    refine fn_ok rfl ?_
    unfold b__law_marks
    simp only [z1T, w_dC, z1L, z1i, z1W, z1Y, w_d2, z2o, w_d3, z2m, z1Z, z1e, z1J, z1g, z1U, z2p, z1G, z2n, z1V, z1f, z1M, z2q, z1I, z1m, z1R, z1K, z1N, z1c, zL, z1a, z1Q, z1S, zN, z1j, zP, zM, z19, z1h, z1l, z1d, zR, z16, z1O, z18, z1n, zK, z17, z15, zO, zI, z1k, z2r, z1X, z1b, zH, z1w, z2K, z1F, w_ok, z2v, z1x, z2l, z27, z1C, z2h, z23, z2O, z2N, z2g, z1s, zU, z12, z28, z2b, z2c, z20, z2k, z21, z2i, z2F, z2D, z2B, z2L, z2y, z2H, z2t, z2A, z29, z1P, z1H, z2f, z14, z1r, Int.reduceToNat, Int.reduceLE, Int.reduceLT, Int.reduceNeg, startD, List.map_cons, List.map_nil, List.length_cons, List.length_nil, List.replicate, List.cons_append, List.nil_append, List.getElem?_cons_zero, List.getElem?_cons_succ, List.set_cons_zero, List.set_cons_succ, Nat.reduceAdd, Nat.reduceSub, Nat.reduceEqDiff, if_true, if_false, Bool.false_eq_true, decide_true, decide_false, Int.reduceEq, Int.reduceAdd, Int.reduceSub, Int.reduceMul, Bool.not_true, Bool.not_false, c_0, c_1, c_2, c_3, c_4, c_5, c_6, c_7, c_8, c_9, c_10, c_11, c_12, sz_0, sz_1, sz_2, sz_3, sz_4, sz_5, sz_6, sz_7, sz_8, sz_9, z2J, z2I, z2E, z2s, z2x, z2z, z2w, Bool.true_eq_false, eq_self, za, zb, z4, z7, z5, z3, zw, zy, zi, zr, zp, z8, zn, zj, ze, zg, zh, z6, zz, zu, zf, zq, zo, z9, zD, zE, zm, zt, zA, zc, zG, zB, zl, zv, zx, zd, z2j, z2a, zS, z1E, z1q, z25, z2C, z2u, z2G, zY, z26, z2d, zT, z1p, z1D, z24, z1o, zF, z1u, zQ, z1t, z1B, zC, zX, z10, z2e, z22, z1z, z1A, z1y, zV, z11, z1v, zJ, zW, zZ, W_empty]
    exact ⟨rfl, app_nil S⟩
  | succ n ih =>
    intro j hn
    rw [show n + 1 + 1 + j = (n + 1 + j) + 1 by omega]
    unfold F__law_marks
    have hne : ¬ ((n + 1 : Nat) : Int) = 0 := by omega
    have hsub : ((n + 1 : Nat) : Int) - 1 = (n : Nat) := by omega
    have h2 : (allL n).length ≤ 81 := by
      rw [allL_many]
      exact Nat.pow_le_pow_right (n := 3) (j := 4) (by decide) (by omega)
    have hc : ∀ (o : Option Bool) (a0 a2 a4 : Option D), dFrz (dComp [4] (iVal (dVar 1)) (gVar 4) tYesD (d2 addD (dVar 3) (dVar 4))) [a0, some (.frl ((allL n).map mW)), a2, some (.str (W [cM o])), a4] S = .ok (.frl (((allL n).map (o :: ·)).map mW)) S := by
      intro o a0 a2 a4
      rw [List.map_map]
      refine compM (allL n) mW _ ?_ (szn (by omega)) ?_ ?_
      · simp only [z1T, w_dC, z1L, z1i, z1W, z1Y, w_d2, z2o, w_d3, z2m, z1Z, z1e, z1J, z1g, z1U, z2p, z1G, z2n, z1V, z1f, z1M, z2q, z1I, z1m, z1R, z1K, z1N, z1c, zL, z1a, z1Q, z1S, zN, z1j, zP, zM, z19, z1h, z1l, z1d, zR, z16, z1O, z18, z1n, zK, z17, z15, zO, zI, z1k, z2r, z1X, z1b, zH, z1w, z2K, z1F, w_ok, z2v, z1x, z2l, z27, z1C, z2h, z23, z2O, z2N, z2g, z1s, zU, z12, z28, z2b, z2c, z20, z2k, z21, z2i, z2F, z2D, z2B, z2L, z2y, z2H, z2t, z2A, z29, z1P, z1H, z2f, z14, z1r, Int.reduceToNat, Int.reduceLE, Int.reduceLT, Int.reduceNeg, startD, List.map_cons, List.map_nil, List.length_cons, List.length_nil, List.replicate, List.cons_append, List.nil_append, List.getElem?_cons_zero, List.getElem?_cons_succ, List.set_cons_zero, List.set_cons_succ, Nat.reduceAdd, Nat.reduceSub, Nat.reduceEqDiff, if_true, if_false, Bool.false_eq_true, decide_true, decide_false, Int.reduceEq, Int.reduceAdd, Int.reduceSub, Int.reduceMul, Bool.not_true, Bool.not_false, c_0, c_1, c_2, c_3, c_4, c_5, c_6, c_7, c_8, c_9, c_10, c_11, c_12, sz_0, sz_1, sz_2, sz_3, sz_4, sz_5, sz_6, sz_7, sz_8, sz_9, z2J, z2I, z2E, z2s, z2x, z2z, z2w, Bool.true_eq_false, eq_self, za, zb, z4, z7, z5, z3, zw, zy, zi, zr, zp, z8, zn, zj, ze, zg, zh, z6, zz, zu, zf, zq, zo, z9, zD, zE, zm, zt, zA, zc, zG, zB, zl, zv, zx, zd, z2j, z2a, zS, z1E, z1q, z25, z2C, z2u, z2G, zY, z26, z2d, zT, z1p, z1D, z24, z1o, zF, z1u, zQ, z1t, z1B, zC, zX, z10, z2e, z22, z1z, z1A, z1y, zV, z11, z1v, zJ, zW, zZ, itemsD]
        exact ⟨trivial, trivial, fun _ _ => rfl⟩
      · intro m hm S' _
        have hml := allL_len n hm
        simp only [z1T, w_dC, z1L, z1i, z1W, z1Y, w_d2, z2o, w_d3, z2m, z1Z, z1e, z1J, z1g, z1U, z2p, z1G, z2n, z1V, z1f, z1M, z2q, z1I, z1m, z1R, z1K, z1N, z1c, zL, z1a, z1Q, z1S, zN, z1j, zP, zM, z19, z1h, z1l, z1d, zR, z16, z1O, z18, z1n, zK, z17, z15, zO, zI, z1k, z2r, z1X, z1b, zH, z1w, z2K, z1F, w_ok, z2v, z1x, z2l, z27, z1C, z2h, z23, z2O, z2N, z2g, z1s, zU, z12, z28, z2b, z2c, z20, z2k, z21, z2i, z2F, z2D, z2B, z2L, z2y, z2H, z2t, z2A, z29, z1P, z1H, z2f, z14, z1r, Int.reduceToNat, Int.reduceLE, Int.reduceLT, Int.reduceNeg, startD, List.map_cons, List.map_nil, List.length_cons, List.length_nil, List.replicate, List.cons_append, List.nil_append, List.getElem?_cons_zero, List.getElem?_cons_succ, List.set_cons_zero, List.set_cons_succ, Nat.reduceAdd, Nat.reduceSub, Nat.reduceEqDiff, if_true, if_false, Bool.false_eq_true, decide_true, decide_false, Int.reduceEq, Int.reduceAdd, Int.reduceSub, Int.reduceMul, Bool.not_true, Bool.not_false, c_0, c_1, c_2, c_3, c_4, c_5, c_6, c_7, c_8, c_9, c_10, c_11, c_12, sz_0, sz_1, sz_2, sz_3, sz_4, sz_5, sz_6, sz_7, sz_8, sz_9, z2J, z2I, z2E, z2s, z2x, z2z, z2w, Bool.true_eq_false, eq_self, za, zb, z4, z7, z5, z3, zw, zy, zi, zr, zp, z8, zn, zj, ze, zg, zh, z6, zz, zu, zf, zq, zo, z9, zD, zE, zm, zt, zA, zc, zG, zB, zl, zv, zx, zd, z2j, z2a, zS, z1E, z1q, z25, z2C, z2u, z2G, zY, z26, z2d, zT, z1p, z1D, z24, z1o, zF, z1u, zQ, z1t, z1B, zC, zX, z10, z2e, z22, z1z, z1A, z1y, zV, z11, z1v, zJ, zW, zZ, wipeD, mW]
        refine ⟨trivial, ?_⟩
        rw [w_addSW (by rw [wM_len, hml]; simp; omega)]
        exact ⟨rfl, rfl⟩
      · intro m _; rfl
    refine fn_ok (gd_blw (n := 1) _ (gd_frl mW_gds)) ?_
    unfold b__law_marks
    have ei : signsD (W [45, 48, 49]) = sg3.map fun o => D.str (W [cM o]) := rfl
    simp only [z1T, w_dC, z1L, z1i, z1W, z1Y, w_d2, z2o, w_d3, z2m, z1Z, z1e, z1J, z1g, z1U, z2p, z1G, z2n, z1V, z1f, z1M, z2q, z1I, z1m, z1R, z1K, z1N, z1c, zL, z1a, z1Q, z1S, zN, z1j, zP, zM, z19, z1h, z1l, z1d, zR, z16, z1O, z18, z1n, zK, z17, z15, zO, zI, z1k, z2r, z1X, z1b, zH, z1w, z2K, z1F, w_ok, z2v, z1x, z2l, z27, z1C, z2h, z23, z2g, z1s, zU, z12, z28, z2b, z2c, z20, z2k, z21, z2i, z2F, z2D, z2B, z2L, z2y, z2H, z2t, z2A, z29, z1P, z1H, z2f, z14, z1r, Int.reduceToNat, Int.reduceLE, Int.reduceLT, Int.reduceNeg, startD, List.map_cons, List.map_nil, List.length_cons, List.length_nil, List.replicate, List.cons_append, List.nil_append, List.getElem?_cons_zero, List.getElem?_cons_succ, List.set_cons_zero, List.set_cons_succ, Nat.reduceAdd, Nat.reduceSub, Nat.reduceEqDiff, if_true, if_false, Bool.false_eq_true, decide_true, decide_false, Int.reduceEq, Int.reduceAdd, Int.reduceSub, Int.reduceMul, Bool.not_true, Bool.not_false, c_0, c_1, c_2, c_3, c_4, c_5, c_6, c_7, c_8, c_9, c_10, c_11, c_12, sz_0, sz_1, sz_2, sz_3, sz_4, sz_5, sz_6, sz_7, sz_8, sz_9, z2J, z2I, z2E, z2s, z2x, z2z, z2w, Bool.true_eq_false, eq_self, za, zb, z4, z7, z5, z3, zw, zy, zi, zr, zp, z8, zn, zj, ze, zg, zh, z6, zz, zu, zf, zq, zo, z9, zD, zE, zm, zt, zA, zc, zG, zB, zl, zv, zx, zd, z2j, z2a, zS, z1E, z1q, z25, z2C, z2u, z2G, zY, z26, z2d, zT, z1p, z1D, z24, z1o, zF, z1u, zQ, z1t, z1B, zC, zX, z10, z2e, z22, z1z, z1A, z1y, zV, z11, z1v, zJ, zW, zZ, hne, hsub, ih j (by omega), W_d01, itemsD, ei]
    refine w_loopP (fun o => D.str (W [cM o])) (fun pre sd S' => S' = S ∧ ∃ a3 a4, sd = [some (.int ((n + 1 : Nat) : Int)), some (.frl ((allL n).map mW)), some (.frl ((pre.flatMap fun o => (allL n).map (o :: ·)).map mW)), a3, a4]) sg3 (fun _ _ _ _ _ _ => rfl) ⟨rfl, _, _, rfl⟩ ?_ ?_
    · rintro sd S' ⟨rfl, a3, a4, rfl⟩
      simp only [z1T, w_dC, z1L, z1i, z1W, z1Y, w_d2, z2o, w_d3, z2m, z1Z, z1e, z1J, z1g, z1U, z2p, z1G, z2n, z1V, z1f, z1M, z2q, z1I, z1m, z1R, z1K, z1N, z1c, zL, z1a, z1Q, z1S, zN, z1j, zP, zM, z19, z1h, z1l, z1d, zR, z16, z1O, z18, z1n, zK, z17, z15, zO, zI, z1k, z2r, z1X, z1b, zH, z1w, z2K, z1F, w_ok, z2v, z1x, z2l, z27, z1C, z2h, z23, z2g, z1s, zU, z12, z28, z2b, z2c, z20, z2k, z21, z2i, z2F, z2D, z2B, z2L, z2y, z2H, z2t, z2A, z29, z1P, z1H, z2f, z14, z1r, Int.reduceToNat, Int.reduceLE, Int.reduceLT, Int.reduceNeg, startD, List.map_cons, List.map_nil, List.length_cons, List.length_nil, List.replicate, List.cons_append, List.nil_append, List.getElem?_cons_zero, List.getElem?_cons_succ, List.set_cons_zero, List.set_cons_succ, Nat.reduceAdd, Nat.reduceSub, Nat.reduceEqDiff, if_true, if_false, Bool.false_eq_true, decide_true, decide_false, Int.reduceEq, Int.reduceAdd, Int.reduceSub, Int.reduceMul, Bool.not_true, Bool.not_false, c_0, c_1, c_2, c_3, c_4, c_5, c_6, c_7, c_8, c_9, c_10, c_11, c_12, sz_0, sz_1, sz_2, sz_3, sz_4, sz_5, sz_6, sz_7, sz_8, sz_9, z2J, z2I, z2E, z2s, z2x, z2z, z2w, Bool.true_eq_false, eq_self, za, zb, z4, z7, z5, z3, zw, zy, zi, zr, zp, z8, zn, zj, ze, zg, zh, z6, zz, zu, zf, zq, zo, z9, zD, zE, zm, zt, zA, zc, zG, zB, zl, zv, zx, zd, z2j, z2a, zS, z1E, z1q, z25, z2C, z2u, z2G, zY, z26, z2d, zT, z1p, z1D, z24, z1o, zF, z1u, zQ, z1t, z1B, zC, zX, z10, z2e, z22, z1z, z1A, z1y, zV, z11, z1v, zJ, zW, zZ]
      exact ⟨rfl, app_nil S'⟩
    · rintro pre o post sd S' epp ⟨rfl, a3, a4, rfl⟩
      have hpl : (pre.flatMap fun o => (allL n).map (o :: ·)).length ≤ 243 := by
        have h3 : pre.length ≤ 3 := by
          have := congrArg List.length epp
          simp [sg3] at this
          omega
        have := flat_le (l := pre) (f := fun o => (allL n).map (o :: ·)) (n := 81) fun o _ => by rw [List.length_map]; exact h2
        have := Nat.mul_le_mul_left 81 h3
        omega
      simp only [z1T, w_dC, z1L, z1i, z1W, z1Y, w_d2, z2o, w_d3, z2m, z1Z, z1e, z1J, z1g, z1U, z2p, z1G, z2n, z1V, z1f, z1M, z2q, z1I, z1m, z1R, z1K, z1N, z1c, zL, z1a, z1Q, z1S, zN, z1j, zP, zM, z19, z1h, z1l, z1d, zR, z16, z1O, z18, z1n, zK, z17, z15, zO, zI, z1k, z2r, z1X, z1b, zH, z1w, z2K, z1F, w_ok, z2v, z1x, z2l, z27, z1C, z2h, z23, z2g, z1s, zU, z12, z28, z2b, z2c, z20, z2k, z21, z2i, z2F, z2D, z2B, z2L, z2y, z2H, z2t, z2A, z29, z1P, z1H, z2f, z14, z1r, Int.reduceToNat, Int.reduceLE, Int.reduceLT, Int.reduceNeg, startD, List.map_cons, List.map_nil, List.length_cons, List.length_nil, List.replicate, List.cons_append, List.nil_append, List.getElem?_cons_zero, List.getElem?_cons_succ, List.set_cons_zero, List.set_cons_succ, Nat.reduceAdd, Nat.reduceSub, Nat.reduceEqDiff, if_true, if_false, Bool.false_eq_true, decide_true, decide_false, Int.reduceEq, Int.reduceAdd, Int.reduceSub, Int.reduceMul, Bool.not_true, Bool.not_false, c_0, c_1, c_2, c_3, c_4, c_5, c_6, c_7, c_8, c_9, c_10, c_11, c_12, sz_0, sz_1, sz_2, sz_3, sz_4, sz_5, sz_6, sz_7, sz_8, sz_9, z2J, z2I, z2E, z2s, z2x, z2z, z2w, Bool.true_eq_false, eq_self, za, zb, z4, z7, z5, z3, zw, zy, zi, zr, zp, z8, zn, zj, ze, zg, zh, z6, zz, zu, zf, zq, zo, z9, zD, zE, zm, zt, zA, zc, zG, zB, zl, zv, zx, zd, z2j, z2a, zS, z1E, z1q, z25, z2C, z2u, z2G, zY, z26, z2d, zT, z1p, z1D, z24, z1o, zF, z1u, zQ, z1t, z1B, zC, zX, z10, z2e, z22, z1z, z1A, z1y, zV, z11, z1v, zJ, zW, zZ, hc]
      rw [w_ite (szn (by rw [List.length_map, List.length_map, List.length_map]; omega))]
      simp only [z1T, w_dC, z1L, z1i, z1W, z1Y, w_d2, z2o, w_d3, z2m, z1Z, z1e, z1J, z1g, z1U, z2p, z1G, z2n, z1V, z1f, z1M, z2q, z1I, z1m, z1R, z1K, z1N, z1c, zL, z1a, z1Q, z1S, zN, z1j, zP, zM, z19, z1h, z1l, z1d, zR, z16, z1O, z18, z1n, zK, z17, z15, zO, zI, z1k, z2r, z1X, z1b, zH, z1w, z2K, z1F, w_ok, z2v, z1x, z2l, z27, z1C, z2h, z23, z2g, z1s, zU, z12, z28, z2b, z2c, z20, z2k, z21, z2i, z2F, z2D, z2B, z2L, z2y, z2H, z2t, z2A, z29, z1P, z1H, z2f, z14, z1r, Int.reduceToNat, Int.reduceLE, Int.reduceLT, Int.reduceNeg, startD, List.map_cons, List.map_nil, List.length_cons, List.length_nil, List.replicate, List.cons_append, List.nil_append, List.getElem?_cons_zero, List.getElem?_cons_succ, List.set_cons_zero, List.set_cons_succ, Nat.reduceAdd, Nat.reduceSub, Nat.reduceEqDiff, if_true, if_false, Bool.false_eq_true, decide_true, decide_false, Int.reduceEq, Int.reduceAdd, Int.reduceSub, Int.reduceMul, Bool.not_true, Bool.not_false, c_0, c_1, c_2, c_3, c_4, c_5, c_6, c_7, c_8, c_9, c_10, c_11, c_12, sz_0, sz_1, sz_2, sz_3, sz_4, sz_5, sz_6, sz_7, sz_8, sz_9, z2J, z2I, z2E, z2s, z2x, z2z, z2w, Bool.true_eq_false, eq_self, za, zb, z4, z7, z5, z3, zw, zy, zi, zr, zp, z8, zn, zj, ze, zg, zh, z6, zz, zu, zf, zq, zo, z9, zD, zE, zm, zt, zA, zc, zG, zB, zl, zv, zx, zd, z2j, z2a, zS, z1E, z1q, z25, z2C, z2u, z2G, zY, z26, z2d, zT, z1p, z1D, z24, z1o, zF, z1u, zQ, z1t, z1B, zC, zX, z10, z2e, z22, z1z, z1A, z1y, zV, z11, z1v, zJ, zW, zZ]
      refine ⟨trivial, some (.str (W [cM o])), a4, ?_⟩
      rw [List.flatMap_append, List.flatMap_cons, List.flatMap_nil, List.append_nil, List.map_append]
theorem law_widest_ok {ms : List Mk} {S : Sto} (hl : ms.length ≤ 100) (hm : ∀ m ∈ ms, m.length ≤ 10) : F__law_widest [.frl (ms.map mW)] S = .ok (.frl ((ms.filter fun m => (wid m).all fun x => !decide (x ∈ ms)).map mW)) S := by
  unfold F__law_widest
  refine fn_ok (gd_blw (n := 1) _ (gd_frl mW_gds)) ?_
  unfold b__law_widest
  simp only [z1T, w_dC, z1L, z1i, z1W, z1Y, w_d2, z2o, w_d3, z2m, z1Z, z1e, z1J, z1g, z1U, z2p, z1G, z2n, z1V, z1f, z1M, z2q, z1I, z1m, z1R, z1K, z1N, z1c, zL, z1a, z1Q, z1S, zN, z1j, zP, zM, z19, z1h, z1l, z1d, zR, z16, z1O, z18, z1n, zK, z17, z15, zO, zI, z1k, z2r, z1X, z1b, zH, z1w, z2K, z1F, w_ok, z2v, z1x, z2l, z27, z1C, z2h, z23, z2g, z1s, zU, z12, z28, z2b, z2c, z20, z2k, z21, z2i, z2F, z2D, z2B, z2L, z2y, z2H, z2t, z2A, z29, z1P, z1H, z2f, z14, z1r, Int.reduceToNat, Int.reduceLE, Int.reduceLT, Int.reduceNeg, startD, List.map_cons, List.map_nil, List.length_cons, List.length_nil, List.replicate, List.cons_append, List.nil_append, List.getElem?_cons_zero, List.getElem?_cons_succ, List.set_cons_zero, List.set_cons_succ, Nat.reduceAdd, Nat.reduceSub, Nat.reduceEqDiff, if_true, if_false, Bool.false_eq_true, decide_true, decide_false, Int.reduceEq, Int.reduceAdd, Int.reduceSub, Int.reduceMul, Bool.not_true, Bool.not_false, c_0, c_1, c_2, c_3, c_4, c_5, c_6, c_7, c_8, c_9, c_10, c_11, c_12, sz_0, sz_1, sz_2, sz_3, sz_4, sz_5, sz_6, sz_7, sz_8, sz_9, z2J, z2I, z2E, z2s, z2x, z2z, z2w, Bool.true_eq_false, eq_self, za, zb, z4, z7, z5, z3, zw, zy, zi, zr, zp, z8, zn, zj, ze, zg, zh, z6, zz, zu, zf, zq, zo, z9, zD, zE, zm, zt, zA, zc, zG, zB, zl, zv, zx, zd, z2j, z2a, zS, z1E, z1q, z25, z2C, z2u, z2G, zY, z26, z2d, zT, z1p, z1D, z24, z1o, zF, z1u, zQ, z1t, z1B, zC, zX, z10, z2e, z22, z1z, z1A, z1y, zV, z11, z1v, zJ, zW, zZ, itemsD]
  refine w_loopP mW (fun pre sd S' => ∃ a2 a3 a4 a5, S' = S ++ [.lst ((pre.filter fun m => (wid m).all fun x => !decide (x ∈ ms)).map mW)] ∧ sd = [some (.frl (ms.map mW)), some (.ref S.length), a2, a3, a4, a5]) ms (fun _ _ _ _ _ _ => rfl) ⟨_, _, _, _, rfl, rfl⟩ ?_ ?_
  · rintro sd S' ⟨a2, a3, a4, a5, rfl, rfl⟩
    simp only [z1T, w_dC, z1L, z1i, z1W, z1Y, w_d2, z2o, w_d3, z2m, z1Z, z1e, z1J, z1g, z1U, z2p, z1G, z2n, z1V, z1f, z1M, z2q, z1I, z1m, z1R, z1K, z1N, z1c, zL, z1a, z1Q, z1S, zN, z1j, zP, zM, z19, z1h, z1l, z1d, zR, z16, z1O, z18, z1n, zK, z17, z15, zO, zI, z1k, z2r, z1X, z1b, zH, z1w, z2K, z1F, w_ok, z2v, z1x, z2l, z27, z1C, z2h, z23, z2g, z1s, zU, z12, z28, z2b, z2c, z20, z2k, z21, z2i, z2F, z2D, z2B, z2L, z2y, z2H, z2t, z2A, z29, z1P, z1H, z2f, z14, z1r, Int.reduceToNat, Int.reduceLE, Int.reduceLT, Int.reduceNeg, startD, List.map_cons, List.map_nil, List.length_cons, List.length_nil, List.replicate, List.cons_append, List.nil_append, List.getElem?_cons_zero, List.getElem?_cons_succ, List.set_cons_zero, List.set_cons_succ, Nat.reduceAdd, Nat.reduceSub, Nat.reduceEqDiff, if_true, if_false, Bool.false_eq_true, decide_true, decide_false, Int.reduceEq, Int.reduceAdd, Int.reduceSub, Int.reduceMul, Bool.not_true, Bool.not_false, c_0, c_1, c_2, c_3, c_4, c_5, c_6, c_7, c_8, c_9, c_10, c_11, c_12, sz_0, sz_1, sz_2, sz_3, sz_4, sz_5, sz_6, sz_7, sz_8, sz_9, z2J, z2I, z2E, z2s, z2x, z2z, z2w, Bool.true_eq_false, eq_self, za, zb, z4, z7, z5, z3, zw, zy, zi, zr, zp, z8, zn, zj, ze, zg, zh, z6, zz, zu, zf, zq, zo, z9, zD, zE, zm, zt, zA, zc, zG, zB, zl, zv, zx, zd, z2j, z2a, zS, z1E, z1q, z25, z2C, z2u, z2G, zY, z26, z2d, zT, z1p, z1D, z24, z1o, zF, z1u, zQ, z1t, z1B, zC, zX, z10, z2e, z22, z1z, z1A, z1y, zV, z11, z1v, zJ, zW, zZ, w_dFrz]
    rw [frz_at get_last]
    simp only [z1T, w_dC, z1L, z1i, z1W, z1Y, w_d2, z2o, w_d3, z2m, z1Z, z1e, z1J, z1g, z1U, z2p, z1G, z2n, z1V, z1f, z1M, z2q, z1I, z1m, z1R, z1K, z1N, z1c, zL, z1a, z1Q, z1S, zN, z1j, zP, zM, z19, z1h, z1l, z1d, zR, z16, z1O, z18, z1n, zK, z17, z15, zO, zI, z1k, z2r, z1X, z1b, zH, z1w, z2K, z1F, w_ok, z2v, z1x, z2l, z27, z1C, z2h, z23, z2g, z1s, zU, z12, z28, z2b, z2c, z20, z2k, z21, z2i, z2F, z2D, z2B, z2L, z2y, z2H, z2t, z2A, z29, z1P, z1H, z2f, z14, z1r, Int.reduceToNat, Int.reduceLE, Int.reduceLT, Int.reduceNeg, startD, List.map_cons, List.map_nil, List.length_cons, List.length_nil, List.replicate, List.cons_append, List.nil_append, List.getElem?_cons_zero, List.getElem?_cons_succ, List.set_cons_zero, List.set_cons_succ, Nat.reduceAdd, Nat.reduceSub, Nat.reduceEqDiff, if_true, if_false, Bool.false_eq_true, decide_true, decide_false, Int.reduceEq, Int.reduceAdd, Int.reduceSub, Int.reduceMul, Bool.not_true, Bool.not_false, c_0, c_1, c_2, c_3, c_4, c_5, c_6, c_7, c_8, c_9, c_10, c_11, c_12, sz_0, sz_1, sz_2, sz_3, sz_4, sz_5, sz_6, sz_7, sz_8, sz_9, z2J, z2I, z2E, z2s, z2x, z2z, z2w, Bool.true_eq_false, eq_self, za, zb, z4, z7, z5, z3, zw, zy, zi, zr, zp, z8, zn, zj, ze, zg, zh, z6, zz, zu, zf, zq, zo, z9, zD, zE, zm, zt, zA, zc, zG, zB, zl, zv, zx, zd, z2j, z2a, zS, z1E, z1q, z25, z2C, z2u, z2G, zY, z26, z2d, zT, z1p, z1D, z24, z1o, zF, z1u, zQ, z1t, z1B, zC, zX, z10, z2e, z22, z1z, z1A, z1y, zV, z11, z1v, zJ, zW, zZ]
    exact ⟨trivial, _, set_last⟩
  · rintro pre m post sd S' epp ⟨a2, a3, a4, a5, rfl, rfl⟩
    have hmm : m ∈ ms := by rw [epp]; simp
    have hm10 := hm m hmm
    generalize hS : S ++ [DO.lst ((pre.filter fun m => (wid m).all fun x => !decide (x ∈ ms)).map mW)] = S1
    have hg : S1[S.length]? = some (.lst ((pre.filter fun m => (wid m).all fun x => !decide (x ∈ ms)).map mW)) := by rw [← hS]; exact get_last
    have hset : ∀ xs, S1.set S.length (.lst xs) = S ++ [.lst xs] := fun xs => by rw [← hS]; exact set_last
    have hc1 : dFrz (dComp [4] (iRngD1 (dCall lenD (dCons (dVar 2) dNil))) (gVar 4) (d2T neD (d2 ixD (dVar 2) (dVar 4)) (dC (.str "-"))) (d2 addD (d2 addD (dSlice (dVar 2) oNone (oSome (dVar 4))) (dC (.str "-"))) (dSlice (dVar 2) (oSome (d2 addD (dVar 4) (dC (.int 1)))) oNone))) [some (.frl (ms.map mW)), some (.ref S.length), some (mW m), a3, a4, a5] S1 = .ok (.frl ((wid m).map mW)) S1 := by
      unfold wid
      rw [List.map_map]
      refine compF (List.range m.length) (fun k => .int ((k : Nat) : Int)) _ _ ?_ (Nat.le_trans (List.length_filter_le _ _) (szn (by simp; omega))) ?_ ?_
      · simp only [z1T, w_dC, z1L, z1i, z1W, z1Y, w_d2, z2o, w_d3, z2m, z1Z, z1e, z1J, z1g, z1U, z2p, z1G, z2n, z1V, z1f, z1M, z2q, z1I, z1m, z1R, z1K, z1N, z1c, zL, z1a, z1Q, z1S, zN, z1j, zP, zM, z19, z1h, z1l, z1d, zR, z16, z1O, z18, z1n, zK, z17, z15, zO, zI, z1k, z2r, z1X, z1b, zH, z1w, z2K, z1F, w_ok, z2v, z1x, z2l, z27, z1C, z2h, z23, z2g, z1s, zU, z12, z28, z2b, z2c, z20, z2k, z21, z2i, z2F, z2D, z2B, z2L, z2y, z2H, z2t, z2A, z29, z1P, z1H, z2f, z14, z1r, Int.reduceToNat, Int.reduceLE, Int.reduceLT, Int.reduceNeg, startD, List.map_cons, List.map_nil, List.length_cons, List.length_nil, List.replicate, List.cons_append, List.nil_append, List.getElem?_cons_zero, List.getElem?_cons_succ, List.set_cons_zero, List.set_cons_succ, Nat.reduceAdd, Nat.reduceSub, Nat.reduceEqDiff, if_true, if_false, Bool.false_eq_true, decide_true, decide_false, Int.reduceEq, Int.reduceAdd, Int.reduceSub, Int.reduceMul, Bool.not_true, Bool.not_false, c_0, c_1, c_2, c_3, c_4, c_5, c_6, c_7, c_8, c_9, c_10, c_11, c_12, sz_0, sz_1, sz_2, sz_3, sz_4, sz_5, sz_6, sz_7, sz_8, sz_9, z2J, z2I, z2E, z2s, z2x, z2z, z2w, Bool.true_eq_false, eq_self, za, zb, z4, z7, z5, z3, zw, zy, zi, zr, zp, z8, zn, zj, ze, zg, zh, z6, zz, zu, zf, zq, zo, z9, zD, zE, zm, zt, zA, zc, zG, zB, zl, zv, zx, zd, z2j, z2a, zS, z1E, z1q, z25, z2C, z2u, z2G, zY, z26, z2d, zT, z1p, z1D, z24, z1o, zF, z1u, zQ, z1t, z1B, zC, zX, z10, z2e, z22, z1z, z1A, z1y, zV, z11, z1v, zJ, zW, zZ, mW, w_lenS (show (W (wM m)).length ≤ sizeLine by rw [W_len, wM_len]; exact szn (by omega)), W_len, wM_len]
        rw [w_ite (rng_ok (by omega))]
        simp only [z1T, w_dC, z1L, z1i, z1W, z1Y, w_d2, z2o, w_d3, z2m, z1Z, z1e, z1J, z1g, z1U, z2p, z1G, z2n, z1V, z1f, z1M, z2q, z1I, z1m, z1R, z1K, z1N, z1c, zL, z1a, z1Q, z1S, zN, z1j, zP, zM, z19, z1h, z1l, z1d, zR, z16, z1O, z18, z1n, zK, z17, z15, zO, zI, z1k, z2r, z1X, z1b, zH, z1w, z2K, z1F, w_ok, z2v, z1x, z2l, z27, z1C, z2h, z23, z2g, z1s, zU, z12, z28, z2b, z2c, z20, z2k, z21, z2i, z2F, z2D, z2B, z2L, z2y, z2H, z2t, z2A, z29, z1P, z1H, z2f, z14, z1r, Int.reduceToNat, Int.reduceLE, Int.reduceLT, Int.reduceNeg, startD, List.map_cons, List.map_nil, List.length_cons, List.length_nil, List.replicate, List.cons_append, List.nil_append, List.getElem?_cons_zero, List.getElem?_cons_succ, List.set_cons_zero, List.set_cons_succ, Nat.reduceAdd, Nat.reduceSub, Nat.reduceEqDiff, if_true, if_false, Bool.false_eq_true, decide_true, decide_false, Int.reduceEq, Int.reduceAdd, Int.reduceSub, Int.reduceMul, Bool.not_true, Bool.not_false, c_0, c_1, c_2, c_3, c_4, c_5, c_6, c_7, c_8, c_9, c_10, c_11, c_12, sz_0, sz_1, sz_2, sz_3, sz_4, sz_5, sz_6, sz_7, sz_8, sz_9, z2J, z2I, z2E, z2s, z2x, z2z, z2w, Bool.true_eq_false, eq_self, za, zb, z4, z7, z5, z3, zw, zy, zi, zr, zp, z8, zn, zj, ze, zg, zh, z6, zz, zu, zf, zq, zo, z9, zD, zE, zm, zt, zA, zc, zG, zB, zl, zv, zx, zd, z2j, z2a, zS, z1E, z1q, z25, z2C, z2u, z2G, zY, z26, z2d, zT, z1p, z1D, z24, z1o, zF, z1u, zQ, z1t, z1B, zC, zX, z10, z2e, z22, z1z, z1A, z1y, zV, z11, z1v, zJ, zW, zZ]
        exact ⟨trivial, by simp [rangeL], fun _ _ => rfl⟩
      · intro k hk S' _
        have hk := List.mem_range.mp hk
        have hk1 : ((k : Nat) : Int) + 1 = ((k + 1 : Nat) : Int) := by omega
        simp only [z1T, w_dC, z1L, z1i, z1W, z1Y, w_d2, z2o, w_d3, z2m, z1Z, z1e, z1J, z1g, z1U, z2p, z1G, z2n, z1V, z1f, z1M, z2q, z1I, z1m, z1R, z1K, z1N, z1c, zL, z1a, z1Q, z1S, zN, z1j, zP, zM, z19, z1h, z1l, z1d, zR, z16, z1O, z18, z1n, zK, z17, z15, zO, zI, z1k, z2r, z1X, z1b, zH, z1w, z2K, z1F, w_ok, z2v, z1x, z2l, z27, z1C, z2h, z23, z2g, z1s, zU, z12, z28, z2b, z2c, z20, z2k, z21, z2i, z2F, z2D, z2B, z2L, z2y, z2H, z2t, z2A, z29, z1P, z1H, z2f, z14, z1r, Int.reduceToNat, Int.reduceLE, Int.reduceLT, Int.reduceNeg, startD, List.map_cons, List.map_nil, List.length_cons, List.length_nil, List.replicate, List.cons_append, List.nil_append, List.getElem?_cons_zero, List.getElem?_cons_succ, List.set_cons_zero, List.set_cons_succ, Nat.reduceAdd, Nat.reduceSub, Nat.reduceEqDiff, if_true, if_false, Bool.false_eq_true, decide_true, decide_false, Int.reduceEq, Int.reduceAdd, Int.reduceSub, Int.reduceMul, Bool.not_true, Bool.not_false, c_0, c_1, c_2, c_3, c_4, c_5, c_6, c_7, c_8, c_9, c_10, c_11, c_12, sz_0, sz_1, sz_2, sz_3, sz_4, sz_5, sz_6, sz_7, sz_8, sz_9, z2J, z2I, z2E, z2s, z2x, z2z, z2w, Bool.true_eq_false, eq_self, za, zb, z4, z7, z5, z3, zw, zy, zi, zr, zp, z8, zn, zj, ze, zg, zh, z6, zz, zu, zf, zq, zo, z9, zD, zE, zm, zt, zA, zc, zG, zB, zl, zv, zx, zd, z2j, z2a, zS, z1E, z1q, z25, z2C, z2u, z2G, zY, z26, z2d, zT, z1p, z1D, z24, z1o, zF, z1u, zQ, z1t, z1B, zC, zX, z10, z2e, z22, z1z, z1A, z1y, zV, z11, z1v, zJ, zW, zZ, wipeD, mW, ix_W (show (wM m).length ≤ sizeLine by rw [wM_len]; exact szn (by omega)) (at_wM hk), W_dash', W_inj, cM45]
        refine ⟨trivial, trivial, by unfold fixd; rfl, fun _ => ?_⟩
        simp only [z1T, w_dC, z1L, z1i, z1W, z1Y, w_d2, z2o, w_d3, z2m, z1Z, z1e, z1J, z1g, z1U, z2p, z1G, z2n, z1V, z1f, z1M, z2q, z1I, z1m, z1R, z1K, z1N, z1c, zL, z1a, z1Q, z1S, zN, z1j, zP, zM, z19, z1h, z1l, z1d, zR, z16, z1O, z18, z1n, zK, z17, z15, zO, zI, z1k, z2r, z1X, z1b, zH, z1w, z2K, z1F, w_ok, z2v, z1x, z2l, z27, z1C, z2h, z23, z2g, z1s, zU, z12, z28, z2b, z2c, z20, z2k, z21, z2i, z2F, z2D, z2B, z2L, z2y, z2H, z2t, z2A, z29, z1P, z1H, z2f, z14, z1r, Int.reduceToNat, Int.reduceLE, Int.reduceLT, Int.reduceNeg, startD, List.map_cons, List.map_nil, List.length_cons, List.length_nil, List.replicate, List.cons_append, List.nil_append, List.getElem?_cons_zero, List.getElem?_cons_succ, List.set_cons_zero, List.set_cons_succ, Nat.reduceAdd, Nat.reduceSub, Nat.reduceEqDiff, if_true, if_false, Bool.false_eq_true, decide_true, decide_false, Int.reduceEq, Int.reduceAdd, Int.reduceSub, Int.reduceMul, Bool.not_true, Bool.not_false, c_0, c_1, c_2, c_3, c_4, c_5, c_6, c_7, c_8, c_9, c_10, c_11, c_12, sz_0, sz_1, sz_2, sz_3, sz_4, sz_5, sz_6, sz_7, sz_8, sz_9, z2J, z2I, z2E, z2s, z2x, z2z, z2w, Bool.true_eq_false, eq_self, za, zb, z4, z7, z5, z3, zw, zy, zi, zr, zp, z8, zn, zj, ze, zg, zh, z6, zz, zu, zf, zq, zo, z9, zD, zE, zm, zt, zA, zc, zG, zB, zl, zv, zx, zd, z2j, z2a, zS, z1E, z1q, z25, z2C, z2u, z2G, zY, z26, z2d, zT, z1p, z1D, z24, z1o, zF, z1u, zQ, z1t, z1B, zC, zX, z10, z2e, z22, z1z, z1A, z1y, zV, z11, z1v, zJ, zW, zZ, w_sliceSW (show (wM m).length ≤ 16777216 by rw [wM_len]; omega), cutS_takeM, hk1, cutS_dropM]
        rw [w_addSW (by rw [wM_len]; simp; omega)]
        simp only [z1T, w_dC, z1L, z1i, z1W, z1Y, w_d2, z2o, w_d3, z2m, z1Z, z1e, z1J, z1g, z1U, z2p, z1G, z2n, z1V, z1f, z1M, z2q, z1I, z1m, z1R, z1K, z1N, z1c, zL, z1a, z1Q, z1S, zN, z1j, zP, zM, z19, z1h, z1l, z1d, zR, z16, z1O, z18, z1n, zK, z17, z15, zO, zI, z1k, z2r, z1X, z1b, zH, z1w, z2K, z1F, w_ok, z2v, z1x, z2l, z27, z1C, z2h, z23, z2g, z1s, zU, z12, z28, z2b, z2c, z20, z2k, z21, z2i, z2F, z2D, z2B, z2L, z2y, z2H, z2t, z2A, z29, z1P, z1H, z2f, z14, z1r, Int.reduceToNat, Int.reduceLE, Int.reduceLT, Int.reduceNeg, startD, List.map_cons, List.map_nil, List.length_cons, List.length_nil, List.replicate, List.cons_append, List.nil_append, List.getElem?_cons_zero, List.getElem?_cons_succ, List.set_cons_zero, List.set_cons_succ, Nat.reduceAdd, Nat.reduceSub, Nat.reduceEqDiff, if_true, if_false, Bool.false_eq_true, decide_true, decide_false, Int.reduceEq, Int.reduceAdd, Int.reduceSub, Int.reduceMul, Bool.not_true, Bool.not_false, c_0, c_1, c_2, c_3, c_4, c_5, c_6, c_7, c_8, c_9, c_10, c_11, c_12, sz_0, sz_1, sz_2, sz_3, sz_4, sz_5, sz_6, sz_7, sz_8, sz_9, z2J, z2I, z2E, z2s, z2x, z2z, z2w, Bool.true_eq_false, eq_self, za, zb, z4, z7, z5, z3, zw, zy, zi, zr, zp, z8, zn, zj, ze, zg, zh, z6, zz, zu, zf, zq, zo, z9, zD, zE, zm, zt, zA, zc, zG, zB, zl, zv, zx, zd, z2j, z2a, zS, z1E, z1q, z25, z2C, z2u, z2G, zY, z26, z2d, zT, z1p, z1D, z24, z1o, zF, z1u, zQ, z1t, z1B, zC, zX, z10, z2e, z22, z1z, z1A, z1y, zV, z11, z1v, zJ, zW, zZ, w_sliceSW (show (wM m).length ≤ 16777216 by rw [wM_len]; omega), cutS_takeM, hk1, cutS_dropM]
        rw [w_addSW (by rw [List.length_append, wM_len, wM_len]; simp; omega)]
        refine ⟨by first | rfl | trivial, ?_⟩
        show D.str _ = D.str _
        congr 2
        simp [wd, wM, cM]
      · intro k _ _; rfl
    have hwl : (wid m).length ≤ 10 := by
      unfold wid
      rw [List.length_map]
      exact Nat.le_trans (List.length_filter_le _ _) (by simp; omega)
    have hasM : ∀ (x : Mk) (S : Sto), hasD (mW x) (.frl (ms.map mW)) S = some (decide (x ∈ ms)) := fun x S => by
      have := has_frl (x := mW x) (ds := ms.map mW) (S := S) (n := 0) (m := 0) (gd_W (wM_ok x)) mW_gds
      rw [this, decide_eq_decide.mpr in_mW]
    have hc2 : dFrz (dComp [5] (iVal (dVar 3)) (gVar 5) (d2T inD (dVar 5) (dVar 0)) (dVar 5)) [some (.frl (ms.map mW)), some (.ref S.length), some (mW m), some (.frl ((wid m).map mW)), a4, a5] S1 = .ok (.frl (((wid m).filter fun x => decide (x ∈ ms)).map mW)) S1 := by
      refine compF (wid m) mW _ mW ?_ (Nat.le_trans (List.length_filter_le _ _) (szn (by omega))) ?_ ?_
      · simp only [z1T, w_dC, z1L, z1i, z1W, z1Y, w_d2, z2o, w_d3, z2m, z1Z, z1e, z1J, z1g, z1U, z2p, z1G, z2n, z1V, z1f, z1M, z2q, z1I, z1m, z1R, z1K, z1N, z1c, zL, z1a, z1Q, z1S, zN, z1j, zP, zM, z19, z1h, z1l, z1d, zR, z16, z1O, z18, z1n, zK, z17, z15, zO, zI, z1k, z2r, z1X, z1b, zH, z1w, z2K, z1F, w_ok, z2v, z1x, z2l, z27, z1C, z2h, z23, z2g, z1s, zU, z12, z28, z2b, z2c, z20, z2k, z21, z2i, z2F, z2D, z2B, z2L, z2y, z2H, z2t, z2A, z29, z1P, z1H, z2f, z14, z1r, Int.reduceToNat, Int.reduceLE, Int.reduceLT, Int.reduceNeg, startD, List.map_cons, List.map_nil, List.length_cons, List.length_nil, List.replicate, List.cons_append, List.nil_append, List.getElem?_cons_zero, List.getElem?_cons_succ, List.set_cons_zero, List.set_cons_succ, Nat.reduceAdd, Nat.reduceSub, Nat.reduceEqDiff, if_true, if_false, Bool.false_eq_true, decide_true, decide_false, Int.reduceEq, Int.reduceAdd, Int.reduceSub, Int.reduceMul, Bool.not_true, Bool.not_false, c_0, c_1, c_2, c_3, c_4, c_5, c_6, c_7, c_8, c_9, c_10, c_11, c_12, sz_0, sz_1, sz_2, sz_3, sz_4, sz_5, sz_6, sz_7, sz_8, sz_9, z2J, z2I, z2E, z2s, z2x, z2z, z2w, Bool.true_eq_false, eq_self, za, zb, z4, z7, z5, z3, zw, zy, zi, zr, zp, z8, zn, zj, ze, zg, zh, z6, zz, zu, zf, zq, zo, z9, zD, zE, zm, zt, zA, zc, zG, zB, zl, zv, zx, zd, z2j, z2a, zS, z1E, z1q, z25, z2C, z2u, z2G, zY, z26, z2d, zT, z1p, z1D, z24, z1o, zF, z1u, zQ, z1t, z1B, zC, zX, z10, z2e, z22, z1z, z1A, z1y, zV, z11, z1v, zJ, zW, zZ, itemsD]
        exact ⟨trivial, trivial, fun _ _ => rfl⟩
      · intro x hx S' _
        simp only [z1T, w_dC, z1L, z1i, z1W, z1Y, w_d2, z2o, w_d3, z2m, z1Z, z1e, z1J, z1g, z1U, z2p, z1G, z2n, z1V, z1f, z1M, z2q, z1I, z1m, z1R, z1K, z1N, z1c, zL, z1a, z1Q, z1S, zN, z1j, zP, zM, z19, z1h, z1l, z1d, zR, z16, z1O, z18, z1n, zK, z17, z15, zO, zI, z1k, z2r, z1X, z1b, zH, z1w, z2K, z1F, w_ok, z2v, z1x, z2l, z27, z1C, z2h, z23, z2g, z1s, zU, z12, z28, z2b, z2c, z20, z2k, z21, z2i, z2F, z2D, z2B, z2L, z2y, z2H, z2t, z2A, z29, z1P, z1H, z2f, z14, z1r, Int.reduceToNat, Int.reduceLE, Int.reduceLT, Int.reduceNeg, startD, List.map_cons, List.map_nil, List.length_cons, List.length_nil, List.replicate, List.cons_append, List.nil_append, List.getElem?_cons_zero, List.getElem?_cons_succ, List.set_cons_zero, List.set_cons_succ, Nat.reduceAdd, Nat.reduceSub, Nat.reduceEqDiff, if_true, if_false, Bool.false_eq_true, decide_true, decide_false, Int.reduceEq, Int.reduceAdd, Int.reduceSub, Int.reduceMul, Bool.not_true, Bool.not_false, c_0, c_1, c_2, c_3, c_4, c_5, c_6, c_7, c_8, c_9, c_10, c_11, c_12, sz_0, sz_1, sz_2, sz_3, sz_4, sz_5, sz_6, sz_7, sz_8, sz_9, z2J, z2I, z2E, z2s, z2x, z2z, z2w, Bool.true_eq_false, eq_self, za, zb, z4, z7, z5, z3, zw, zy, zi, zr, zp, z8, zn, zj, ze, zg, zh, z6, zz, zu, zf, zq, zo, z9, zD, zE, zm, zt, zA, zc, zG, zB, zl, zv, zx, zd, z2j, z2a, zS, z1E, z1q, z25, z2C, z2u, z2G, zY, z26, z2d, zT, z1p, z1D, z24, z1o, zF, z1u, zQ, z1t, z1B, zC, zX, z10, z2e, z22, z1z, z1A, z1y, zV, z11, z1v, zJ, zW, zZ, wipeD, inD, hasM]
        exact ⟨trivial, trivial, trivial, fun _ => ⟨trivial, trivial⟩⟩
      · intro x _ _; rfl
    have hpl : pre.length ≤ 100 := by
      have := congrArg List.length epp
      simp at this
      omega
    simp only [z1T, w_dC, z1L, z1i, z1W, z1Y, w_d2, z2o, w_d3, z2m, z1Z, z1e, z1J, z1g, z1U, z2p, z1G, z2n, z1V, z1f, z1M, z2q, z1I, z1m, z1R, z1K, z1N, z1c, zL, z1a, z1Q, z1S, zN, z1j, zP, zM, z19, z1h, z1l, z1d, zR, z16, z1O, z18, z1n, zK, z17, z15, zO, zI, z1k, z2r, z1X, z1b, zH, z1w, z2K, z1F, w_ok, z2v, z1x, z2l, z27, z1C, z2h, z23, z2g, z1s, zU, z12, z28, z2b, z2c, z20, z2k, z21, z2i, z2F, z2D, z2B, z2L, z2y, z2H, z2t, z2A, z29, z1P, z1H, z2f, z14, z1r, Int.reduceToNat, Int.reduceLE, Int.reduceLT, Int.reduceNeg, startD, List.map_cons, List.map_nil, List.length_cons, List.length_nil, List.replicate, List.cons_append, List.nil_append, List.getElem?_cons_zero, List.getElem?_cons_succ, List.set_cons_zero, List.set_cons_succ, Nat.reduceAdd, Nat.reduceSub, Nat.reduceEqDiff, if_true, if_false, Bool.false_eq_true, decide_true, decide_false, Int.reduceEq, Int.reduceAdd, Int.reduceSub, Int.reduceMul, Bool.not_true, Bool.not_false, c_0, c_1, c_2, c_3, c_4, c_5, c_6, c_7, c_8, c_9, c_10, c_11, c_12, sz_0, sz_1, sz_2, sz_3, sz_4, sz_5, sz_6, sz_7, sz_8, sz_9, z2J, z2I, z2E, z2s, z2x, z2z, z2w, Bool.true_eq_false, eq_self, za, zb, z4, z7, z5, z3, zw, zy, zi, zr, zp, z8, zn, zj, ze, zg, zh, z6, zz, zu, zf, zq, zo, z9, zD, zE, zm, zt, zA, zc, zG, zB, zl, zv, zx, zd, z2j, z2a, zS, z1E, z1q, z25, z2C, z2u, z2G, zY, z26, z2d, zT, z1p, z1D, z24, z1o, zF, z1u, zQ, z1t, z1B, zC, zX, z10, z2e, z22, z1z, z1A, z1y, zV, z11, z1v, zJ, zW, zZ, hc1, hc2]
    rw [w_eqNil (f := mW) (n := 0) fun x _ => gd_W (wM_ok x)]
    rw [List.filter_append]
    cases hb : (wid m).all fun x => !decide (x ∈ ms) with
    | true =>
      simp only [z1T, w_dC, z1L, z1i, z1W, z1Y, w_d2, z2o, w_d3, z2m, z1Z, z1e, z1J, z1g, z1U, z2p, z1G, z2n, z1V, z1f, z1M, z2q, z1I, z1m, z1R, z1K, z1N, z1c, zL, z1a, z1Q, z1S, zN, z1j, zP, zM, z19, z1h, z1l, z1d, zR, z16, z1O, z18, z1n, zK, z17, z15, zO, zI, z1k, z2r, z1X, z1b, zH, z1w, z2K, z1F, w_ok, z2v, z1x, z2l, z27, z1C, z2h, z23, z2g, z1s, zU, z12, z28, z2b, z2c, z20, z2k, z21, z2i, z2F, z2D, z2B, z2L, z2y, z2H, z2t, z2A, z29, z1P, z1H, z2f, z14, z1r, Int.reduceToNat, Int.reduceLE, Int.reduceLT, Int.reduceNeg, startD, List.map_cons, List.map_nil, List.length_cons, List.length_nil, List.replicate, List.cons_append, List.nil_append, List.getElem?_cons_zero, List.getElem?_cons_succ, List.set_cons_zero, List.set_cons_succ, Nat.reduceAdd, Nat.reduceSub, Nat.reduceEqDiff, if_true, if_false, Bool.false_eq_true, decide_true, decide_false, Int.reduceEq, Int.reduceAdd, Int.reduceSub, Int.reduceMul, Bool.not_true, Bool.not_false, c_0, c_1, c_2, c_3, c_4, c_5, c_6, c_7, c_8, c_9, c_10, c_11, c_12, sz_0, sz_1, sz_2, sz_3, sz_4, sz_5, sz_6, sz_7, sz_8, sz_9, z2J, z2I, z2E, z2s, z2x, z2z, z2w, Bool.true_eq_false, eq_self, za, zb, z4, z7, z5, z3, zw, zy, zi, zr, zp, z8, zn, zj, ze, zg, zh, z6, zz, zu, zf, zq, zo, z9, zD, zE, zm, zt, zA, zc, zG, zB, zl, zv, zx, zd, z2j, z2a, zS, z1E, z1q, z25, z2C, z2u, z2G, zY, z26, z2d, zT, z1p, z1D, z24, z1o, zF, z1u, zQ, z1t, z1B, zC, zX, z10, z2e, z22, z1z, z1A, z1y, zV, z11, z1v, zJ, zW, zZ]
      rw [if_pos (isTy_lst hg)]
      simp only [z1T, w_dC, z1L, z1i, z1W, z1Y, w_d2, z2o, w_d3, z2m, z1Z, z1e, z1J, z1g, z1U, z2p, z1G, z2n, z1V, z1f, z1M, z2q, z1I, z1m, z1R, z1K, z1N, z1c, zL, z1a, z1Q, z1S, zN, z1j, zP, zM, z19, z1h, z1l, z1d, zR, z16, z1O, z18, z1n, zK, z17, z15, zO, zI, z1k, z2r, z1X, z1b, zH, z1w, z2K, z1F, w_ok, z2v, z1x, z2l, z27, z1C, z2h, z23, z2g, z1s, zU, z12, z28, z2b, z2c, z20, z2k, z21, z2i, z2F, z2D, z2B, z2L, z2y, z2H, z2t, z2A, z29, z1P, z1H, z2f, z14, z1r, Int.reduceToNat, Int.reduceLE, Int.reduceLT, Int.reduceNeg, startD, List.map_cons, List.map_nil, List.length_cons, List.length_nil, List.replicate, List.cons_append, List.nil_append, List.getElem?_cons_zero, List.getElem?_cons_succ, List.set_cons_zero, List.set_cons_succ, Nat.reduceAdd, Nat.reduceSub, Nat.reduceEqDiff, if_true, if_false, Bool.false_eq_true, decide_true, decide_false, Int.reduceEq, Int.reduceAdd, Int.reduceSub, Int.reduceMul, Bool.not_true, Bool.not_false, c_0, c_1, c_2, c_3, c_4, c_5, c_6, c_7, c_8, c_9, c_10, c_11, c_12, sz_0, sz_1, sz_2, sz_3, sz_4, sz_5, sz_6, sz_7, sz_8, sz_9, z2J, z2I, z2E, z2s, z2x, z2z, z2w, Bool.true_eq_false, eq_self, za, zb, z4, z7, z5, z3, zw, zy, zi, zr, zp, z8, zn, zj, ze, zg, zh, z6, zz, zu, zf, zq, zo, z9, zD, zE, zm, zt, zA, zc, zG, zB, zl, zv, zx, zd, z2j, z2a, zS, z1E, z1q, z25, z2C, z2u, z2G, zY, z26, z2d, zT, z1p, z1D, z24, z1o, zF, z1u, zQ, z1t, z1B, zC, zX, z10, z2e, z22, z1z, z1A, z1y, zV, z11, z1v, zJ, zW, zZ]
      rw [w_appL hg (szn (by rw [List.length_map]; have := List.length_filter_le (fun m => (wid m).all fun x => !decide (x ∈ ms)) pre; omega)), hset]
      refine ⟨_, _, _, _, ?_, rfl⟩
      have e1 : [m].filter (fun m => (wid m).all fun x => !decide (x ∈ ms)) = [m] := by simp only [List.filter_cons, List.filter_nil, hb, if_true]
      rw [e1, List.map_append]
      rfl
    | false =>
      simp only [z1T, w_dC, z1L, z1i, z1W, z1Y, w_d2, z2o, w_d3, z2m, z1Z, z1e, z1J, z1g, z1U, z2p, z1G, z2n, z1V, z1f, z1M, z2q, z1I, z1m, z1R, z1K, z1N, z1c, zL, z1a, z1Q, z1S, zN, z1j, zP, zM, z19, z1h, z1l, z1d, zR, z16, z1O, z18, z1n, zK, z17, z15, zO, zI, z1k, z2r, z1X, z1b, zH, z1w, z2K, z1F, w_ok, z2v, z1x, z2l, z27, z1C, z2h, z23, z2g, z1s, zU, z12, z28, z2b, z2c, z20, z2k, z21, z2i, z2F, z2D, z2B, z2L, z2y, z2H, z2t, z2A, z29, z1P, z1H, z2f, z14, z1r, Int.reduceToNat, Int.reduceLE, Int.reduceLT, Int.reduceNeg, startD, List.map_cons, List.map_nil, List.length_cons, List.length_nil, List.replicate, List.cons_append, List.nil_append, List.getElem?_cons_zero, List.getElem?_cons_succ, List.set_cons_zero, List.set_cons_succ, Nat.reduceAdd, Nat.reduceSub, Nat.reduceEqDiff, if_true, if_false, Bool.false_eq_true, decide_true, decide_false, Int.reduceEq, Int.reduceAdd, Int.reduceSub, Int.reduceMul, Bool.not_true, Bool.not_false, c_0, c_1, c_2, c_3, c_4, c_5, c_6, c_7, c_8, c_9, c_10, c_11, c_12, sz_0, sz_1, sz_2, sz_3, sz_4, sz_5, sz_6, sz_7, sz_8, sz_9, z2J, z2I, z2E, z2s, z2x, z2z, z2w, Bool.true_eq_false, eq_self, za, zb, z4, z7, z5, z3, zw, zy, zi, zr, zp, z8, zn, zj, ze, zg, zh, z6, zz, zu, zf, zq, zo, z9, zD, zE, zm, zt, zA, zc, zG, zB, zl, zv, zx, zd, z2j, z2a, zS, z1E, z1q, z25, z2C, z2u, z2G, zY, z26, z2d, zT, z1p, z1D, z24, z1o, zF, z1u, zQ, z1t, z1B, zC, zX, z10, z2e, z22, z1z, z1A, z1y, zV, z11, z1v, zJ, zW, zZ]
      refine ⟨_, _, _, _, ?_, rfl⟩
      have e1 : [m].filter (fun m => (wid m).all fun x => !decide (x ∈ ms)) = [] := by simp only [List.filter_cons, List.filter_nil, hb, Bool.false_eq_true, if_false]
      rw [e1, List.append_nil, hS]

end Lw

namespace Lw
open PySem PySem.Spec PyProof.Rows L2 DL
theorem ft_some (m : Mk) : ft m (m.map fun o => o.getD false) = true := by
  rw [ft_iff]
  intro k hk
  unfold fk
  rw [List.getD_eq_getElem?_getD, List.getD_eq_getElem?_getD, List.getElem?_map, List.getElem?_eq_getElem hk]
  cases m[k] with
  | none => rfl
  | some b => cases b <;> rfl
theorem mks_lps {ins : Nat} {s : List Bt} : mks ins s = lps ins ((goodM ins s).filter fun m => (wid m).all fun x => !decide (x ∈ goodM ins s)) := rfl
theorem law_fewest_ok {ins : Nat} {s : List Bt} {S : Sto} (i4 : ins ≤ 4) (hsl : s.length ≤ 16) (hs4 : ∀ b ∈ s, b.length = ins) : F__law_fewest [.int ((ins : Nat) : Int), .frl (s.map sW)] S = .ok (.frl ((fs (mks ins s) s).map fun q => mW q.1)) S := by
  unfold F__law_fewest
  refine fn_ok (gd_blw (n := 1) _ (gd_frl (gd_map fun q _ => gd_W (wM_ok q.1)))) ?_
  unfold b__law_fewest
  have lb : ∀ S, F__law_beats 40 [.int ((ins : Nat) : Int)] S = .ok (.frl ((allB ins).map sW)) S := fun S => by
    have := law_beats_ok (S := S) ins (39 - ins) (by omega)
    rw [show ins + 1 + (39 - ins) = 40 by omega] at this
    exact this
  have lm : ∀ S, F__law_marks 40 [.int ((ins : Nat) : Int)] S = .ok (.frl ((allL ins).map mW)) S := fun S => by
    have := law_marks_ok (S := S) ins (39 - ins) i4
    rw [show ins + 1 + (39 - ins) = 40 by omega] at this
    exact this
  have bl : (allB ins).length ≤ 16 := by rw [allB_many]; exact pow_le i4
  have ml : (allL ins).length ≤ 81 := by
    rw [allL_many]
    exact Nat.pow_le_pow_right (n := 3) (j := 4) (by decide) i4
  have hfl : ∀ (P : Bt → Bool), ((allB ins).filter P).length ≤ 16 := fun P => Nat.le_trans (List.length_filter_le _ _) bl
  -- the beats that are none of these
  have hc1 : dFrz (dComp [9] (iVal (dCallF 1 (F__law_beats 40) (dCons (dVar 0) dNil))) (gVar 9) (d2T notInD (dVar 9) (dVar 1)) (dVar 9)) [some (.int ((ins : Nat) : Int)), some (.frl (s.map sW)), none, none, none, none, none, none, none, none] S = .ok (.frl (((allB ins).filter fun b => !decide (b ∈ s)).map sW)) S := by
    refine compF (allB ins) sW _ sW ?_ (Nat.le_trans (hfl _) (szn (by decide))) ?_ ?_
    · simp only [z1T, w_dC, z1L, z1i, z1W, z1Y, w_d2, z2o, w_d3, z2m, z1Z, z1e, z1J, z1g, z1U, z2p, z1G, z2n, z1V, z1f, z1M, z2q, z1I, z1m, z1R, z1K, z1N, z1c, zL, z1a, z1Q, z1S, zN, z1j, zP, zM, z19, z1h, z1l, z1d, zR, z16, z1O, z18, z1n, zK, z17, z15, zO, zI, z1k, z2r, z1X, z1b, zH, z1w, z2K, z1F, w_ok, z2v, z1x, z2l, z27, z1C, z2h, z23, z2g, z1s, zU, z12, z28, z2b, z2c, z20, z2k, z21, z2i, z2F, z2D, z2B, z2L, z2y, z2H, z2t, z2A, z29, z1P, z1H, z2f, z14, z1r, Int.reduceToNat, Int.reduceLE, Int.reduceLT, Int.reduceNeg, startD, List.map_cons, List.map_nil, List.length_cons, List.length_nil, List.replicate, List.cons_append, List.nil_append, List.getElem?_cons_zero, List.getElem?_cons_succ, List.set_cons_zero, List.set_cons_succ, Nat.reduceAdd, Nat.reduceSub, Nat.reduceEqDiff, if_true, if_false, Bool.false_eq_true, decide_true, decide_false, Int.reduceEq, Int.reduceAdd, Int.reduceSub, Int.reduceMul, Bool.not_true, Bool.not_false, c_0, c_1, c_2, c_3, c_4, c_5, c_6, c_7, c_8, c_9, c_10, c_11, c_12, sz_0, sz_1, sz_2, sz_3, sz_4, sz_5, sz_6, sz_7, sz_8, sz_9, z2J, z2I, z2E, z2s, z2x, z2z, z2w, Bool.true_eq_false, eq_self, za, zb, z4, z7, z5, z3, zw, zy, zi, zr, zp, z8, zn, zj, ze, zg, zh, z6, zz, zu, zf, zq, zo, z9, zD, zE, zm, zt, zA, zc, zG, zB, zl, zv, zx, zd, z2j, z2a, zS, z1E, z1q, z25, z2C, z2u, z2G, zY, z26, z2d, zT, z1p, z1D, z24, z1o, zF, z1u, zQ, z1t, z1B, zC, zX, z10, z2e, z22, z1z, z1A, z1y, zV, z11, z1v, zJ, zW, zZ, lb, itemsD]
      exact ⟨trivial, trivial, fun _ _ => rfl⟩
    · intro b _ S' _
      simp only [z1T, w_dC, z1L, z1i, z1W, z1Y, w_d2, z2o, w_d3, z2m, z1Z, z1e, z1J, z1g, z1U, z2p, z1G, z2n, z1V, z1f, z1M, z2q, z1I, z1m, z1R, z1K, z1N, z1c, zL, z1a, z1Q, z1S, zN, z1j, zP, zM, z19, z1h, z1l, z1d, zR, z16, z1O, z18, z1n, zK, z17, z15, zO, zI, z1k, z2r, z1X, z1b, zH, z1w, z2K, z1F, w_ok, z2v, z1x, z2l, z27, z1C, z2h, z23, z2g, z1s, zU, z12, z28, z2b, z2c, z20, z2k, z21, z2i, z2F, z2D, z2B, z2L, z2y, z2H, z2t, z2A, z29, z1P, z1H, z2f, z14, z1r, Int.reduceToNat, Int.reduceLE, Int.reduceLT, Int.reduceNeg, startD, List.map_cons, List.map_nil, List.length_cons, List.length_nil, List.replicate, List.cons_append, List.nil_append, List.getElem?_cons_zero, List.getElem?_cons_succ, List.set_cons_zero, List.set_cons_succ, Nat.reduceAdd, Nat.reduceSub, Nat.reduceEqDiff, if_true, if_false, Bool.false_eq_true, decide_true, decide_false, Int.reduceEq, Int.reduceAdd, Int.reduceSub, Int.reduceMul, Bool.not_true, Bool.not_false, c_0, c_1, c_2, c_3, c_4, c_5, c_6, c_7, c_8, c_9, c_10, c_11, c_12, sz_0, sz_1, sz_2, sz_3, sz_4, sz_5, sz_6, sz_7, sz_8, sz_9, z2J, z2I, z2E, z2s, z2x, z2z, z2w, Bool.true_eq_false, eq_self, za, zb, z4, z7, z5, z3, zw, zy, zi, zr, zp, z8, zn, zj, ze, zg, zh, z6, zz, zu, zf, zq, zo, z9, zD, zE, zm, zt, zA, zc, zG, zB, zl, zv, zx, zd, z2j, z2a, zS, z1E, z1q, z25, z2C, z2u, z2G, zY, z26, z2d, zT, z1p, z1D, z24, z1o, zF, z1u, zQ, z1t, z1B, zC, zX, z10, z2e, z22, z1z, z1A, z1y, zV, z11, z1v, zJ, zW, zZ, wipeD, notInD, has_btF]
      exact ⟨trivial, trivial, trivial, fun _ => ⟨trivial, trivial⟩⟩
    · intro b _ _; rfl
  -- the beats of some that a mark lets by
  have hin : ∀ (l : List Bt) (fl : Sl → Sto → Res D) (m : Mk) (sd : Sl) (S : Sto), m.length = ins → (∀ b ∈ l, b.length = ins) → l.length ≤ 16 → sd.length = 10 → sd[7]? = some (some (mW m)) → (∀ S, fl sd S = .ok (.frl (l.map sW)) S) → dFrz (dComp [9] (iVal fl) (gVar 9) (tstB (dCallF 2 F__law_lets (dCons (dVar 7) (dCons (dVar 9) dNil)))) (dVar 9)) sd S = .ok (.frl ((l.filter fun b => ft m b).map sW)) S := by
    intro l fl m sd S hm hl h16 hsd h7 hfl
    obtain ⟨x0, x1, x2, x3, x4, x5, x6, x7, x8, x9, rfl⟩ : ∃ x0 x1 x2 x3 x4 x5 x6 x7 x8 x9, sd = [x0, x1, x2, x3, x4, x5, x6, x7, x8, x9] := by
      match sd, hsd with
      | [x0, x1, x2, x3, x4, x5, x6, x7, x8, x9], _ => exact ⟨_, _, _, _, _, _, _, _, _, _, rfl⟩
    have e7 : x7 = some (mW m) := by simpa using h7
    subst e7
    refine compF l sW _ sW ?_ (Nat.le_trans (List.length_filter_le _ _) (szn (by omega))) ?_ ?_
    · simp only [z1T, w_dC, z1L, z1i, z1W, z1Y, w_d2, z2o, w_d3, z2m, z1Z, z1e, z1J, z1g, z1U, z2p, z1G, z2n, z1V, z1f, z1M, z2q, z1I, z1m, z1R, z1K, z1N, z1c, zL, z1a, z1Q, z1S, zN, z1j, zP, zM, z19, z1h, z1l, z1d, zR, z16, z1O, z18, z1n, zK, z17, z15, zO, zI, z1k, z2r, z1X, z1b, zH, z1w, z2K, z1F, w_ok, z2v, z1x, z2l, z27, z1C, z2h, z23, z2g, z1s, zU, z12, z28, z2b, z2c, z20, z2k, z21, z2i, z2F, z2D, z2B, z2L, z2y, z2H, z2t, z2A, z29, z1P, z1H, z2f, z14, z1r, Int.reduceToNat, Int.reduceLE, Int.reduceLT, Int.reduceNeg, startD, List.map_cons, List.map_nil, List.length_cons, List.length_nil, List.replicate, List.cons_append, List.nil_append, List.getElem?_cons_zero, List.getElem?_cons_succ, List.set_cons_zero, List.set_cons_succ, Nat.reduceAdd, Nat.reduceSub, Nat.reduceEqDiff, if_true, if_false, Bool.false_eq_true, decide_true, decide_false, Int.reduceEq, Int.reduceAdd, Int.reduceSub, Int.reduceMul, Bool.not_true, Bool.not_false, c_0, c_1, c_2, c_3, c_4, c_5, c_6, c_7, c_8, c_9, c_10, c_11, c_12, sz_0, sz_1, sz_2, sz_3, sz_4, sz_5, sz_6, sz_7, sz_8, sz_9, z2J, z2I, z2E, z2s, z2x, z2z, z2w, Bool.true_eq_false, eq_self, za, zb, z4, z7, z5, z3, zw, zy, zi, zr, zp, z8, zn, zj, ze, zg, zh, z6, zz, zu, zf, zq, zo, z9, zD, zE, zm, zt, zA, zc, zG, zB, zl, zv, zx, zd, z2j, z2a, zS, z1E, z1q, z25, z2C, z2u, z2G, zY, z26, z2d, zT, z1p, z1D, z24, z1o, zF, z1u, zQ, z1t, z1B, zC, zX, z10, z2e, z22, z1z, z1A, z1y, zV, z11, z1v, zJ, zW, zZ, hfl, itemsD]
      exact ⟨trivial, trivial, fun _ _ => rfl⟩
    · intro b hb S' _
      have hbl := hl b hb
      have := lets_ok (m := m) (b := b) (S := S') (by omega) (by omega)
      simp only [z1T, w_dC, z1L, z1i, z1W, z1Y, w_d2, z2o, w_d3, z2m, z1Z, z1e, z1J, z1g, z1U, z2p, z1G, z2n, z1V, z1f, z1M, z2q, z1I, z1m, z1R, z1K, z1N, z1c, zL, z1a, z1Q, z1S, zN, z1j, zP, zM, z19, z1h, z1l, z1d, zR, z16, z1O, z18, z1n, zK, z17, z15, zO, zI, z1k, z2r, z1X, z1b, zH, z1w, z2K, z1F, w_ok, z2v, z1x, z2l, z27, z1C, z2h, z23, z2g, z1s, zU, z12, z28, z2b, z2c, z20, z2k, z21, z2i, z2F, z2D, z2B, z2L, z2y, z2H, z2t, z2A, z29, z1P, z1H, z2f, z14, z1r, Int.reduceToNat, Int.reduceLE, Int.reduceLT, Int.reduceNeg, startD, List.map_cons, List.map_nil, List.length_cons, List.length_nil, List.replicate, List.cons_append, List.nil_append, List.getElem?_cons_zero, List.getElem?_cons_succ, List.set_cons_zero, List.set_cons_succ, Nat.reduceAdd, Nat.reduceSub, Nat.reduceEqDiff, if_true, if_false, Bool.false_eq_true, decide_true, decide_false, Int.reduceEq, Int.reduceAdd, Int.reduceSub, Int.reduceMul, Bool.not_true, Bool.not_false, c_0, c_1, c_2, c_3, c_4, c_5, c_6, c_7, c_8, c_9, c_10, c_11, c_12, sz_0, sz_1, sz_2, sz_3, sz_4, sz_5, sz_6, sz_7, sz_8, sz_9, z2J, z2I, z2E, z2s, z2x, z2z, z2w, Bool.true_eq_false, eq_self, za, zb, z4, z7, z5, z3, zw, zy, zi, zr, zp, z8, zn, zj, ze, zg, zh, z6, zz, zu, zf, zq, zo, z9, zD, zE, zm, zt, zA, zc, zG, zB, zl, zv, zx, zd, z2j, z2a, zS, z1E, z1q, z25, z2C, z2u, z2G, zY, z26, z2d, zT, z1p, z1D, z24, z1o, zF, z1u, zQ, z1t, z1B, zC, zX, z10, z2e, z22, z1z, z1A, z1y, zV, z11, z1v, zJ, zW, zZ, wipeD, sW, mW, this]
      exact ⟨trivial, trivial, trivial, fun _ => ⟨trivial, trivial⟩⟩
    · intro b _ _; rfl
  have h01 : ∀ b ∈ (allB ins).filter (fun b => !decide (b ∈ s)), b.length = ins := fun b hb => allB_len ins b (List.mem_filter.mp hb).1
  have hc2 : dFrz (dComp [7] (iVal (dCallF 1 (F__law_marks 40) (dCons (dVar 0) dNil))) (gVar 7) (d2T eqD (dFrz (dComp [9] (iVal (dVar 2)) (gVar 9) (tstB (dCallF 2 F__law_lets (dCons (dVar 7) (dCons (dVar 9) dNil)))) (dVar 9))) (dLstF dNil)) (dVar 7)) [some (.int ((ins : Nat) : Int)), some (.frl (s.map sW)), some (.frl (((allB ins).filter fun b => !decide (b ∈ s)).map sW)), none, none, none, none, none, none, none] S = .ok (.frl ((goodM ins s).map mW)) S := by
    have e : goodM ins s = (allL ins).filter fun m => ((allB ins).filter fun b => !decide (b ∈ s)).all fun b => !ft m b := by
      unfold goodM
      rw [← allL_eq i4]
      refine List.filter_congr fun m hm => ?_
      rw [Bool.eq_iff_iff, List.all_eq_true, List.all_eq_true]
      constructor
      · intro h b hb
        obtain ⟨b1, b2⟩ := List.mem_filter.mp hb
        cases hf : ft m b with
        | false => rfl
        | true =>
          have := of_decide_eq_true (h b ((bts_in (allB_len ins b b1)).mpr hf))
          simp [this] at b2
      · intro h b hb
        have hb' : b ∈ btsM ins m := hb
        obtain ⟨b1, b2⟩ := List.mem_filter.mp hb'
        by_cases hbs : b ∈ s
        · exact decide_eq_true hbs
        · have := h b (List.mem_filter.mpr ⟨b1, by simp [hbs]⟩)
          rw [b2] at this
          cases this
    rw [e]
    refine compF (allL ins) mW _ mW ?_ (Nat.le_trans (List.length_filter_le _ _) (szn (by omega))) ?_ ?_
    · simp only [z1T, w_dC, z1L, z1i, z1W, z1Y, w_d2, z2o, w_d3, z2m, z1Z, z1e, z1J, z1g, z1U, z2p, z1G, z2n, z1V, z1f, z1M, z2q, z1I, z1m, z1R, z1K, z1N, z1c, zL, z1a, z1Q, z1S, zN, z1j, zP, zM, z19, z1h, z1l, z1d, zR, z16, z1O, z18, z1n, zK, z17, z15, zO, zI, z1k, z2r, z1X, z1b, zH, z1w, z2K, z1F, w_ok, z2v, z1x, z2l, z27, z1C, z2h, z23, z2g, z1s, zU, z12, z28, z2b, z2c, z20, z2k, z21, z2i, z2F, z2D, z2B, z2L, z2y, z2H, z2t, z2A, z29, z1P, z1H, z2f, z14, z1r, Int.reduceToNat, Int.reduceLE, Int.reduceLT, Int.reduceNeg, startD, List.map_cons, List.map_nil, List.length_cons, List.length_nil, List.replicate, List.cons_append, List.nil_append, List.getElem?_cons_zero, List.getElem?_cons_succ, List.set_cons_zero, List.set_cons_succ, Nat.reduceAdd, Nat.reduceSub, Nat.reduceEqDiff, if_true, if_false, Bool.false_eq_true, decide_true, decide_false, Int.reduceEq, Int.reduceAdd, Int.reduceSub, Int.reduceMul, Bool.not_true, Bool.not_false, c_0, c_1, c_2, c_3, c_4, c_5, c_6, c_7, c_8, c_9, c_10, c_11, c_12, sz_0, sz_1, sz_2, sz_3, sz_4, sz_5, sz_6, sz_7, sz_8, sz_9, z2J, z2I, z2E, z2s, z2x, z2z, z2w, Bool.true_eq_false, eq_self, za, zb, z4, z7, z5, z3, zw, zy, zi, zr, zp, z8, zn, zj, ze, zg, zh, z6, zz, zu, zf, zq, zo, z9, zD, zE, zm, zt, zA, zc, zG, zB, zl, zv, zx, zd, z2j, z2a, zS, z1E, z1q, z25, z2C, z2u, z2G, zY, z26, z2d, zT, z1p, z1D, z24, z1o, zF, z1u, zQ, z1t, z1B, zC, zX, z10, z2e, z22, z1z, z1A, z1y, zV, z11, z1v, zJ, zW, zZ, lm, itemsD]
      exact ⟨trivial, trivial, fun _ _ => rfl⟩
    · intro m hm S' _
      have hml := allL_len ins hm
      have hc := hin ((allB ins).filter fun b => !decide (b ∈ s)) (dVar 2) m [some (.int ((ins : Nat) : Int)), some (.frl (s.map sW)), some (.frl (((allB ins).filter fun b => !decide (b ∈ s)).map sW)), none, none, none, none, some (mW m), none, none] S' hml h01 (hfl _) rfl rfl (fun _ => rfl)
      simp only [z1T, w_dC, z1L, z1i, z1W, z1Y, w_d2, z2o, w_d3, z2m, z1Z, z1e, z1J, z1g, z1U, z2p, z1G, z2n, z1V, z1f, z1M, z2q, z1I, z1m, z1R, z1K, z1N, z1c, zL, z1a, z1Q, z1S, zN, z1j, zP, zM, z19, z1h, z1l, z1d, zR, z16, z1O, z18, z1n, zK, z17, z15, zO, zI, z1k, z2r, z1X, z1b, zH, z1w, z2K, z1F, w_ok, z2v, z1x, z2l, z27, z1C, z2h, z23, z2g, z1s, zU, z12, z28, z2b, z2c, z20, z2k, z21, z2i, z2F, z2D, z2B, z2L, z2y, z2H, z2t, z2A, z29, z1P, z1H, z2f, z14, z1r, Int.reduceToNat, Int.reduceLE, Int.reduceLT, Int.reduceNeg, startD, List.map_cons, List.map_nil, List.length_cons, List.length_nil, List.replicate, List.cons_append, List.nil_append, List.getElem?_cons_zero, List.getElem?_cons_succ, List.set_cons_zero, List.set_cons_succ, Nat.reduceAdd, Nat.reduceSub, Nat.reduceEqDiff, if_true, if_false, Bool.false_eq_true, decide_true, decide_false, Int.reduceEq, Int.reduceAdd, Int.reduceSub, Int.reduceMul, Bool.not_true, Bool.not_false, c_0, c_1, c_2, c_3, c_4, c_5, c_6, c_7, c_8, c_9, c_10, c_11, c_12, sz_0, sz_1, sz_2, sz_3, sz_4, sz_5, sz_6, sz_7, sz_8, sz_9, z2J, z2I, z2E, z2s, z2x, z2z, z2w, Bool.true_eq_false, eq_self, za, zb, z4, z7, z5, z3, zw, zy, zi, zr, zp, z8, zn, zj, ze, zg, zh, z6, zz, zu, zf, zq, zo, z9, zD, zE, zm, zt, zA, zc, zG, zB, zl, zv, zx, zd, z2j, z2a, zS, z1E, z1q, z25, z2C, z2u, z2G, zY, z26, z2d, zT, z1p, z1D, z24, z1o, zF, z1u, zQ, z1t, z1B, zC, zX, z10, z2e, z22, z1z, z1A, z1y, zV, z11, z1v, zJ, zW, zZ, wipeD, hc]
      rw [w_eqNil (f := sW) (n := 0) fun x _ => gd_W (wB_ok x)]
      simp only [z1T, w_dC, z1L, z1i, z1W, z1Y, w_d2, z2o, w_d3, z2m, z1Z, z1e, z1J, z1g, z1U, z2p, z1G, z2n, z1V, z1f, z1M, z2q, z1I, z1m, z1R, z1K, z1N, z1c, zL, z1a, z1Q, z1S, zN, z1j, zP, zM, z19, z1h, z1l, z1d, zR, z16, z1O, z18, z1n, zK, z17, z15, zO, zI, z1k, z2r, z1X, z1b, zH, z1w, z2K, z1F, w_ok, z2v, z1x, z2l, z27, z1C, z2h, z23, z2g, z1s, zU, z12, z28, z2b, z2c, z20, z2k, z21, z2i, z2F, z2D, z2B, z2L, z2y, z2H, z2t, z2A, z29, z1P, z1H, z2f, z14, z1r, Int.reduceToNat, Int.reduceLE, Int.reduceLT, Int.reduceNeg, startD, List.map_cons, List.map_nil, List.length_cons, List.length_nil, List.replicate, List.cons_append, List.nil_append, List.getElem?_cons_zero, List.getElem?_cons_succ, List.set_cons_zero, List.set_cons_succ, Nat.reduceAdd, Nat.reduceSub, Nat.reduceEqDiff, if_true, if_false, Bool.false_eq_true, decide_true, decide_false, Int.reduceEq, Int.reduceAdd, Int.reduceSub, Int.reduceMul, Bool.not_true, Bool.not_false, c_0, c_1, c_2, c_3, c_4, c_5, c_6, c_7, c_8, c_9, c_10, c_11, c_12, sz_0, sz_1, sz_2, sz_3, sz_4, sz_5, sz_6, sz_7, sz_8, sz_9, z2J, z2I, z2E, z2s, z2x, z2z, z2w, Bool.true_eq_false, eq_self, za, zb, z4, z7, z5, z3, zw, zy, zi, zr, zp, z8, zn, zj, ze, zg, zh, z6, zz, zu, zf, zq, zo, z9, zD, zE, zm, zt, zA, zc, zG, zB, zl, zv, zx, zd, z2j, z2a, zS, z1E, z1q, z25, z2C, z2u, z2G, zY, z26, z2d, zT, z1p, z1D, z24, z1o, zF, z1u, zQ, z1t, z1B, zC, zX, z10, z2e, z22, z1z, z1A, z1y, zV, z11, z1v, zJ, zW, zZ]
      exact ⟨trivial, trivial, trivial, fun _ => ⟨trivial, trivial⟩⟩
    · intro m _ _; rfl
  have hgl : (goodM ins s).length ≤ 81 := by
    unfold goodM
    rw [← allL_eq i4]
    exact Nat.le_trans (List.length_filter_le _ _) ml
  have hg4 : ∀ m ∈ goodM ins s, m.length = ins := fun m hm => (good_iff.mp hm).1
  have hc3 : dFrz (dComp [7] (iVal (dVar 3)) (gVar 7) (d2T neD (dFrz (dComp [9] (iVal (dVar 1)) (gVar 9) (tstB (dCallF 2 F__law_lets (dCons (dVar 7) (dCons (dVar 9) dNil)))) (dVar 9))) (dLstF dNil)) (dVar 7)) [some (.int ((ins : Nat) : Int)), some (.frl (s.map sW)), some (.frl (((allB ins).filter fun b => !decide (b ∈ s)).map sW)), some (.frl ((goodM ins s).map mW)), none, none, none, none, none, none] S = .ok (.frl ((goodM ins s).map mW)) S := by
    have e : (goodM ins s).filter (fun m => !s.all fun b => !ft m b) = goodM ins s := by
      refine List.filter_eq_self.mpr fun m hm => ?_
      have hl := (good_iff.mp hm).1
      have hb := (good_iff.mp hm).2 (m.map fun o => o.getD false) (by rw [List.length_map]; exact hl) (ft_some m)
      rw [Bool.not_eq_true', List.all_eq_false]
      exact ⟨_, hb, by rw [ft_some]; simp⟩
    have := compF (vs := [7]) (fi := iVal (dVar 3)) (ga := gVar 7) (ft := d2T neD (dFrz (dComp [9] (iVal (dVar 1)) (gVar 9) (tstB (dCallF 2 F__law_lets (dCons (dVar 7) (dCons (dVar 9) dNil)))) (dVar 9))) (dLstF dNil)) (fe := dVar 7) (sd := [some (.int ((ins : Nat) : Int)), some (.frl (s.map sW)), some (.frl (((allB ins).filter fun b => !decide (b ∈ s)).map sW)), some (.frl ((goodM ins s).map mW)), none, none, none, none, none, none]) (S := S) (goodM ins s) mW (fun m => !s.all fun b => !ft m b) mW ?_ (Nat.le_trans (List.length_filter_le _ _) (szn (by omega))) ?_ ?_
    · rw [e] at this
      exact this
    · simp only [z1T, w_dC, z1L, z1i, z1W, z1Y, w_d2, z2o, w_d3, z2m, z1Z, z1e, z1J, z1g, z1U, z2p, z1G, z2n, z1V, z1f, z1M, z2q, z1I, z1m, z1R, z1K, z1N, z1c, zL, z1a, z1Q, z1S, zN, z1j, zP, zM, z19, z1h, z1l, z1d, zR, z16, z1O, z18, z1n, zK, z17, z15, zO, zI, z1k, z2r, z1X, z1b, zH, z1w, z2K, z1F, w_ok, z2v, z1x, z2l, z27, z1C, z2h, z23, z2g, z1s, zU, z12, z28, z2b, z2c, z20, z2k, z21, z2i, z2F, z2D, z2B, z2L, z2y, z2H, z2t, z2A, z29, z1P, z1H, z2f, z14, z1r, Int.reduceToNat, Int.reduceLE, Int.reduceLT, Int.reduceNeg, startD, List.map_cons, List.map_nil, List.length_cons, List.length_nil, List.replicate, List.cons_append, List.nil_append, List.getElem?_cons_zero, List.getElem?_cons_succ, List.set_cons_zero, List.set_cons_succ, Nat.reduceAdd, Nat.reduceSub, Nat.reduceEqDiff, if_true, if_false, Bool.false_eq_true, decide_true, decide_false, Int.reduceEq, Int.reduceAdd, Int.reduceSub, Int.reduceMul, Bool.not_true, Bool.not_false, c_0, c_1, c_2, c_3, c_4, c_5, c_6, c_7, c_8, c_9, c_10, c_11, c_12, sz_0, sz_1, sz_2, sz_3, sz_4, sz_5, sz_6, sz_7, sz_8, sz_9, z2J, z2I, z2E, z2s, z2x, z2z, z2w, Bool.true_eq_false, eq_self, za, zb, z4, z7, z5, z3, zw, zy, zi, zr, zp, z8, zn, zj, ze, zg, zh, z6, zz, zu, zf, zq, zo, z9, zD, zE, zm, zt, zA, zc, zG, zB, zl, zv, zx, zd, z2j, z2a, zS, z1E, z1q, z25, z2C, z2u, z2G, zY, z26, z2d, zT, z1p, z1D, z24, z1o, zF, z1u, zQ, z1t, z1B, zC, zX, z10, z2e, z22, z1z, z1A, z1y, zV, z11, z1v, zJ, zW, zZ, itemsD]
      exact ⟨trivial, trivial, fun _ _ => rfl⟩
    · intro m hm S' _
      have hml := hg4 m hm
      have hc := hin s (dVar 1) m [some (.int ((ins : Nat) : Int)), some (.frl (s.map sW)), some (.frl (((allB ins).filter fun b => !decide (b ∈ s)).map sW)), some (.frl ((goodM ins s).map mW)), none, none, none, some (mW m), none, none] S' hml hs4 hsl rfl rfl (fun _ => rfl)
      simp only [z1T, w_dC, z1L, z1i, z1W, z1Y, w_d2, z2o, w_d3, z2m, z1Z, z1e, z1J, z1g, z1U, z2p, z1G, z2n, z1V, z1f, z1M, z2q, z1I, z1m, z1R, z1K, z1N, z1c, zL, z1a, z1Q, z1S, zN, z1j, zP, zM, z19, z1h, z1l, z1d, zR, z16, z1O, z18, z1n, zK, z17, z15, zO, zI, z1k, z2r, z1X, z1b, zH, z1w, z2K, z1F, w_ok, z2v, z1x, z2l, z27, z1C, z2h, z23, z2g, z1s, zU, z12, z28, z2b, z2c, z20, z2k, z21, z2i, z2F, z2D, z2B, z2L, z2y, z2H, z2t, z2A, z29, z1P, z1H, z2f, z14, z1r, Int.reduceToNat, Int.reduceLE, Int.reduceLT, Int.reduceNeg, startD, List.map_cons, List.map_nil, List.length_cons, List.length_nil, List.replicate, List.cons_append, List.nil_append, List.getElem?_cons_zero, List.getElem?_cons_succ, List.set_cons_zero, List.set_cons_succ, Nat.reduceAdd, Nat.reduceSub, Nat.reduceEqDiff, if_true, if_false, Bool.false_eq_true, decide_true, decide_false, Int.reduceEq, Int.reduceAdd, Int.reduceSub, Int.reduceMul, Bool.not_true, Bool.not_false, c_0, c_1, c_2, c_3, c_4, c_5, c_6, c_7, c_8, c_9, c_10, c_11, c_12, sz_0, sz_1, sz_2, sz_3, sz_4, sz_5, sz_6, sz_7, sz_8, sz_9, z2J, z2I, z2E, z2s, z2x, z2z, z2w, Bool.true_eq_false, eq_self, za, zb, z4, z7, z5, z3, zw, zy, zi, zr, zp, z8, zn, zj, ze, zg, zh, z6, zz, zu, zf, zq, zo, z9, zD, zE, zm, zt, zA, zc, zG, zB, zl, zv, zx, zd, z2j, z2a, zS, z1E, z1q, z25, z2C, z2u, z2G, zY, z26, z2d, zT, z1p, z1D, z24, z1o, zF, z1u, zQ, z1t, z1B, zC, zX, z10, z2e, z22, z1z, z1A, z1y, zV, z11, z1v, zJ, zW, zZ, wipeD, hc]
      rw [w_neNil (f := sW) (n := 0) fun x _ => gd_W (wB_ok x)]
      simp only [z1T, w_dC, z1L, z1i, z1W, z1Y, w_d2, z2o, w_d3, z2m, z1Z, z1e, z1J, z1g, z1U, z2p, z1G, z2n, z1V, z1f, z1M, z2q, z1I, z1m, z1R, z1K, z1N, z1c, zL, z1a, z1Q, z1S, zN, z1j, zP, zM, z19, z1h, z1l, z1d, zR, z16, z1O, z18, z1n, zK, z17, z15, zO, zI, z1k, z2r, z1X, z1b, zH, z1w, z2K, z1F, w_ok, z2v, z1x, z2l, z27, z1C, z2h, z23, z2g, z1s, zU, z12, z28, z2b, z2c, z20, z2k, z21, z2i, z2F, z2D, z2B, z2L, z2y, z2H, z2t, z2A, z29, z1P, z1H, z2f, z14, z1r, Int.reduceToNat, Int.reduceLE, Int.reduceLT, Int.reduceNeg, startD, List.map_cons, List.map_nil, List.length_cons, List.length_nil, List.replicate, List.cons_append, List.nil_append, List.getElem?_cons_zero, List.getElem?_cons_succ, List.set_cons_zero, List.set_cons_succ, Nat.reduceAdd, Nat.reduceSub, Nat.reduceEqDiff, if_true, if_false, Bool.false_eq_true, decide_true, decide_false, Int.reduceEq, Int.reduceAdd, Int.reduceSub, Int.reduceMul, Bool.not_true, Bool.not_false, c_0, c_1, c_2, c_3, c_4, c_5, c_6, c_7, c_8, c_9, c_10, c_11, c_12, sz_0, sz_1, sz_2, sz_3, sz_4, sz_5, sz_6, sz_7, sz_8, sz_9, z2J, z2I, z2E, z2s, z2x, z2z, z2w, Bool.true_eq_false, eq_self, za, zb, z4, z7, z5, z3, zw, zy, zi, zr, zp, z8, zn, zj, ze, zg, zh, z6, zz, zu, zf, zq, zo, z9, zD, zE, zm, zt, zA, zc, zG, zB, zl, zv, zx, zd, z2j, z2a, zS, z1E, z1q, z25, z2C, z2u, z2G, zY, z26, z2d, zT, z1p, z1D, z24, z1o, zF, z1u, zQ, z1t, z1B, zC, zX, z10, z2e, z22, z1z, z1A, z1y, zV, z11, z1v, zJ, zW, zZ]
      exact ⟨trivial, trivial, trivial, fun _ => ⟨trivial, trivial⟩⟩
    · intro m _ _; rfl
  have hw := law_widest_ok (ms := goodM ins s) (S := S) (by omega) (fun m hm => by rw [hg4 m hm]; omega)
  simp only [z1T, w_dC, z1L, z1i, z1W, z1Y, w_d2, z2o, w_d3, z2m, z1Z, z1e, z1J, z1g, z1U, z2p, z1G, z2n, z1V, z1f, z1M, z2q, z1I, z1m, z1R, z1K, z1N, z1c, zL, z1a, z1Q, z1S, zN, z1j, zP, zM, z19, z1h, z1l, z1d, zR, z16, z1O, z18, z1n, zK, z17, z15, zO, zI, z1k, z2r, z1X, z1b, zH, z1w, z2K, z1F, w_ok, z2v, z1x, z2l, z27, z1C, z2h, z23, z2g, z1s, zU, z12, z28, z2b, z2c, z20, z2k, z21, z2i, z2F, z2D, z2B, z2L, z2y, z2H, z2t, z2A, z29, z1P, z1H, z2f, z14, z1r, Int.reduceToNat, Int.reduceLE, Int.reduceLT, Int.reduceNeg, startD, List.map_cons, List.map_nil, List.length_cons, List.length_nil, List.replicate, List.cons_append, List.nil_append, List.getElem?_cons_zero, List.getElem?_cons_succ, List.set_cons_zero, List.set_cons_succ, Nat.reduceAdd, Nat.reduceSub, Nat.reduceEqDiff, if_true, if_false, Bool.false_eq_true, decide_true, decide_false, Int.reduceEq, Int.reduceAdd, Int.reduceSub, Int.reduceMul, Bool.not_true, Bool.not_false, c_0, c_1, c_2, c_3, c_4, c_5, c_6, c_7, c_8, c_9, c_10, c_11, c_12, sz_0, sz_1, sz_2, sz_3, sz_4, sz_5, sz_6, sz_7, sz_8, sz_9, z2J, z2I, z2E, z2s, z2x, z2z, z2w, Bool.true_eq_false, eq_self, za, zb, z4, z7, z5, z3, zw, zy, zi, zr, zp, z8, zn, zj, ze, zg, zh, z6, zz, zu, zf, zq, zo, z9, zD, zE, zm, zt, zA, zc, zG, zB, zl, zv, zx, zd, z2j, z2a, zS, z1E, z1q, z25, z2C, z2u, z2G, zY, z26, z2d, zT, z1p, z1D, z24, z1o, zF, z1u, zQ, z1t, z1B, zC, zX, z10, z2e, z22, z1z, z1A, z1y, zV, z11, z1v, zJ, zW, zZ, hc1]
  simp only [z1T, w_dC, z1L, z1i, z1W, z1Y, w_d2, z2o, w_d3, z2m, z1Z, z1e, z1J, z1g, z1U, z2p, z1G, z2n, z1V, z1f, z1M, z2q, z1I, z1m, z1R, z1K, z1N, z1c, zL, z1a, z1Q, z1S, zN, z1j, zP, zM, z19, z1h, z1l, z1d, zR, z16, z1O, z18, z1n, zK, z17, z15, zO, zI, z1k, z2r, z1X, z1b, zH, z1w, z2K, z1F, w_ok, z2v, z1x, z2l, z27, z1C, z2h, z23, z2g, z1s, zU, z12, z28, z2b, z2c, z20, z2k, z21, z2i, z2F, z2D, z2B, z2L, z2y, z2H, z2t, z2A, z29, z1P, z1H, z2f, z14, z1r, Int.reduceToNat, Int.reduceLE, Int.reduceLT, Int.reduceNeg, startD, List.map_cons, List.map_nil, List.length_cons, List.length_nil, List.replicate, List.cons_append, List.nil_append, List.getElem?_cons_zero, List.getElem?_cons_succ, List.set_cons_zero, List.set_cons_succ, Nat.reduceAdd, Nat.reduceSub, Nat.reduceEqDiff, if_true, if_false, Bool.false_eq_true, decide_true, decide_false, Int.reduceEq, Int.reduceAdd, Int.reduceSub, Int.reduceMul, Bool.not_true, Bool.not_false, c_0, c_1, c_2, c_3, c_4, c_5, c_6, c_7, c_8, c_9, c_10, c_11, c_12, sz_0, sz_1, sz_2, sz_3, sz_4, sz_5, sz_6, sz_7, sz_8, sz_9, z2J, z2I, z2E, z2s, z2x, z2z, z2w, Bool.true_eq_false, eq_self, za, zb, z4, z7, z5, z3, zw, zy, zi, zr, zp, z8, zn, zj, ze, zg, zh, z6, zz, zu, zf, zq, zo, z9, zD, zE, zm, zt, zA, zc, zG, zB, zl, zv, zx, zd, z2j, z2a, zS, z1E, z1q, z25, z2C, z2u, z2G, zY, z26, z2d, zT, z1p, z1D, z24, z1o, zF, z1u, zQ, z1t, z1B, zC, zX, z10, z2e, z22, z1z, z1A, z1y, zV, z11, z1v, zJ, zW, zZ, hc2]
  simp only [z1T, w_dC, z1L, z1i, z1W, z1Y, w_d2, z2o, w_d3, z2m, z1Z, z1e, z1J, z1g, z1U, z2p, z1G, z2n, z1V, z1f, z1M, z2q, z1I, z1m, z1R, z1K, z1N, z1c, zL, z1a, z1Q, z1S, zN, z1j, zP, zM, z19, z1h, z1l, z1d, zR, z16, z1O, z18, z1n, zK, z17, z15, zO, zI, z1k, z2r, z1X, z1b, zH, z1w, z2K, z1F, w_ok, z2v, z1x, z2l, z27, z1C, z2h, z23, z2g, z1s, zU, z12, z28, z2b, z2c, z20, z2k, z21, z2i, z2F, z2D, z2B, z2L, z2y, z2H, z2t, z2A, z29, z1P, z1H, z2f, z14, z1r, Int.reduceToNat, Int.reduceLE, Int.reduceLT, Int.reduceNeg, startD, List.map_cons, List.map_nil, List.length_cons, List.length_nil, List.replicate, List.cons_append, List.nil_append, List.getElem?_cons_zero, List.getElem?_cons_succ, List.set_cons_zero, List.set_cons_succ, Nat.reduceAdd, Nat.reduceSub, Nat.reduceEqDiff, if_true, if_false, Bool.false_eq_true, decide_true, decide_false, Int.reduceEq, Int.reduceAdd, Int.reduceSub, Int.reduceMul, Bool.not_true, Bool.not_false, c_0, c_1, c_2, c_3, c_4, c_5, c_6, c_7, c_8, c_9, c_10, c_11, c_12, sz_0, sz_1, sz_2, sz_3, sz_4, sz_5, sz_6, sz_7, sz_8, sz_9, z2J, z2I, z2E, z2s, z2x, z2z, z2w, Bool.true_eq_false, eq_self, za, zb, z4, z7, z5, z3, zw, zy, zi, zr, zp, z8, zn, zj, ze, zg, zh, z6, zz, zu, zf, zq, zo, z9, zD, zE, zm, zt, zA, zc, zG, zB, zl, zv, zx, zd, z2j, z2a, zS, z1E, z1q, z25, z2C, z2u, z2G, zY, z26, z2d, zT, z1p, z1D, z24, z1o, zF, z1u, zQ, z1t, z1B, zC, zX, z10, z2e, z22, z1z, z1A, z1y, zV, z11, z1v, zJ, zW, zZ, hc3, hw]
  rw [mks_lps]
  have hcov : Cov (lps ins ((goodM ins s).filter fun m => (wid m).all fun x => !decide (x ∈ goodM ins s))) s := by
    rw [← mks_lps]
    exact cov_mks hs4
  have hM4 : ∀ m ∈ (goodM ins s).filter (fun m => (wid m).all fun x => !decide (x ∈ goodM ins s)), m.length = ins := fun m hm => hg4 m (List.mem_filter.mp hm).1
  have hMl : ((goodM ins s).filter fun m => (wid m).all fun x => !decide (x ∈ goodM ins s)).length ≤ 81 := Nat.le_trans (List.length_filter_le _ _) hgl
  generalize (goodM ins s).filter (fun m => (wid m).all fun x => !decide (x ∈ goodM ins s)) = M at hcov hM4 hMl ⊢
  rw [show dDispN0 = fun _ S => .ok (.ref S.length) (S ++ [.dic 2 []]) from rfl]
  simp only [z1T, w_dC, z1L, z1i, z1W, z1Y, w_d2, z2o, w_d3, z2m, z1Z, z1e, z1J, z1g, z1U, z2p, z1G, z2n, z1V, z1f, z1M, z2q, z1I, z1m, z1R, z1K, z1N, z1c, zL, z1a, z1Q, z1S, zN, z1j, zP, zM, z19, z1h, z1l, z1d, zR, z16, z1O, z18, z1n, zK, z17, z15, zO, zI, z1k, z2r, z1X, z1b, zH, z1w, z2K, z1F, w_ok, z2v, z1x, z2l, z27, z1C, z2h, z23, z2g, z1s, zU, z12, z28, z2b, z2c, z20, z2k, z21, z2i, z2F, z2D, z2B, z2L, z2y, z2H, z2t, z2A, z29, z1P, z1H, z2f, z14, z1r, Int.reduceToNat, Int.reduceLE, Int.reduceLT, Int.reduceNeg, startD, List.map_cons, List.map_nil, List.length_cons, List.length_nil, List.replicate, List.cons_append, List.nil_append, List.getElem?_cons_zero, List.getElem?_cons_succ, List.set_cons_zero, List.set_cons_succ, Nat.reduceAdd, Nat.reduceSub, Nat.reduceEqDiff, if_true, if_false, Bool.false_eq_true, decide_true, decide_false, Int.reduceEq, Int.reduceAdd, Int.reduceSub, Int.reduceMul, Bool.not_true, Bool.not_false, c_0, c_1, c_2, c_3, c_4, c_5, c_6, c_7, c_8, c_9, c_10, c_11, c_12, sz_0, sz_1, sz_2, sz_3, sz_4, sz_5, sz_6, sz_7, sz_8, sz_9, z2J, z2I, z2E, z2s, z2x, z2z, z2w, Bool.true_eq_false, eq_self, za, zb, z4, z7, z5, z3, zw, zy, zi, zr, zp, z8, zn, zj, ze, zg, zh, z6, zz, zu, zf, zq, zo, z9, zD, zE, zm, zt, zA, zc, zG, zB, zl, zv, zx, zd, z2j, z2a, zS, z1E, z1q, z25, z2C, z2u, z2G, zY, z26, z2d, zT, z1p, z1D, z24, z1o, zF, z1u, zQ, z1t, z1B, zC, zX, z10, z2e, z22, z1z, z1A, z1y, zV, z11, z1v, zJ, zW, zZ]
  rw [w_tupF]
  simp only [z1T, w_dC, z1L, z1i, z1W, z1Y, w_d2, z2o, w_d3, z2m, z1Z, z1e, z1J, z1g, z1U, z2p, z1G, z2n, z1V, z1f, z1M, z2q, z1I, z1m, z1R, z1K, z1N, z1c, zL, z1a, z1Q, z1S, zN, z1j, zP, zM, z19, z1h, z1l, z1d, zR, z16, z1O, z18, z1n, zK, z17, z15, zO, zI, z1k, z2r, z1X, z1b, zH, z1w, z2K, z1F, w_ok, z2v, z1x, z2l, z27, z1C, z2h, z23, z2g, z1s, zU, z12, z28, z2b, z2c, z20, z2k, z21, z2i, z2F, z2D, z2B, z2L, z2y, z2H, z2t, z2A, z29, z1P, z1H, z2f, z14, z1r, Int.reduceToNat, Int.reduceLE, Int.reduceLT, Int.reduceNeg, startD, List.map_cons, List.map_nil, List.length_cons, List.length_nil, List.replicate, List.cons_append, List.nil_append, List.getElem?_cons_zero, List.getElem?_cons_succ, List.set_cons_zero, List.set_cons_succ, Nat.reduceAdd, Nat.reduceSub, Nat.reduceEqDiff, if_true, if_false, Bool.false_eq_true, decide_true, decide_false, Int.reduceEq, Int.reduceAdd, Int.reduceSub, Int.reduceMul, Bool.not_true, Bool.not_false, c_0, c_1, c_2, c_3, c_4, c_5, c_6, c_7, c_8, c_9, c_10, c_11, c_12, sz_0, sz_1, sz_2, sz_3, sz_4, sz_5, sz_6, sz_7, sz_8, sz_9, z2J, z2I, z2E, z2s, z2x, z2z, z2w, Bool.true_eq_false, eq_self, za, zb, z4, z7, z5, z3, zw, zy, zi, zr, zp, z8, zn, zj, ze, zg, zh, z6, zz, zu, zf, zq, zo, z9, zD, zE, zm, zt, zA, zc, zG, zB, zl, zv, zx, zd, z2j, z2a, zS, z1E, z1q, z25, z2C, z2u, z2G, zY, z26, z2d, zT, z1p, z1D, z24, z1o, zF, z1u, zQ, z1t, z1B, zC, zX, z10, z2e, z22, z1z, z1A, z1y, zV, z11, z1v, zJ, zW, zZ, itemsD]
  have hl0 : (S ++ [DO.dic 2 []]).length = S.length + 1 := by simp
  rw [hl0]
  refine w_loopP mW (fun pre sd S' => ∃ (kn : List (List Bt × D)) (out : List Pk) (rest : List Bt) (a7 a8 a9 : Option D), S' = S ++ [.dic 2 (kvE rsD kn), .lst (out.map fun q => mW q.1)] ∧ KL (lps ins M) s kn ∧ Once (lps ins M) s (lps ins pre) out rest ∧ out.length ≤ pre.length ∧ sd = [some (.int ((ins : Nat) : Int)), some (.frl (s.map sW)), some (.frl (((allB ins).filter fun b => !decide (b ∈ s)).map sW)), some (.frl (M.map mW)), some (.ref S.length), some (.ref (S.length + 1)), some (rsD rest), a7, a8, a9]) M (fun _ _ _ _ _ _ => rfl) ⟨[], [], s, _, _, _, by simp [kvE], ⟨fun p hp => (by cases hp), by simp⟩, ⟨List.Sublist.refl _, rfl, fun x hx => (by cases hx)⟩, Nat.le_refl _, rfl⟩ ?_ ?_
  · rintro sd S' ⟨kn, out, rest, a7, a8, a9, rfl, K, O, _, rfl⟩
    simp only [z1T, w_dC, z1L, z1i, z1W, z1Y, w_d2, z2o, w_d3, z2m, z1Z, z1e, z1J, z1g, z1U, z2p, z1G, z2n, z1V, z1f, z1M, z2q, z1I, z1m, z1R, z1K, z1N, z1c, zL, z1a, z1Q, z1S, zN, z1j, zP, zM, z19, z1h, z1l, z1d, zR, z16, z1O, z18, z1n, zK, z17, z15, zO, zI, z1k, z2r, z1X, z1b, zH, z1w, z2K, z1F, w_ok, z2v, z1x, z2l, z27, z1C, z2h, z23, z2g, z1s, zU, z12, z28, z2b, z2c, z20, z2k, z21, z2i, z2F, z2D, z2B, z2L, z2y, z2H, z2t, z2A, z29, z1P, z1H, z2f, z14, z1r, Int.reduceToNat, Int.reduceLE, Int.reduceLT, Int.reduceNeg, startD, List.map_cons, List.map_nil, List.length_cons, List.length_nil, List.replicate, List.cons_append, List.nil_append, List.getElem?_cons_zero, List.getElem?_cons_succ, List.set_cons_zero, List.set_cons_succ, Nat.reduceAdd, Nat.reduceSub, Nat.reduceEqDiff, if_true, if_false, Bool.false_eq_true, decide_true, decide_false, Int.reduceEq, Int.reduceAdd, Int.reduceSub, Int.reduceMul, Bool.not_true, Bool.not_false, c_0, c_1, c_2, c_3, c_4, c_5, c_6, c_7, c_8, c_9, c_10, c_11, c_12, sz_0, sz_1, sz_2, sz_3, sz_4, sz_5, sz_6, sz_7, sz_8, sz_9, z2J, z2I, z2E, z2s, z2x, z2z, z2w, Bool.true_eq_false, eq_self, za, zb, z4, z7, z5, z3, zw, zy, zi, zr, zp, z8, zn, zj, ze, zg, zh, z6, zz, zu, zf, zq, zo, z9, zD, zE, zm, zt, zA, zc, zG, zB, zl, zv, zx, zd, z2j, z2a, zS, z1E, z1q, z25, z2C, z2u, z2G, zY, z26, z2d, zT, z1p, z1D, z24, z1o, zF, z1u, zQ, z1t, z1B, zC, zX, z10, z2e, z22, z1z, z1A, z1y, zV, z11, z1v, zJ, zW, zZ, w_dFrz]
    rw [frz_at (show (S ++ [DO.dic 2 (kvE rsD kn), DO.lst (out.map fun q => mW q.1)])[S.length + 1]? = some (.lst (out.map fun q => mW q.1)) by
      rw [List.getElem?_append_right (by omega), Nat.add_sub_cancel_left]
      rfl)]
    simp only [z1T, w_dC, z1L, z1i, z1W, z1Y, w_d2, z2o, w_d3, z2m, z1Z, z1e, z1J, z1g, z1U, z2p, z1G, z2n, z1V, z1f, z1M, z2q, z1I, z1m, z1R, z1K, z1N, z1c, zL, z1a, z1Q, z1S, zN, z1j, zP, zM, z19, z1h, z1l, z1d, zR, z16, z1O, z18, z1n, zK, z17, z15, zO, zI, z1k, z2r, z1X, z1b, zH, z1w, z2K, z1F, w_ok, z2v, z1x, z2l, z27, z1C, z2h, z23, z2g, z1s, zU, z12, z28, z2b, z2c, z20, z2k, z21, z2i, z2F, z2D, z2B, z2L, z2y, z2H, z2t, z2A, z29, z1P, z1H, z2f, z14, z1r, Int.reduceToNat, Int.reduceLE, Int.reduceLT, Int.reduceNeg, startD, List.map_cons, List.map_nil, List.length_cons, List.length_nil, List.replicate, List.cons_append, List.nil_append, List.getElem?_cons_zero, List.getElem?_cons_succ, List.set_cons_zero, List.set_cons_succ, Nat.reduceAdd, Nat.reduceSub, Nat.reduceEqDiff, if_true, if_false, Bool.false_eq_true, decide_true, decide_false, Int.reduceEq, Int.reduceAdd, Int.reduceSub, Int.reduceMul, Bool.not_true, Bool.not_false, c_0, c_1, c_2, c_3, c_4, c_5, c_6, c_7, c_8, c_9, c_10, c_11, c_12, sz_0, sz_1, sz_2, sz_3, sz_4, sz_5, sz_6, sz_7, sz_8, sz_9, z2J, z2I, z2E, z2s, z2x, z2z, z2w, Bool.true_eq_false, eq_self, za, zb, z4, z7, z5, z3, zw, zy, zi, zr, zp, z8, zn, zj, ze, zg, zh, z6, zz, zu, zf, zq, zo, z9, zD, zE, zm, zt, zA, zc, zG, zB, zl, zv, zx, zd, z2j, z2a, zS, z1E, z1q, z25, z2C, z2u, z2G, zY, z26, z2d, zT, z1p, z1D, z24, z1o, zF, z1u, zQ, z1t, z1B, zC, zX, z10, z2e, z22, z1z, z1A, z1y, zV, z11, z1v, zJ, zW, zZ]
    refine ⟨by rw [O.fin hcov], [DO.dic 2 (kvE rsD kn), .dead], ?_⟩
    rw [List.set_append_right _ _ (by omega), Nat.add_sub_cancel_left]
    rfl
  · rintro pre m post sd S' epp ⟨kn, out, rest, a7, a8, a9, rfl, K, O, hol, rfl⟩
    have hmm : m ∈ M := by rw [epp]; simp
    have hml := hM4 m hmm
    have hr4 : ∀ b ∈ rest, b.length = ins := fun b hb => hs4 b (O.sub.subset hb)
    have hrl : rest.length ≤ 16 := by have := O.sub.length_le; omega
    have hpl : pre.length ≤ 81 := by
      have := congrArg List.length epp
      simp at this
      omega
    generalize hS : S ++ [DO.dic 2 (kvE rsD kn), DO.lst (out.map fun q => mW q.1)] = S1
    have hcomp : dFrz (dComp [9] (iVal (dVar 6)) (gVar 9) (tNotD (tstB (dCallF 2 F__law_lets (dCons (dVar 7) (dCons (dVar 9) dNil))))) (dVar 9)) [some (.int ((ins : Nat) : Int)), some (.frl (s.map sW)), some (.frl (((allB ins).filter fun b => !decide (b ∈ s)).map sW)), some (.frl (M.map mW)), some (.ref S.length), some (.ref (S.length + 1)), some (rsD rest), some (mW m), a8, a9] S1 = .ok (.frl ((lft rest (btsM ins m)).map sW)) S1 := by
      rw [lft_bts hr4]
      refine compF rest sW _ sW ?_ (Nat.le_trans (List.length_filter_le _ _) (szn (by omega))) ?_ ?_
      · simp only [z1T, w_dC, z1L, z1i, z1W, z1Y, w_d2, z2o, w_d3, z2m, z1Z, z1e, z1J, z1g, z1U, z2p, z1G, z2n, z1V, z1f, z1M, z2q, z1I, z1m, z1R, z1K, z1N, z1c, zL, z1a, z1Q, z1S, zN, z1j, zP, zM, z19, z1h, z1l, z1d, zR, z16, z1O, z18, z1n, zK, z17, z15, zO, zI, z1k, z2r, z1X, z1b, zH, z1w, z2K, z1F, w_ok, z2v, z1x, z2l, z27, z1C, z2h, z23, z2g, z1s, zU, z12, z28, z2b, z2c, z20, z2k, z21, z2i, z2F, z2D, z2B, z2L, z2y, z2H, z2t, z2A, z29, z1P, z1H, z2f, z14, z1r, Int.reduceToNat, Int.reduceLE, Int.reduceLT, Int.reduceNeg, startD, List.map_cons, List.map_nil, List.length_cons, List.length_nil, List.replicate, List.cons_append, List.nil_append, List.getElem?_cons_zero, List.getElem?_cons_succ, List.set_cons_zero, List.set_cons_succ, Nat.reduceAdd, Nat.reduceSub, Nat.reduceEqDiff, if_true, if_false, Bool.false_eq_true, decide_true, decide_false, Int.reduceEq, Int.reduceAdd, Int.reduceSub, Int.reduceMul, Bool.not_true, Bool.not_false, c_0, c_1, c_2, c_3, c_4, c_5, c_6, c_7, c_8, c_9, c_10, c_11, c_12, sz_0, sz_1, sz_2, sz_3, sz_4, sz_5, sz_6, sz_7, sz_8, sz_9, z2J, z2I, z2E, z2s, z2x, z2z, z2w, Bool.true_eq_false, eq_self, za, zb, z4, z7, z5, z3, zw, zy, zi, zr, zp, z8, zn, zj, ze, zg, zh, z6, zz, zu, zf, zq, zo, z9, zD, zE, zm, zt, zA, zc, zG, zB, zl, zv, zx, zd, z2j, z2a, zS, z1E, z1q, z25, z2C, z2u, z2G, zY, z26, z2d, zT, z1p, z1D, z24, z1o, zF, z1u, zQ, z1t, z1B, zC, zX, z10, z2e, z22, z1z, z1A, z1y, zV, z11, z1v, zJ, zW, zZ, rsD, itemsD]
        exact ⟨trivial, trivial, fun _ _ => rfl⟩
      · intro c hcb S' _
        have hcl := hr4 c hcb
        have := lets_ok (m := m) (b := c) (S := S') (by omega) (by omega)
        simp only [z1T, w_dC, z1L, z1i, z1W, z1Y, w_d2, z2o, w_d3, z2m, z1Z, z1e, z1J, z1g, z1U, z2p, z1G, z2n, z1V, z1f, z1M, z2q, z1I, z1m, z1R, z1K, z1N, z1c, zL, z1a, z1Q, z1S, zN, z1j, zP, zM, z19, z1h, z1l, z1d, zR, z16, z1O, z18, z1n, zK, z17, z15, zO, zI, z1k, z2r, z1X, z1b, zH, z1w, z2K, z1F, w_ok, z2v, z1x, z2l, z27, z1C, z2h, z23, z2g, z1s, zU, z12, z28, z2b, z2c, z20, z2k, z21, z2i, z2F, z2D, z2B, z2L, z2y, z2H, z2t, z2A, z29, z1P, z1H, z2f, z14, z1r, Int.reduceToNat, Int.reduceLE, Int.reduceLT, Int.reduceNeg, startD, List.map_cons, List.map_nil, List.length_cons, List.length_nil, List.replicate, List.cons_append, List.nil_append, List.getElem?_cons_zero, List.getElem?_cons_succ, List.set_cons_zero, List.set_cons_succ, Nat.reduceAdd, Nat.reduceSub, Nat.reduceEqDiff, if_true, if_false, Bool.false_eq_true, decide_true, decide_false, Int.reduceEq, Int.reduceAdd, Int.reduceSub, Int.reduceMul, Bool.not_true, Bool.not_false, c_0, c_1, c_2, c_3, c_4, c_5, c_6, c_7, c_8, c_9, c_10, c_11, c_12, sz_0, sz_1, sz_2, sz_3, sz_4, sz_5, sz_6, sz_7, sz_8, sz_9, z2J, z2I, z2E, z2s, z2x, z2z, z2w, Bool.true_eq_false, eq_self, za, zb, z4, z7, z5, z3, zw, zy, zi, zr, zp, z8, zn, zj, ze, zg, zh, z6, zz, zu, zf, zq, zo, z9, zD, zE, zm, zt, zA, zc, zG, zB, zl, zv, zx, zd, z2j, z2a, zS, z1E, z1q, z25, z2C, z2u, z2G, zY, z26, z2d, zT, z1p, z1D, z24, z1o, zF, z1u, zQ, z1t, z1B, zC, zX, z10, z2e, z22, z1z, z1A, z1y, zV, z11, z1v, zJ, zW, zZ, wipeD, sW, mW, this]
        exact ⟨trivial, trivial, trivial, fun _ => ⟨trivial, trivial⟩⟩
      · intro c _ _; rfl
    have len_rs : ∀ (r : List Bt) (S : Sto), lenD [rsD r] S = .ok (.int ((r.length : Nat) : Int)) S := fun r S => by
      show Res.ok (D.int (((r.map sW).length : Nat) : Int)) S = _
      rw [List.length_map]
    have ers : ∀ r : List Bt, D.tup (r.map sW) = rsD r := fun r => rfl
    have el : ∀ pre : List Mk, lps ins (pre ++ [m]) = lps ins pre ++ [(m, btsM ins m)] := fun pre => by simp [lps]
    have eps : lps ins M = lps ins pre ++ (m, btsM ins m) :: lps ins post := by rw [epp]; simp [lps]
    simp only [z1T, w_dC, z1L, z1i, z1W, z1Y, w_d2, z2o, w_d3, z2m, z1Z, z1e, z1J, z1g, z1U, z2p, z1G, z2n, z1V, z1f, z1M, z2q, z1I, z1m, z1R, z1K, z1N, z1c, zL, z1a, z1Q, z1S, zN, z1j, zP, zM, z19, z1h, z1l, z1d, zR, z16, z1O, z18, z1n, zK, z17, z15, zO, zI, z1k, z2r, z1X, z1b, zH, z1w, z2K, z1F, w_ok, z2v, z1x, z2l, z27, z1C, z2h, z23, z2g, z1s, zU, z12, z28, z2b, z2c, z20, z2k, z21, z2i, z2F, z2D, z2B, z2L, z2y, z2H, z2t, z2A, z29, z1P, z1H, z2f, z14, z1r, Int.reduceToNat, Int.reduceLE, Int.reduceLT, Int.reduceNeg, startD, List.map_cons, List.map_nil, List.length_cons, List.length_nil, List.replicate, List.cons_append, List.nil_append, List.getElem?_cons_zero, List.getElem?_cons_succ, List.set_cons_zero, List.set_cons_succ, Nat.reduceAdd, Nat.reduceSub, Nat.reduceEqDiff, if_true, if_false, Bool.false_eq_true, decide_true, decide_false, Int.reduceEq, Int.reduceAdd, Int.reduceSub, Int.reduceMul, Bool.not_true, Bool.not_false, c_0, c_1, c_2, c_3, c_4, c_5, c_6, c_7, c_8, c_9, c_10, c_11, c_12, sz_0, sz_1, sz_2, sz_3, sz_4, sz_5, sz_6, sz_7, sz_8, sz_9, z2J, z2I, z2E, z2s, z2x, z2z, z2w, Bool.true_eq_false, eq_self, za, zb, z4, z7, z5, z3, zw, zy, zi, zr, zp, z8, zn, zj, ze, zg, zh, z6, zz, zu, zf, zq, zo, z9, zD, zE, zm, zt, zA, zc, zG, zB, zl, zv, zx, zd, z2j, z2a, zS, z1E, z1q, z25, z2C, z2u, z2G, zY, z26, z2d, zT, z1p, z1D, z24, z1o, zF, z1u, zQ, z1t, z1B, zC, zX, z10, z2e, z22, z1z, z1A, z1y, zV, z11, z1v, zJ, zW, zZ, hcomp]
    rw [w_tupF]
    simp only [z1T, w_dC, z1L, z1i, z1W, z1Y, w_d2, z2o, w_d3, z2m, z1Z, z1e, z1J, z1g, z1U, z2p, z1G, z2n, z1V, z1f, z1M, z2q, z1I, z1m, z1R, z1K, z1N, z1c, zL, z1a, z1Q, z1S, zN, z1j, zP, zM, z19, z1h, z1l, z1d, zR, z16, z1O, z18, z1n, zK, z17, z15, zO, zI, z1k, z2r, z1X, z1b, zH, z1w, z2K, z1F, w_ok, z2v, z1x, z2l, z27, z1C, z2h, z23, z2g, z1s, zU, z12, z28, z2b, z2c, z20, z2k, z21, z2i, z2F, z2D, z2B, z2L, z2y, z2H, z2t, z2A, z29, z1P, z1H, z2f, z14, z1r, Int.reduceToNat, Int.reduceLE, Int.reduceLT, Int.reduceNeg, startD, List.map_cons, List.map_nil, List.length_cons, List.length_nil, List.replicate, List.cons_append, List.nil_append, List.getElem?_cons_zero, List.getElem?_cons_succ, List.set_cons_zero, List.set_cons_succ, Nat.reduceAdd, Nat.reduceSub, Nat.reduceEqDiff, if_true, if_false, Bool.false_eq_true, decide_true, decide_false, Int.reduceEq, Int.reduceAdd, Int.reduceSub, Int.reduceMul, Bool.not_true, Bool.not_false, c_0, c_1, c_2, c_3, c_4, c_5, c_6, c_7, c_8, c_9, c_10, c_11, c_12, sz_0, sz_1, sz_2, sz_3, sz_4, sz_5, sz_6, sz_7, sz_8, sz_9, z2J, z2I, z2E, z2s, z2x, z2z, z2w, Bool.true_eq_false, eq_self, za, zb, z4, z7, z5, z3, zw, zy, zi, zr, zp, z8, zn, zj, ze, zg, zh, z6, zz, zu, zf, zq, zo, z9, zD, zE, zm, zt, zA, zc, zG, zB, zl, zv, zx, zd, z2j, z2a, zS, z1E, z1q, z25, z2C, z2u, z2G, zY, z26, z2d, zT, z1p, z1D, z24, z1o, zF, z1u, zQ, z1t, z1B, zC, zX, z10, z2e, z22, z1z, z1A, z1y, zV, z11, z1v, zJ, zW, zZ, ers, len_rs]
    by_cases h1 : (lft rest (btsM ins m)).length < rest.length
    · have h1' : (((lft rest (btsM ins m)).length : Nat) : Int) < ((rest.length : Nat) : Int) := by omega
      have gk : ∀ (kn : List (List Bt × D)) (L : DO), (S ++ [DO.dic 2 (kvE rsD kn), L])[S.length]? = some (.dic 2 (kvE rsD kn)) := fun kn L => by
        rw [List.getElem?_append_right (Nat.le_refl _), Nat.sub_self]
        rfl
      have sk : ∀ (kn kn2 : List (List Bt × D)) (L : DO), (S ++ [DO.dic 2 (kvE rsD kn), L]).set S.length (.dic 2 (kvE rsD kn2)) = S ++ [DO.dic 2 (kvE rsD kn2), L] := fun kn kn2 L => by
        rw [List.set_append_right _ _ (Nat.le_refl _), Nat.sub_self]
        rfl
      obtain ⟨kn2, e2, K2, _⟩ := law_many_ok i4 hsl hs4 hM4 hcov 40 (rest := lft rest (btsM ins m)) (kn := kn) (k := S.length) (S := S1) (by omega) (lft_sub O.sub) K (by rw [← hS]; exact gk _ _)
      rw [← hS, sk] at e2
      obtain ⟨kn3, e3, K3, _⟩ := law_many_ok i4 hsl hs4 hM4 hcov 40 (rest := rest) (kn := kn2) (k := S.length) (S := S ++ [DO.dic 2 (kvE rsD kn2), DO.lst (out.map fun q => mW q.1)]) (by omega) O.sub K2 (gk _ _)
      rw [sk] at e3
      rw [← hS]
      simp only [decide_eq_true h1', z1T, w_dC, z1L, z1i, z1W, z1Y, w_d2, z2o, w_d3, z2m, z1Z, z1e, z1J, z1g, z1U, z2p, z1G, z2n, z1V, z1f, z1M, z2q, z1I, z1m, z1R, z1K, z1N, z1c, zL, z1a, z1Q, z1S, zN, z1j, zP, zM, z19, z1h, z1l, z1d, zR, z16, z1O, z18, z1n, zK, z17, z15, zO, zI, z1k, z2r, z1X, z1b, zH, z1w, z2K, z1F, w_ok, z2v, z1x, z2l, z27, z1C, z2h, z23, z2g, z1s, zU, z12, z28, z2b, z2c, z20, z2k, z21, z2i, z2F, z2D, z2B, z2L, z2y, z2H, z2t, z2A, z29, z1P, z1H, z2f, z14, z1r, Int.reduceToNat, Int.reduceLE, Int.reduceLT, Int.reduceNeg, startD, List.map_cons, List.map_nil, List.length_cons, List.length_nil, List.replicate, List.cons_append, List.nil_append, List.getElem?_cons_zero, List.getElem?_cons_succ, List.set_cons_zero, List.set_cons_succ, Nat.reduceAdd, Nat.reduceSub, Nat.reduceEqDiff, if_true, if_false, Bool.false_eq_true, decide_true, decide_false, Int.reduceEq, Int.reduceAdd, Int.reduceSub, Int.reduceMul, Bool.not_true, Bool.not_false, c_0, c_1, c_2, c_3, c_4, c_5, c_6, c_7, c_8, c_9, c_10, c_11, c_12, sz_0, sz_1, sz_2, sz_3, sz_4, sz_5, sz_6, sz_7, sz_8, sz_9, z2J, z2I, z2E, z2s, z2x, z2z, z2w, Bool.true_eq_false, eq_self, za, zb, z4, z7, z5, z3, zw, zy, zi, zr, zp, z8, zn, zj, ze, zg, zh, z6, zz, zu, zf, zq, zo, z9, zD, zE, zm, zt, zA, zc, zG, zB, zl, zv, zx, zd, z2j, z2a, zS, z1E, z1q, z25, z2C, z2u, z2G, zY, z26, z2d, zT, z1p, z1D, z24, z1o, zF, z1u, zQ, z1t, z1B, zC, zX, z10, z2e, z22, z1z, z1A, z1y, zV, z11, z1v, zJ, zW, zZ, e2, e3]
      have gl : (S ++ [DO.dic 2 (kvE rsD kn3), DO.lst (out.map fun q => mW q.1)])[S.length + 1]? = some (.lst (out.map fun q => mW q.1)) := by
        rw [List.getElem?_append_right (by omega), Nat.add_sub_cancel_left]
        rfl
      by_cases h2 : 1 + mn (lps ins M) (lft rest (btsM ins m)) = mn (lps ins M) rest
      · have h2' : (1 : Int) + ((mn (lps ins M) (lft rest (btsM ins m)) : Nat) : Int) = ((mn (lps ins M) rest : Nat) : Int) := by omega
        have hok : okP (lps ins M) rest (m, btsM ins m) = true := by
          unfold okP
          rw [decide_eq_true h1, decide_eq_true h2]
          rfl
        simp only [decide_eq_true h2', z1T, w_dC, z1L, z1i, z1W, z1Y, w_d2, z2o, w_d3, z2m, z1Z, z1e, z1J, z1g, z1U, z2p, z1G, z2n, z1V, z1f, z1M, z2q, z1I, z1m, z1R, z1K, z1N, z1c, zL, z1a, z1Q, z1S, zN, z1j, zP, zM, z19, z1h, z1l, z1d, zR, z16, z1O, z18, z1n, zK, z17, z15, zO, zI, z1k, z2r, z1X, z1b, zH, z1w, z2K, z1F, w_ok, z2v, z1x, z2l, z27, z1C, z2h, z23, z2g, z1s, zU, z12, z28, z2b, z2c, z20, z2k, z21, z2i, z2F, z2D, z2B, z2L, z2y, z2H, z2t, z2A, z29, z1P, z1H, z2f, z14, z1r, Int.reduceToNat, Int.reduceLE, Int.reduceLT, Int.reduceNeg, startD, List.map_cons, List.map_nil, List.length_cons, List.length_nil, List.replicate, List.cons_append, List.nil_append, List.getElem?_cons_zero, List.getElem?_cons_succ, List.set_cons_zero, List.set_cons_succ, Nat.reduceAdd, Nat.reduceSub, Nat.reduceEqDiff, if_true, if_false, Bool.false_eq_true, decide_true, decide_false, Int.reduceEq, Int.reduceAdd, Int.reduceSub, Int.reduceMul, Bool.not_true, Bool.not_false, c_0, c_1, c_2, c_3, c_4, c_5, c_6, c_7, c_8, c_9, c_10, c_11, c_12, sz_0, sz_1, sz_2, sz_3, sz_4, sz_5, sz_6, sz_7, sz_8, sz_9, z2J, z2I, z2E, z2s, z2x, z2z, z2w, Bool.true_eq_false, eq_self, za, zb, z4, z7, z5, z3, zw, zy, zi, zr, zp, z8, zn, zj, ze, zg, zh, z6, zz, zu, zf, zq, zo, z9, zD, zE, zm, zt, zA, zc, zG, zB, zl, zv, zx, zd, z2j, z2a, zS, z1E, z1q, z25, z2C, z2u, z2G, zY, z26, z2d, zT, z1p, z1D, z24, z1o, zF, z1u, zQ, z1t, z1B, zC, zX, z10, z2e, z22, z1z, z1A, z1y, zV, z11, z1v, zJ, zW, zZ]
        rw [if_pos (isTy_lst gl)]
        simp only [z1T, w_dC, z1L, z1i, z1W, z1Y, w_d2, z2o, w_d3, z2m, z1Z, z1e, z1J, z1g, z1U, z2p, z1G, z2n, z1V, z1f, z1M, z2q, z1I, z1m, z1R, z1K, z1N, z1c, zL, z1a, z1Q, z1S, zN, z1j, zP, zM, z19, z1h, z1l, z1d, zR, z16, z1O, z18, z1n, zK, z17, z15, zO, zI, z1k, z2r, z1X, z1b, zH, z1w, z2K, z1F, w_ok, z2v, z1x, z2l, z27, z1C, z2h, z23, z2g, z1s, zU, z12, z28, z2b, z2c, z20, z2k, z21, z2i, z2F, z2D, z2B, z2L, z2y, z2H, z2t, z2A, z29, z1P, z1H, z2f, z14, z1r, Int.reduceToNat, Int.reduceLE, Int.reduceLT, Int.reduceNeg, startD, List.map_cons, List.map_nil, List.length_cons, List.length_nil, List.replicate, List.cons_append, List.nil_append, List.getElem?_cons_zero, List.getElem?_cons_succ, List.set_cons_zero, List.set_cons_succ, Nat.reduceAdd, Nat.reduceSub, Nat.reduceEqDiff, if_true, if_false, Bool.false_eq_true, decide_true, decide_false, Int.reduceEq, Int.reduceAdd, Int.reduceSub, Int.reduceMul, Bool.not_true, Bool.not_false, c_0, c_1, c_2, c_3, c_4, c_5, c_6, c_7, c_8, c_9, c_10, c_11, c_12, sz_0, sz_1, sz_2, sz_3, sz_4, sz_5, sz_6, sz_7, sz_8, sz_9, z2J, z2I, z2E, z2s, z2x, z2z, z2w, Bool.true_eq_false, eq_self, za, zb, z4, z7, z5, z3, zw, zy, zi, zr, zp, z8, zn, zj, ze, zg, zh, z6, zz, zu, zf, zq, zo, z9, zD, zE, zm, zt, zA, zc, zG, zB, zl, zv, zx, zd, z2j, z2a, zS, z1E, z1q, z25, z2C, z2u, z2G, zY, z26, z2d, zT, z1p, z1D, z24, z1o, zF, z1u, zQ, z1t, z1B, zC, zX, z10, z2e, z22, z1z, z1A, z1y, zV, z11, z1v, zJ, zW, zZ]
        rw [w_appL gl (szn (by rw [List.length_map]; omega))]
        simp only [z1T, w_dC, z1L, z1i, z1W, z1Y, w_d2, z2o, w_d3, z2m, z1Z, z1e, z1J, z1g, z1U, z2p, z1G, z2n, z1V, z1f, z1M, z2q, z1I, z1m, z1R, z1K, z1N, z1c, zL, z1a, z1Q, z1S, zN, z1j, zP, zM, z19, z1h, z1l, z1d, zR, z16, z1O, z18, z1n, zK, z17, z15, zO, zI, z1k, z2r, z1X, z1b, zH, z1w, z2K, z1F, w_ok, z2v, z1x, z2l, z27, z1C, z2h, z23, z2g, z1s, zU, z12, z28, z2b, z2c, z20, z2k, z21, z2i, z2F, z2D, z2B, z2L, z2y, z2H, z2t, z2A, z29, z1P, z1H, z2f, z14, z1r, Int.reduceToNat, Int.reduceLE, Int.reduceLT, Int.reduceNeg, startD, List.map_cons, List.map_nil, List.length_cons, List.length_nil, List.replicate, List.cons_append, List.nil_append, List.getElem?_cons_zero, List.getElem?_cons_succ, List.set_cons_zero, List.set_cons_succ, Nat.reduceAdd, Nat.reduceSub, Nat.reduceEqDiff, if_true, if_false, Bool.false_eq_true, decide_true, decide_false, Int.reduceEq, Int.reduceAdd, Int.reduceSub, Int.reduceMul, Bool.not_true, Bool.not_false, c_0, c_1, c_2, c_3, c_4, c_5, c_6, c_7, c_8, c_9, c_10, c_11, c_12, sz_0, sz_1, sz_2, sz_3, sz_4, sz_5, sz_6, sz_7, sz_8, sz_9, z2J, z2I, z2E, z2s, z2x, z2z, z2w, Bool.true_eq_false, eq_self, za, zb, z4, z7, z5, z3, zw, zy, zi, zr, zp, z8, zn, zj, ze, zg, zh, z6, zz, zu, zf, zq, zo, z9, zD, zE, zm, zt, zA, zc, zG, zB, zl, zv, zx, zd, z2j, z2a, zS, z1E, z1q, z25, z2C, z2u, z2G, zY, z26, z2d, zT, z1p, z1D, z24, z1o, zF, z1u, zQ, z1t, z1B, zC, zX, z10, z2e, z22, z1z, z1A, z1y, zV, z11, z1v, zJ, zW, zZ]
        refine ⟨kn3, out ++ [(m, btsM ins m)], lft rest (btsM ins m), _, _, _, ?_, K3, ?_, by simp; omega, rfl⟩
        · rw [List.set_append_right _ _ (by omega), Nat.add_sub_cancel_left]
          simp
        · rw [el]
          exact O.take hcov eps hok
      · have h2' : ¬ (1 : Int) + ((mn (lps ins M) (lft rest (btsM ins m)) : Nat) : Int) = ((mn (lps ins M) rest : Nat) : Int) := by omega
        have hok : okP (lps ins M) rest (m, btsM ins m) = false := by
          unfold okP
          rw [decide_eq_false h2, Bool.and_false]
        simp only [decide_eq_false h2', z1T, w_dC, z1L, z1i, z1W, z1Y, w_d2, z2o, w_d3, z2m, z1Z, z1e, z1J, z1g, z1U, z2p, z1G, z2n, z1V, z1f, z1M, z2q, z1I, z1m, z1R, z1K, z1N, z1c, zL, z1a, z1Q, z1S, zN, z1j, zP, zM, z19, z1h, z1l, z1d, zR, z16, z1O, z18, z1n, zK, z17, z15, zO, zI, z1k, z2r, z1X, z1b, zH, z1w, z2K, z1F, w_ok, z2v, z1x, z2l, z27, z1C, z2h, z23, z2g, z1s, zU, z12, z28, z2b, z2c, z20, z2k, z21, z2i, z2F, z2D, z2B, z2L, z2y, z2H, z2t, z2A, z29, z1P, z1H, z2f, z14, z1r, Int.reduceToNat, Int.reduceLE, Int.reduceLT, Int.reduceNeg, startD, List.map_cons, List.map_nil, List.length_cons, List.length_nil, List.replicate, List.cons_append, List.nil_append, List.getElem?_cons_zero, List.getElem?_cons_succ, List.set_cons_zero, List.set_cons_succ, Nat.reduceAdd, Nat.reduceSub, Nat.reduceEqDiff, if_true, if_false, Bool.false_eq_true, decide_true, decide_false, Int.reduceEq, Int.reduceAdd, Int.reduceSub, Int.reduceMul, Bool.not_true, Bool.not_false, c_0, c_1, c_2, c_3, c_4, c_5, c_6, c_7, c_8, c_9, c_10, c_11, c_12, sz_0, sz_1, sz_2, sz_3, sz_4, sz_5, sz_6, sz_7, sz_8, sz_9, z2J, z2I, z2E, z2s, z2x, z2z, z2w, Bool.true_eq_false, eq_self, za, zb, z4, z7, z5, z3, zw, zy, zi, zr, zp, z8, zn, zj, ze, zg, zh, z6, zz, zu, zf, zq, zo, z9, zD, zE, zm, zt, zA, zc, zG, zB, zl, zv, zx, zd, z2j, z2a, zS, z1E, z1q, z25, z2C, z2u, z2G, zY, z26, z2d, zT, z1p, z1D, z24, z1o, zF, z1u, zQ, z1t, z1B, zC, zX, z10, z2e, z22, z1z, z1A, z1y, zV, z11, z1v, zJ, zW, zZ]
        refine ⟨kn3, out, rest, _, _, _, rfl, K3, ?_, by simp; omega, rfl⟩
        rw [el]
        exact O.skip hok
    · have h1' : ¬ (((lft rest (btsM ins m)).length : Nat) : Int) < ((rest.length : Nat) : Int) := by omega
      have hok : okP (lps ins M) rest (m, btsM ins m) = false := by
        unfold okP
        rw [decide_eq_false h1, Bool.false_and]
      simp only [decide_eq_false h1', z1T, w_dC, z1L, z1i, z1W, z1Y, w_d2, z2o, w_d3, z2m, z1Z, z1e, z1J, z1g, z1U, z2p, z1G, z2n, z1V, z1f, z1M, z2q, z1I, z1m, z1R, z1K, z1N, z1c, zL, z1a, z1Q, z1S, zN, z1j, zP, zM, z19, z1h, z1l, z1d, zR, z16, z1O, z18, z1n, zK, z17, z15, zO, zI, z1k, z2r, z1X, z1b, zH, z1w, z2K, z1F, w_ok, z2v, z1x, z2l, z27, z1C, z2h, z23, z2g, z1s, zU, z12, z28, z2b, z2c, z20, z2k, z21, z2i, z2F, z2D, z2B, z2L, z2y, z2H, z2t, z2A, z29, z1P, z1H, z2f, z14, z1r, Int.reduceToNat, Int.reduceLE, Int.reduceLT, Int.reduceNeg, startD, List.map_cons, List.map_nil, List.length_cons, List.length_nil, List.replicate, List.cons_append, List.nil_append, List.getElem?_cons_zero, List.getElem?_cons_succ, List.set_cons_zero, List.set_cons_succ, Nat.reduceAdd, Nat.reduceSub, Nat.reduceEqDiff, if_true, if_false, Bool.false_eq_true, decide_true, decide_false, Int.reduceEq, Int.reduceAdd, Int.reduceSub, Int.reduceMul, Bool.not_true, Bool.not_false, c_0, c_1, c_2, c_3, c_4, c_5, c_6, c_7, c_8, c_9, c_10, c_11, c_12, sz_0, sz_1, sz_2, sz_3, sz_4, sz_5, sz_6, sz_7, sz_8, sz_9, z2J, z2I, z2E, z2s, z2x, z2z, z2w, Bool.true_eq_false, eq_self, za, zb, z4, z7, z5, z3, zw, zy, zi, zr, zp, z8, zn, zj, ze, zg, zh, z6, zz, zu, zf, zq, zo, z9, zD, zE, zm, zt, zA, zc, zG, zB, zl, zv, zx, zd, z2j, z2a, zS, z1E, z1q, z25, z2C, z2u, z2G, zY, z26, z2d, zT, z1p, z1D, z24, z1o, zF, z1u, zQ, z1t, z1B, zC, zX, z10, z2e, z22, z1z, z1A, z1y, zV, z11, z1v, zJ, zW, zZ]
      refine ⟨kn, out, rest, _, _, _, hS.symm, K, ?_, by simp; omega, rfl⟩
      rw [el]
      exact O.skip hok

end Lw

namespace Lw
open PySem PySem.Spec PyProof.Rows L2 DL
inductive Sm (S : Sto) : Nat → D → D → Prop where
  | non {n} : Sm S n .non .non
  | int {n i} : Sm S n (.int i) (.int i)
  | str {n s} : PyData.strOk s = true → Sm S n (.str s) (.str s)
  | tup {n xs ys} : xs.length ≤ 1000000000 → xs.length = ys.length → (∀ (i : Nat) (x y : D), xs[i]? = some x → ys[i]? = some y → Sm S n x y) → Sm S (n + 1) (.tup xs) (.tup ys)
  | lst {n x y xs ys} : lsD x S = some xs → lsD y S = some ys → xs.length ≤ 1000000000 → xs.length = ys.length → (∀ (i : Nat) (x y : D), xs[i]? = some x → ys[i]? = some y → Sm S n x y) → Sm S (n + 1) x y
theorem ls_grow {S S' : Sto} {x : D} {xs : List D} (g : Grow S S') (h : lsD x S = some xs) : lsD x S' = some xs := by
  cases x with
  | ref l =>
    unfold lsD at h ⊢
    cases e : S[l]? with
    | none => simp only [e] at h; cases h
    | some o => simp only [g.get e]; simp only [e] at h; exact h
  | frl ys => exact h
  | _ => cases h
theorem Sm.grow {S S' : Sto} (g : Grow S S') {n : Nat} {x y : D} (h : Sm S n x y) : Sm S' n x y := by
  induction h with
  | non => exact .non
  | int => exact .int
  | str h => exact .str h
  | tup h1 h2 _ ih => exact .tup h1 h2 ih
  | lst a b h1 h2 _ ih => exact .lst (ls_grow g a) (ls_grow g b) h1 h2 ih
theorem ls_ix {S : Sto} {x : D} {xs : List D} {i : Nat} {d : D} (h : lsD x S = some xs) (hi : xs[i]? = some d) : ixD x (.int ((i : Nat) : Int)) S = .ok d S := by
  have e : atI xs ((i : Nat) : Int) = some d := by rw [z14 (by omega)]; simpa using hi
  cases x with
  | ref l =>
    unfold lsD at h
    cases e1 : S[l]? with
    | none => simp only [e1] at h; cases h
    | some o =>
      cases o with
      | lst zs =>
        simp only [e1] at h
        cases h
        simp only [ixD, e1, e]
      | _ => simp only [e1] at h; cases h
  | frl ys =>
    cases h
    simp only [ixD, e]
  | _ => cases h
theorem ls_len {S : Sto} {x : D} {xs : List D} (h : lsD x S = some xs) : lenD [x] S = .ok (.int ((xs.length : Nat) : Int)) S := by
  cases x with
  | ref l =>
    unfold lsD at h
    cases e1 : S[l]? with
    | none => simp only [e1] at h; cases h
    | some o =>
      cases o with
      | lst zs =>
        simp only [e1] at h
        cases h
        simp only [lenD, e1]
      | _ => simp only [e1] at h; cases h
  | frl ys =>
    cases h
    rfl
  | _ => cases h
theorem ls_ty {S : Sto} {x : D} {xs : List D} (h : lsD x S = some xs) : tyS x S = some "list" := by
  cases x with
  | ref l =>
    unfold lsD at h
    cases e1 : S[l]? with
    | none => simp only [e1] at h; cases h
    | some o =>
      cases o with
      | lst zs => simp only [tyS, e1]
      | _ => simp only [e1] at h; cases h
  | frl ys => rfl
  | _ => cases h
theorem same2_ok : ∀ (n j : Nat) {x y : D} {S : Sto}, Sm S n x y → F__law_same (n + 1 + j) [x, y] S = .ok (.bl true) S := by
  intro n
  induction n with
  | zero =>
    intro j x y S h
    rw [show 0 + 1 + j = j + 1 by omega]
    cases h with
    | non =>
      unfold F__law_same
      refine fn_ok rfl ?_
      unfold b__law_same
      simp only [z1T, w_dC, z1L, z1i, z1W, z1Y, w_d2, z2o, w_d3, z2m, z1Z, z1e, z1J, z1g, z1U, z2p, z1G, z2n, z1V, z1f, z1M, z2q, z1I, z1m, z1R, z1K, z1N, z1c, zL, z1a, z1Q, z1S, zN, z1j, zP, zM, z19, z1h, z1l, z1d, zR, z16, z1O, z18, z1n, zK, z17, z15, zO, zI, z1k, z2r, z1X, z1b, zH, z1w, z2K, z1F, w_ok, z2v, z1x, z2l, z27, z1C, z2h, z23, z2O, z2N, z2g, z1s, zU, z12, z28, z2b, z2c, z20, z2k, z21, z2i, z2F, z2D, z2B, z2L, z2y, z2H, z2t, z2A, z29, z1P, z1H, z2f, z14, z1r, Int.reduceToNat, Int.reduceLE, Int.reduceLT, Int.reduceNeg, startD, List.map_cons, List.map_nil, List.length_cons, List.length_nil, List.replicate, List.cons_append, List.nil_append, List.getElem?_cons_zero, List.getElem?_cons_succ, List.set_cons_zero, List.set_cons_succ, Nat.reduceAdd, Nat.reduceSub, Nat.reduceEqDiff, if_true, if_false, Bool.false_eq_true, decide_true, decide_false, Int.reduceEq, Int.reduceAdd, Int.reduceSub, Int.reduceMul, Bool.not_true, Bool.not_false, c_0, c_1, c_2, c_3, c_4, c_5, c_6, c_7, c_8, c_9, c_10, c_11, c_12, sz_0, sz_1, sz_2, sz_3, sz_4, sz_5, sz_6, sz_7, sz_8, sz_9, z2J, z2I, z2E, z2s, z2x, z2z, z2w, Bool.true_eq_false, eq_self, za, zb, z4, z7, z5, z3, zw, zy, zi, zr, zp, z8, zn, zj, ze, zg, zh, z6, zz, zu, zf, zq, zo, z9, zD, zE, zm, zt, zA, zc, zG, zB, zl, zv, zx, zd, z2j, z2a, zS, z1E, z1q, z25, z2C, z2u, z2G, zY, z26, z2d, zT, z1p, z1D, z24, z1o, zF, z1u, zQ, z1t, z1B, zC, zX, z10, z2e, z22, z1z, z1A, z1y, zV, z11, z1v, zJ, zW, zZ]
      rw [w_eqG gd_non gd_non (n := 0) (m := 0)]
      simp only [z1T, w_dC, z1L, z1i, z1W, z1Y, w_d2, z2o, w_d3, z2m, z1Z, z1e, z1J, z1g, z1U, z2p, z1G, z2n, z1V, z1f, z1M, z2q, z1I, z1m, z1R, z1K, z1N, z1c, zL, z1a, z1Q, z1S, zN, z1j, zP, zM, z19, z1h, z1l, z1d, zR, z16, z1O, z18, z1n, zK, z17, z15, zO, zI, z1k, z2r, z1X, z1b, zH, z1w, z2K, z1F, w_ok, z2v, z1x, z2l, z27, z1C, z2h, z23, z2O, z2N, z2g, z1s, zU, z12, z28, z2b, z2c, z20, z2k, z21, z2i, z2F, z2D, z2B, z2L, z2y, z2H, z2t, z2A, z29, z1P, z1H, z2f, z14, z1r, Int.reduceToNat, Int.reduceLE, Int.reduceLT, Int.reduceNeg, startD, List.map_cons, List.map_nil, List.length_cons, List.length_nil, List.replicate, List.cons_append, List.nil_append, List.getElem?_cons_zero, List.getElem?_cons_succ, List.set_cons_zero, List.set_cons_succ, Nat.reduceAdd, Nat.reduceSub, Nat.reduceEqDiff, if_true, if_false, Bool.false_eq_true, decide_true, decide_false, Int.reduceEq, Int.reduceAdd, Int.reduceSub, Int.reduceMul, Bool.not_true, Bool.not_false, c_0, c_1, c_2, c_3, c_4, c_5, c_6, c_7, c_8, c_9, c_10, c_11, c_12, sz_0, sz_1, sz_2, sz_3, sz_4, sz_5, sz_6, sz_7, sz_8, sz_9, z2J, z2I, z2E, z2s, z2x, z2z, z2w, Bool.true_eq_false, eq_self, za, zb, z4, z7, z5, z3, zw, zy, zi, zr, zp, z8, zn, zj, ze, zg, zh, z6, zz, zu, zf, zq, zo, z9, zD, zE, zm, zt, zA, zc, zG, zB, zl, zv, zx, zd, z2j, z2a, zS, z1E, z1q, z25, z2C, z2u, z2G, zY, z26, z2d, zT, z1p, z1D, z24, z1o, zF, z1u, zQ, z1t, z1B, zC, zX, z10, z2e, z22, z1z, z1A, z1y, zV, z11, z1v, zJ, zW, zZ]
      exact ⟨trivial, app_nil S⟩
    | int =>
      unfold F__law_same
      refine fn_ok rfl ?_
      unfold b__law_same
      simp only [z1T, w_dC, z1L, z1i, z1W, z1Y, w_d2, z2o, w_d3, z2m, z1Z, z1e, z1J, z1g, z1U, z2p, z1G, z2n, z1V, z1f, z1M, z2q, z1I, z1m, z1R, z1K, z1N, z1c, zL, z1a, z1Q, z1S, zN, z1j, zP, zM, z19, z1h, z1l, z1d, zR, z16, z1O, z18, z1n, zK, z17, z15, zO, zI, z1k, z2r, z1X, z1b, zH, z1w, z2K, z1F, w_ok, z2v, z1x, z2l, z27, z1C, z2h, z23, z2O, z2N, z2g, z1s, zU, z12, z28, z2b, z2c, z20, z2k, z21, z2i, z2F, z2D, z2B, z2L, z2y, z2H, z2t, z2A, z29, z1P, z1H, z2f, z14, z1r, Int.reduceToNat, Int.reduceLE, Int.reduceLT, Int.reduceNeg, startD, List.map_cons, List.map_nil, List.length_cons, List.length_nil, List.replicate, List.cons_append, List.nil_append, List.getElem?_cons_zero, List.getElem?_cons_succ, List.set_cons_zero, List.set_cons_succ, Nat.reduceAdd, Nat.reduceSub, Nat.reduceEqDiff, if_true, if_false, Bool.false_eq_true, decide_true, decide_false, Int.reduceEq, Int.reduceAdd, Int.reduceSub, Int.reduceMul, Bool.not_true, Bool.not_false, c_0, c_1, c_2, c_3, c_4, c_5, c_6, c_7, c_8, c_9, c_10, c_11, c_12, sz_0, sz_1, sz_2, sz_3, sz_4, sz_5, sz_6, sz_7, sz_8, sz_9, z2J, z2I, z2E, z2s, z2x, z2z, z2w, Bool.true_eq_false, eq_self, za, zb, z4, z7, z5, z3, zw, zy, zi, zr, zp, z8, zn, zj, ze, zg, zh, z6, zz, zu, zf, zq, zo, z9, zD, zE, zm, zt, zA, zc, zG, zB, zl, zv, zx, zd, z2j, z2a, zS, z1E, z1q, z25, z2C, z2u, z2G, zY, z26, z2d, zT, z1p, z1D, z24, z1o, zF, z1u, zQ, z1t, z1B, zC, zX, z10, z2e, z22, z1z, z1A, z1y, zV, z11, z1v, zJ, zW, zZ]
      exact ⟨trivial, app_nil S⟩
    | str _ =>
      unfold F__law_same
      refine fn_ok rfl ?_
      unfold b__law_same
      simp only [z1T, w_dC, z1L, z1i, z1W, z1Y, w_d2, z2o, w_d3, z2m, z1Z, z1e, z1J, z1g, z1U, z2p, z1G, z2n, z1V, z1f, z1M, z2q, z1I, z1m, z1R, z1K, z1N, z1c, zL, z1a, z1Q, z1S, zN, z1j, zP, zM, z19, z1h, z1l, z1d, zR, z16, z1O, z18, z1n, zK, z17, z15, zO, zI, z1k, z2r, z1X, z1b, zH, z1w, z2K, z1F, w_ok, z2v, z1x, z2l, z27, z1C, z2h, z23, z2O, z2N, z2g, z1s, zU, z12, z28, z2b, z2c, z20, z2k, z21, z2i, z2F, z2D, z2B, z2L, z2y, z2H, z2t, z2A, z29, z1P, z1H, z2f, z14, z1r, Int.reduceToNat, Int.reduceLE, Int.reduceLT, Int.reduceNeg, startD, List.map_cons, List.map_nil, List.length_cons, List.length_nil, List.replicate, List.cons_append, List.nil_append, List.getElem?_cons_zero, List.getElem?_cons_succ, List.set_cons_zero, List.set_cons_succ, Nat.reduceAdd, Nat.reduceSub, Nat.reduceEqDiff, if_true, if_false, Bool.false_eq_true, decide_true, decide_false, Int.reduceEq, Int.reduceAdd, Int.reduceSub, Int.reduceMul, Bool.not_true, Bool.not_false, c_0, c_1, c_2, c_3, c_4, c_5, c_6, c_7, c_8, c_9, c_10, c_11, c_12, sz_0, sz_1, sz_2, sz_3, sz_4, sz_5, sz_6, sz_7, sz_8, sz_9, z2J, z2I, z2E, z2s, z2x, z2z, z2w, Bool.true_eq_false, eq_self, za, zb, z4, z7, z5, z3, zw, zy, zi, zr, zp, z8, zn, zj, ze, zg, zh, z6, zz, zu, zf, zq, zo, z9, zD, zE, zm, zt, zA, zc, zG, zB, zl, zv, zx, zd, z2j, z2a, zS, z1E, z1q, z25, z2C, z2u, z2G, zY, z26, z2d, zT, z1p, z1D, z24, z1o, zF, z1u, zQ, z1t, z1B, zC, zX, z10, z2e, z22, z1z, z1A, z1y, zV, z11, z1v, zJ, zW, zZ]
      exact ⟨trivial, app_nil S⟩
  | succ m ih =>
    intro j x y S h
    rw [show m + 1 + 1 + j = (m + 1 + j) + 1 by omega]
    have core : ∀ {xs ys : List D}, (∀ S', Grow S S' → ∀ (i : Nat) (d : D), xs[i]? = some d → ixD x (.int ((i : Nat) : Int)) S' = .ok d S') → (∀ S', Grow S S' → ∀ (i : Nat) (d : D), ys[i]? = some d → ixD y (.int ((i : Nat) : Int)) S' = .ok d S') → lenD [y] S = .ok (.int ((ys.length : Nat) : Int)) S → xs.length ≤ 1000000000 → xs.length = ys.length → (∀ (i : Nat) (x y : D), xs[i]? = some x → ys[i]? = some y → Sm S m x y) →
        dFrz (dComp [3] (iRngD1 (dCall lenD (dCons (dVar 1) dNil))) (gVar 3) (tNotD (tstB (dCallF 2 (F__law_same (m + 1 + j)) (dCons (d2 ixD (dVar 0) (dVar 3)) (dCons (d2 ixD (dVar 1) (dVar 3)) dNil))))) (dVar 3)) [some x, some y, none, none] S
          = .ok (.frl (((List.range ys.length).filter fun _ => false).map fun i => .int (0 + (i : Nat)))) S := by
      intro xs ys ix iy hlen hsz hll hs
      refine compF (List.range ys.length) (fun i => .int (0 + (i : Nat))) (fun _ => false) _ ?_ (by rw [List.filter_eq_nil_iff.mpr (fun _ _ => by simp)]; exact Nat.zero_le _) ?_ ?_
      · simp only [z1T, w_dC, z1L, z1i, z1W, z1Y, w_d2, z2o, w_d3, z2m, z1Z, z1e, z1J, z1g, z1U, z2p, z1G, z2n, z1V, z1f, z1M, z2q, z1I, z1m, z1R, z1K, z1N, z1c, zL, z1a, z1Q, z1S, zN, z1j, zP, zM, z19, z1h, z1l, z1d, zR, z16, z1O, z18, z1n, zK, z17, z15, zO, zI, z1k, z2r, z1X, z1b, zH, z1w, z2K, z1F, w_ok, z2v, z1x, z2l, z27, z1C, z2h, z23, z2O, z2N, z2g, z1s, zU, z12, z28, z2b, z2c, z20, z2k, z21, z2i, z2F, z2D, z2B, z2L, z2y, z2H, z2t, z2A, z29, z1P, z1H, z2f, z14, z1r, Int.reduceToNat, Int.reduceLE, Int.reduceLT, Int.reduceNeg, startD, List.map_cons, List.map_nil, List.length_cons, List.length_nil, List.replicate, List.cons_append, List.nil_append, List.getElem?_cons_zero, List.getElem?_cons_succ, List.set_cons_zero, List.set_cons_succ, Nat.reduceAdd, Nat.reduceSub, Nat.reduceEqDiff, if_true, if_false, Bool.false_eq_true, decide_true, decide_false, Int.reduceEq, Int.reduceAdd, Int.reduceSub, Int.reduceMul, Bool.not_true, Bool.not_false, c_0, c_1, c_2, c_3, c_4, c_5, c_6, c_7, c_8, c_9, c_10, c_11, c_12, sz_0, sz_1, sz_2, sz_3, sz_4, sz_5, sz_6, sz_7, sz_8, sz_9, z2J, z2I, z2E, z2s, z2x, z2z, z2w, Bool.true_eq_false, eq_self, za, zb, z4, z7, z5, z3, zw, zy, zi, zr, zp, z8, zn, zj, ze, zg, zh, z6, zz, zu, zf, zq, zo, z9, zD, zE, zm, zt, zA, zc, zG, zB, zl, zv, zx, zd, z2j, z2a, zS, z1E, z1q, z25, z2C, z2u, z2G, zY, z26, z2d, zT, z1p, z1D, z24, z1o, zF, z1u, zQ, z1t, z1B, zC, zX, z10, z2e, z22, z1z, z1A, z1y, zV, z11, z1v, zJ, zW, zZ, hlen]
        rw [w_ite (rng_ok (by omega))]
        simp only [z1T, w_dC, z1L, z1i, z1W, z1Y, w_d2, z2o, w_d3, z2m, z1Z, z1e, z1J, z1g, z1U, z2p, z1G, z2n, z1V, z1f, z1M, z2q, z1I, z1m, z1R, z1K, z1N, z1c, zL, z1a, z1Q, z1S, zN, z1j, zP, zM, z19, z1h, z1l, z1d, zR, z16, z1O, z18, z1n, zK, z17, z15, zO, zI, z1k, z2r, z1X, z1b, zH, z1w, z2K, z1F, w_ok, z2v, z1x, z2l, z27, z1C, z2h, z23, z2O, z2N, z2g, z1s, zU, z12, z28, z2b, z2c, z20, z2k, z21, z2i, z2F, z2D, z2B, z2L, z2y, z2H, z2t, z2A, z29, z1P, z1H, z2f, z14, z1r, Int.reduceToNat, Int.reduceLE, Int.reduceLT, Int.reduceNeg, startD, List.map_cons, List.map_nil, List.length_cons, List.length_nil, List.replicate, List.cons_append, List.nil_append, List.getElem?_cons_zero, List.getElem?_cons_succ, List.set_cons_zero, List.set_cons_succ, Nat.reduceAdd, Nat.reduceSub, Nat.reduceEqDiff, if_true, if_false, Bool.false_eq_true, decide_true, decide_false, Int.reduceEq, Int.reduceAdd, Int.reduceSub, Int.reduceMul, Bool.not_true, Bool.not_false, c_0, c_1, c_2, c_3, c_4, c_5, c_6, c_7, c_8, c_9, c_10, c_11, c_12, sz_0, sz_1, sz_2, sz_3, sz_4, sz_5, sz_6, sz_7, sz_8, sz_9, z2J, z2I, z2E, z2s, z2x, z2z, z2w, Bool.true_eq_false, eq_self, za, zb, z4, z7, z5, z3, zw, zy, zi, zr, zp, z8, zn, zj, ze, zg, zh, z6, zz, zu, zf, zq, zo, z9, zD, zE, zm, zt, zA, zc, zG, zB, zl, zv, zx, zd, z2j, z2a, zS, z1E, z1q, z25, z2C, z2u, z2G, zY, z26, z2d, zT, z1p, z1D, z24, z1o, zF, z1u, zQ, z1t, z1B, zC, zX, z10, z2e, z22, z1z, z1A, z1y, zV, z11, z1v, zJ, zW, zZ]
        exact ⟨trivial, rng_map, fun _ _ => rfl⟩
      · intro i hi S' g
        have hi' := List.mem_range.mp hi
        have e0 : (0 : Int) + ((i : Nat) : Int) = ((i : Nat) : Int) := by omega
        have hx : xs[i]? = some xs[i] := List.getElem?_eq_getElem (by omega)
        have hy : ys[i]? = some ys[i] := List.getElem?_eq_getElem (by omega)
        simp only [z1T, w_dC, z1L, z1i, z1W, z1Y, w_d2, z2o, w_d3, z2m, z1Z, z1e, z1J, z1g, z1U, z2p, z1G, z2n, z1V, z1f, z1M, z2q, z1I, z1m, z1R, z1K, z1N, z1c, zL, z1a, z1Q, z1S, zN, z1j, zP, zM, z19, z1h, z1l, z1d, zR, z16, z1O, z18, z1n, zK, z17, z15, zO, zI, z1k, z2r, z1X, z1b, zH, z1w, z2K, z1F, w_ok, z2v, z1x, z2l, z27, z1C, z2h, z23, z2O, z2N, z2g, z1s, zU, z12, z28, z2b, z2c, z20, z2k, z21, z2i, z2F, z2D, z2B, z2L, z2y, z2H, z2t, z2A, z29, z1P, z1H, z2f, z14, z1r, Int.reduceToNat, Int.reduceLE, Int.reduceLT, Int.reduceNeg, startD, List.map_cons, List.map_nil, List.length_cons, List.length_nil, List.replicate, List.cons_append, List.nil_append, List.getElem?_cons_zero, List.getElem?_cons_succ, List.set_cons_zero, List.set_cons_succ, Nat.reduceAdd, Nat.reduceSub, Nat.reduceEqDiff, if_true, if_false, Bool.false_eq_true, decide_true, decide_false, Int.reduceEq, Int.reduceAdd, Int.reduceSub, Int.reduceMul, Bool.not_true, Bool.not_false, c_0, c_1, c_2, c_3, c_4, c_5, c_6, c_7, c_8, c_9, c_10, c_11, c_12, sz_0, sz_1, sz_2, sz_3, sz_4, sz_5, sz_6, sz_7, sz_8, sz_9, z2J, z2I, z2E, z2s, z2x, z2z, z2w, Bool.true_eq_false, eq_self, za, zb, z4, z7, z5, z3, zw, zy, zi, zr, zp, z8, zn, zj, ze, zg, zh, z6, zz, zu, zf, zq, zo, z9, zD, zE, zm, zt, zA, zc, zG, zB, zl, zv, zx, zd, z2j, z2a, zS, z1E, z1q, z25, z2C, z2u, z2G, zY, z26, z2d, zT, z1p, z1D, z24, z1o, zF, z1u, zQ, z1t, z1B, zC, zX, z10, z2e, z22, z1z, z1A, z1y, zV, z11, z1v, zJ, zW, zZ, wipeD, e0, ix S' g i _ hx, iy S' g i _ hy]
        rw [ih j ((hs i _ _ hx hy).grow g)]
        simp only [z1T, w_dC, z1L, z1i, z1W, z1Y, w_d2, z2o, w_d3, z2m, z1Z, z1e, z1J, z1g, z1U, z2p, z1G, z2n, z1V, z1f, z1M, z2q, z1I, z1m, z1R, z1K, z1N, z1c, zL, z1a, z1Q, z1S, zN, z1j, zP, zM, z19, z1h, z1l, z1d, zR, z16, z1O, z18, z1n, zK, z17, z15, zO, zI, z1k, z2r, z1X, z1b, zH, z1w, z2K, z1F, w_ok, z2v, z1x, z2l, z27, z1C, z2h, z23, z2O, z2N, z2g, z1s, zU, z12, z28, z2b, z2c, z20, z2k, z21, z2i, z2F, z2D, z2B, z2L, z2y, z2H, z2t, z2A, z29, z1P, z1H, z2f, z14, z1r, Int.reduceToNat, Int.reduceLE, Int.reduceLT, Int.reduceNeg, startD, List.map_cons, List.map_nil, List.length_cons, List.length_nil, List.replicate, List.cons_append, List.nil_append, List.getElem?_cons_zero, List.getElem?_cons_succ, List.set_cons_zero, List.set_cons_succ, Nat.reduceAdd, Nat.reduceSub, Nat.reduceEqDiff, if_true, if_false, Bool.false_eq_true, decide_true, decide_false, Int.reduceEq, Int.reduceAdd, Int.reduceSub, Int.reduceMul, Bool.not_true, Bool.not_false, c_0, c_1, c_2, c_3, c_4, c_5, c_6, c_7, c_8, c_9, c_10, c_11, c_12, sz_0, sz_1, sz_2, sz_3, sz_4, sz_5, sz_6, sz_7, sz_8, sz_9, z2J, z2I, z2E, z2s, z2x, z2z, z2w, Bool.true_eq_false, eq_self, za, zb, z4, z7, z5, z3, zw, zy, zi, zr, zp, z8, zn, zj, ze, zg, zh, z6, zz, zu, zf, zq, zo, z9, zD, zE, zm, zt, zA, zc, zG, zB, zl, zv, zx, zd, z2j, z2a, zS, z1E, z1q, z25, z2C, z2u, z2G, zY, z26, z2d, zT, z1p, z1D, z24, z1o, zF, z1u, zQ, z1t, z1B, zC, zX, z10, z2e, z22, z1z, z1A, z1y, zV, z11, z1v, zJ, zW, zZ]
        exact ⟨trivial, trivial, trivial, fun z => by cases z⟩
      · intro i _ _; rfl
    have e0 : ∀ k : Nat, (((List.range k).filter fun _ => false).map fun i => D.int (0 + (i : Nat))) = [] := fun k => by rw [List.filter_eq_nil_iff.mpr (fun _ _ => by simp)]; rfl
    cases h with
    | non => have := ih (j + 1) (x := .non) (y := .non) (S := S) .non; rwa [show m + 1 + (j + 1) = m + 1 + j + 1 by omega] at this
    | @int _ i => have := ih (j + 1) (x := .int i) (y := .int i) (S := S) .int; rw [show m + 1 + (j + 1) = m + 1 + j + 1 by omega] at this; exact this
    | str hs => have := ih (j + 1) (S := S) (.str hs); rw [show m + 1 + (j + 1) = m + 1 + j + 1 by omega] at this; exact this
    | @tup _ xs ys h1 h2 h3 =>
      unfold F__law_same
      refine fn_ok rfl ?_
      unfold b__law_same
      have hl : (((xs.length : Nat) : Int) = ((ys.length : Nat) : Int)) = True := by rw [h2]; simp
      simp only [z1T, w_dC, z1L, z1i, z1W, z1Y, w_d2, z2o, w_d3, z2m, z1Z, z1e, z1J, z1g, z1U, z2p, z1G, z2n, z1V, z1f, z1M, z2q, z1I, z1m, z1R, z1K, z1N, z1c, zL, z1a, z1Q, z1S, zN, z1j, zP, zM, z19, z1h, z1l, z1d, zR, z16, z1O, z18, z1n, zK, z17, z15, zO, zI, z1k, z2r, z1X, z1b, zH, z1w, z2K, z1F, w_ok, z2v, z1x, z2l, z27, z1C, z2h, z23, z2O, z2N, z2g, z1s, zU, z12, z28, z2b, z2c, z20, z2k, z21, z2i, z2F, z2D, z2B, z2L, z2y, z2H, z2t, z2A, z29, z1P, z1H, z2f, z14, z1r, Int.reduceToNat, Int.reduceLE, Int.reduceLT, Int.reduceNeg, startD, List.map_cons, List.map_nil, List.length_cons, List.length_nil, List.replicate, List.cons_append, List.nil_append, List.getElem?_cons_zero, List.getElem?_cons_succ, List.set_cons_zero, List.set_cons_succ, Nat.reduceAdd, Nat.reduceSub, Nat.reduceEqDiff, if_true, if_false, Bool.false_eq_true, decide_true, decide_false, Int.reduceEq, Int.reduceAdd, Int.reduceSub, Int.reduceMul, Bool.not_true, Bool.not_false, c_0, c_1, c_2, c_3, c_4, c_5, c_6, c_7, c_8, c_9, c_10, c_11, c_12, sz_0, sz_1, sz_2, sz_3, sz_4, sz_5, sz_6, sz_7, sz_8, sz_9, z2J, z2I, z2E, z2s, z2x, z2z, z2w, Bool.true_eq_false, eq_self, za, zb, z4, z7, z5, z3, zw, zy, zi, zr, zp, z8, zn, zj, ze, zg, zh, z6, zz, zu, zf, zq, zo, z9, zD, zE, zm, zt, zA, zc, zG, zB, zl, zv, zx, zd, z2j, z2a, zS, z1E, z1q, z25, z2C, z2u, z2G, zY, z26, z2d, zT, z1p, z1D, z24, z1o, zF, z1u, zQ, z1t, z1B, zC, zX, z10, z2e, z22, z1z, z1A, z1y, zV, z11, z1v, zJ, zW, zZ, hl, core (xs := xs) (ys := ys) (fun S' _ i d hd => by
        have e : atI xs ((i : Nat) : Int) = some d := by rw [z14 (by omega)]; simpa using hd
        simp only [ixD, e]) (fun S' _ i d hd => by
        have e : atI ys ((i : Nat) : Int) = some d := by rw [z14 (by omega)]; simpa using hd
        simp only [ixD, e]) rfl h1 h2 h3, e0]
      rw [w_eqG gd_nil gd_nil]
      simp only [z1T, w_dC, z1L, z1i, z1W, z1Y, w_d2, z2o, w_d3, z2m, z1Z, z1e, z1J, z1g, z1U, z2p, z1G, z2n, z1V, z1f, z1M, z2q, z1I, z1m, z1R, z1K, z1N, z1c, zL, z1a, z1Q, z1S, zN, z1j, zP, zM, z19, z1h, z1l, z1d, zR, z16, z1O, z18, z1n, zK, z17, z15, zO, zI, z1k, z2r, z1X, z1b, zH, z1w, z2K, z1F, w_ok, z2v, z1x, z2l, z27, z1C, z2h, z23, z2O, z2N, z2g, z1s, zU, z12, z28, z2b, z2c, z20, z2k, z21, z2i, z2F, z2D, z2B, z2L, z2y, z2H, z2t, z2A, z29, z1P, z1H, z2f, z14, z1r, Int.reduceToNat, Int.reduceLE, Int.reduceLT, Int.reduceNeg, startD, List.map_cons, List.map_nil, List.length_cons, List.length_nil, List.replicate, List.cons_append, List.nil_append, List.getElem?_cons_zero, List.getElem?_cons_succ, List.set_cons_zero, List.set_cons_succ, Nat.reduceAdd, Nat.reduceSub, Nat.reduceEqDiff, if_true, if_false, Bool.false_eq_true, decide_true, decide_false, Int.reduceEq, Int.reduceAdd, Int.reduceSub, Int.reduceMul, Bool.not_true, Bool.not_false, c_0, c_1, c_2, c_3, c_4, c_5, c_6, c_7, c_8, c_9, c_10, c_11, c_12, sz_0, sz_1, sz_2, sz_3, sz_4, sz_5, sz_6, sz_7, sz_8, sz_9, z2J, z2I, z2E, z2s, z2x, z2z, z2w, Bool.true_eq_false, eq_self, za, zb, z4, z7, z5, z3, zw, zy, zi, zr, zp, z8, zn, zj, ze, zg, zh, z6, zz, zu, zf, zq, zo, z9, zD, zE, zm, zt, zA, zc, zG, zB, zl, zv, zx, zd, z2j, z2a, zS, z1E, z1q, z25, z2C, z2u, z2G, zY, z26, z2d, zT, z1p, z1D, z24, z1o, zF, z1u, zQ, z1t, z1B, zC, zX, z10, z2e, z22, z1z, z1A, z1y, zV, z11, z1v, zJ, zW, zZ]
      exact ⟨trivial, app_nil S⟩
    | @lst _ _ _ xs ys a b h1 h2 h3 =>
      unfold F__law_same
      refine fn_ok rfl ?_
      unfold b__law_same
      have hl : (((xs.length : Nat) : Int) = ((ys.length : Nat) : Int)) = True := by rw [h2]; simp
      simp only [z1T, w_dC, z1L, z1i, z1W, z1Y, w_d2, z2o, w_d3, z2m, z1Z, z1e, z1J, z1g, z1U, z2p, z1G, z2n, z1V, z1f, z1M, z2q, z1I, z1m, z1R, z1K, z1N, z1c, zL, z1a, z1Q, z1S, zN, z1j, zP, zM, z19, z1h, z1l, z1d, zR, z16, z1O, z18, z1n, zK, z17, z15, zO, zI, z1k, z2r, z1X, z1b, zH, z1w, z2K, z1F, w_ok, z2v, z1x, z2l, z27, z1C, z2h, z23, z2O, z2N, z2g, z1s, zU, z12, z28, z2b, z2c, z20, z2k, z21, z2i, z2F, z2D, z2B, z2L, z2y, z2H, z2t, z2A, z29, z1P, z1H, z2f, z14, z1r, Int.reduceToNat, Int.reduceLE, Int.reduceLT, Int.reduceNeg, startD, List.map_cons, List.map_nil, List.length_cons, List.length_nil, List.replicate, List.cons_append, List.nil_append, List.getElem?_cons_zero, List.getElem?_cons_succ, List.set_cons_zero, List.set_cons_succ, Nat.reduceAdd, Nat.reduceSub, Nat.reduceEqDiff, if_true, if_false, Bool.false_eq_true, decide_true, decide_false, Int.reduceEq, Int.reduceAdd, Int.reduceSub, Int.reduceMul, Bool.not_true, Bool.not_false, c_0, c_1, c_2, c_3, c_4, c_5, c_6, c_7, c_8, c_9, c_10, c_11, c_12, sz_0, sz_1, sz_2, sz_3, sz_4, sz_5, sz_6, sz_7, sz_8, sz_9, z2J, z2I, z2E, z2s, z2x, z2z, z2w, Bool.true_eq_false, eq_self, za, zb, z4, z7, z5, z3, zw, zy, zi, zr, zp, z8, zn, zj, ze, zg, zh, z6, zz, zu, zf, zq, zo, z9, zD, zE, zm, zt, zA, zc, zG, zB, zl, zv, zx, zd, z2j, z2a, zS, z1E, z1q, z25, z2C, z2u, z2G, zY, z26, z2d, zT, z1p, z1D, z24, z1o, zF, z1u, zQ, z1t, z1B, zC, zX, z10, z2e, z22, z1z, z1A, z1y, zV, z11, z1v, zJ, zW, zZ, ls_ty a, ls_ty b, ls_len a, ls_len b, hl, core (xs := xs) (ys := ys) (fun S' g i d hd => ls_ix (ls_grow g a) hd) (fun S' g i d hd => ls_ix (ls_grow g b) hd) (ls_len b) h1 h2 h3, e0]
      rw [w_eqG gd_nil gd_nil]
      simp only [z1T, w_dC, z1L, z1i, z1W, z1Y, w_d2, z2o, w_d3, z2m, z1Z, z1e, z1J, z1g, z1U, z2p, z1G, z2n, z1V, z1f, z1M, z2q, z1I, z1m, z1R, z1K, z1N, z1c, zL, z1a, z1Q, z1S, zN, z1j, zP, zM, z19, z1h, z1l, z1d, zR, z16, z1O, z18, z1n, zK, z17, z15, zO, zI, z1k, z2r, z1X, z1b, zH, z1w, z2K, z1F, w_ok, z2v, z1x, z2l, z27, z1C, z2h, z23, z2O, z2N, z2g, z1s, zU, z12, z28, z2b, z2c, z20, z2k, z21, z2i, z2F, z2D, z2B, z2L, z2y, z2H, z2t, z2A, z29, z1P, z1H, z2f, z14, z1r, Int.reduceToNat, Int.reduceLE, Int.reduceLT, Int.reduceNeg, startD, List.map_cons, List.map_nil, List.length_cons, List.length_nil, List.replicate, List.cons_append, List.nil_append, List.getElem?_cons_zero, List.getElem?_cons_succ, List.set_cons_zero, List.set_cons_succ, Nat.reduceAdd, Nat.reduceSub, Nat.reduceEqDiff, if_true, if_false, Bool.false_eq_true, decide_true, decide_false, Int.reduceEq, Int.reduceAdd, Int.reduceSub, Int.reduceMul, Bool.not_true, Bool.not_false, c_0, c_1, c_2, c_3, c_4, c_5, c_6, c_7, c_8, c_9, c_10, c_11, c_12, sz_0, sz_1, sz_2, sz_3, sz_4, sz_5, sz_6, sz_7, sz_8, sz_9, z2J, z2I, z2E, z2s, z2x, z2z, z2w, Bool.true_eq_false, eq_self, za, zb, z4, z7, z5, z3, zw, zy, zi, zr, zp, z8, zn, zj, ze, zg, zh, z6, zz, zu, zf, zq, zo, z9, zD, zE, zm, zt, zA, zc, zG, zB, zl, zv, zx, zd, z2j, z2a, zS, z1E, z1q, z25, z2C, z2u, z2G, zY, z26, z2d, zT, z1p, z1D, z24, z1o, zF, z1u, zQ, z1t, z1B, zC, zX, z10, z2e, z22, z1z, z1A, z1y, zV, z11, z1v, zJ, zW, zZ]
      exact ⟨trivial, app_nil S⟩

theorem compGS {l : Nat} {vs : List Nat} {fi : Sl → Sto → Res ItD} {ga : D → Sl → Sto → Res Sl} {ft : Sl → Sto → Res Bool} {fe : Sl → Sto → Res D} {sd : Sl} {S : Sto} {Q : D → Sto → Prop} {X : Exc → Sto → Prop} (hlt : l < S.length)
    (hi : Wp (fi sd S) (fun it S1 => Dr l S S1 ∧ it.items.length ≤ sizeLine ∧ (∀ S', it.chk S' = true) ∧
      (∀ x ∈ it.items, ∀ S' T, Dr l S S' → Wp (ga x (wipeD sd vs) (S' ++ T)) (fun sd1 S2 => S2 = S' ++ T ∧ Wp (ft sd1 (S' ++ T)) (fun b S3 => ∃ S5, S3 = S5 ++ T ∧ Dr l S' S5 ∧ (b = true → Wp (fe sd1 (S5 ++ T)) (fun y S4 => S4 = S5 ++ T ∧ y = x) NX)) NX) NX) ∧
      (∀ y ∈ it.items, y.blw S.length = true) ∧ ∀ ys S', Dr l S S' → ys.Sublist it.items → Q (.frl ys) S') NX) : Wp (dFrz (dComp vs fi ga ft fe) sd S) Q X := by
  obtain ⟨it, S1, e1, d1, hl, hc, hx, hb, hq⟩ := ok_of_wp hi
  have key : ∀ (ys : List D) (acc : List D) (S2 : Sto), (∀ a ∈ ys, a ∈ it.items) → acc.length + ys.length ≤ it.items.length → Dr l S S2 → ∃ zs S3, compD it.chk ga ft fe S1.length (wipeD sd vs) ys (S2 ++ [.lst acc]) = .ok () (S3 ++ [.lst (acc ++ zs)]) ∧ Dr l S S3 ∧ zs.Sublist ys := by
    intro ys
    induction ys with
    | nil =>
      intro acc S2 _ hlen hd
      refine ⟨[], S2, ?_, hd, List.Sublist.refl _⟩
      show (if it.chk (S2 ++ [.lst acc]) = true then Res.ok () (S2 ++ [.lst acc]) else .stuck) = _
      rw [if_pos (hc _), List.append_nil]
    | cons a ys ih =>
      intro acc S2 hm hlen hd
      have hlen' : acc.length + 1 + ys.length ≤ it.items.length := by simp at hlen; omega
      obtain ⟨sd1, S3, g1, rfl, h2⟩ := ok_of_wp (hx a (hm a (by simp)) S2 [.lst acc] hd)
      obtain ⟨b, S4, g2, S5, rfl, d5, h3⟩ := ok_of_wp h2
      have hS : S5.length = S1.length := by rw [(hd.trans d5).len, d1.len]
      unfold compD
      rw [if_pos (hc _), g1]
      simp only [Res.noExc, Res.bind, g2]
      cases b with
      | false =>
        rw [if_neg (by simp)]
        obtain ⟨zs, S7, g4, d7, r⟩ := ih acc S5 (fun z hz => hm z (by simp [hz])) (by omega) (hd.trans d5)
        exact ⟨zs, S7, g4, d7, r.cons a⟩
      | true =>
        obtain ⟨y, S6, g3, rfl, rfl⟩ := ok_of_wp (h3 rfl)
        obtain ⟨zs, S7, g4, d7, r⟩ := ih (acc ++ [y]) S5 (fun z hz => hm z (by simp [hz])) (by simp; omega) (hd.trans d5)
        refine ⟨y :: zs, S7, ?_, d7, r.cons_cons y⟩
        rw [if_pos rfl, g3]
        simp only [Res.noExc, Res.bind]
        rw [← hS, get_last]
        simp only
        rw [if_pos (by omega), set_last, hS, g4]
        simp
  obtain ⟨zs, S3, g, d3, p3⟩ := key it.items [] S1 (fun _ h => h) (by simp) d1
  rw [List.nil_append] at g
  have hS : S3.length = S1.length := by rw [d3.len, d1.len]
  have e : dFrz (dComp vs fi ga ft fe) sd S = .ok (.frl zs) S3 := by
    unfold dFrz dComp
    rw [e1]
    show ((compD it.chk ga ft fe S1.length (wipeD sd vs) it.items (S1 ++ [.lst []])).bind fun _ S2 => Res.ok (D.ref S1.length) S2).bind _ = _
    rw [g]
    show frzD S (.ref S1.length) (S3 ++ [.lst zs]) = _
    unfold frzD
    rw [← hS]
    simp only [get_last]
    have hbz : D.blws S.length zs = true := blws_all fun d hd => hb d (p3.subset hd)
    obtain ⟨o, rfl, hs, _⟩ := d3
    have hL : (S.set l o).length = S.length := by simp
    rw [hL]
    rw [if_pos ⟨Nat.le_refl _, cutOk_set S _ l o (st_blw hs), hbz⟩]
    congr 1
    rw [List.take_append_of_le_length (by simp)]
    exact List.take_of_length_le (by simp)
  rw [e]
  exact hq zs S3 d3 p3
theorem rise_sub {n : Nat} {s : List Bt} (h : s.Sublist (allB n)) : ssrt (s.map fun b => W (wB b)) = s.map fun b => W (wB b) := by
  refine ssrt_eq (List.pairwise_map.mpr (((allB_rise n).sublist h).imp fun {a b} h => ?_)) fun _ => Iff.rfl
  unfold sLt
  rw [W_cps, W_cps]
  exact h

theorem cnt4 {n : Nat} (hn : n ≤ 4) {b : Bt} (h : b ∈ allB n) : Txt.count (W (wB b)) (W [49]) = ((b.countP (fun x => x) : Nat) : Int) := by
  have key : ∀ n, n ≤ 4 → (allB n).all (fun b => decide (Txt.count (W (wB b)) (W [49]) = ((b.countP (fun x => x) : Nat) : Int))) = true := by
    intro n hn
    have : n = 0 ∨ n = 1 ∨ n = 2 ∨ n = 3 ∨ n = 4 := by omega
    rcases this with rfl | rfl | rfl | rfl | rfl <;> decide +kernel
  exact of_decide_eq_true (List.all_eq_true.mp (key n hn) b h)
end Lw

namespace Lw
open PySem PySem.Spec PyProof.Rows L2 DL
theorem law_gen {x0 : D} {S S0 : Sto} {sc : List Int} (h : frzD S x0 S = .ok (.frl (sc.map .int)) S0) : ∃ S', dFn 16 b_law [x0] S = .ok (.bl true) S' := by
  have main : Wp (dFn 16 b_law [x0] S) (fun d _ => d = .bl true) NX := by
    rw [z2l]
    unfold b_law
    simp only [z1T, w_dC, z1L, z1i, z1W, z1Y, w_d2, z2o, w_d3, z2m, z1Z, z1e, z1J, z1g, z1U, z2p, z1G, z2n, z1V, z1f, z1M, z2q, z1I, z1m, z1R, z1K, z1N, z1c, zL, z1a, z1Q, z1S, zN, z1j, zP, zM, z19, z1h, z1l, z1d, zR, z16, z1O, z18, z1n, zK, z17, z15, zO, zI, z1k, z2r, z1X, z1b, zH, z1w, z2K, z1F, w_ok, z2v, z1x, z2l, z27, z1C, z2h, z23, z2O, z2N, z2g, z1s, zU, z12, z28, z2b, z2c, z20, z2k, z21, z2i, z2F, z2D, z2B, z2L, z2y, z2H, z2t, z2A, z29, z1P, z1H, z2f, z14, z1r, Int.reduceToNat, Int.reduceLE, Int.reduceLT, Int.reduceNeg, startD, List.map_cons, List.map_nil, List.length_cons, List.length_nil, List.replicate, List.cons_append, List.nil_append, List.getElem?_cons_zero, List.getElem?_cons_succ, List.set_cons_zero, List.set_cons_succ, Nat.reduceAdd, Nat.reduceSub, Nat.reduceEqDiff, if_true, if_false, Bool.false_eq_true, decide_true, decide_false, Int.reduceEq, Int.reduceAdd, Int.reduceSub, Int.reduceMul, Bool.not_true, Bool.not_false, c_0, c_1, c_2, c_3, c_4, c_5, c_6, c_7, c_8, c_9, c_10, c_11, c_12, sz_0, sz_1, sz_2, sz_3, sz_4, sz_5, sz_6, sz_7, sz_8, sz_9, z2J, z2I, z2E, z2s, z2x, z2z, z2w, Bool.true_eq_false, eq_self, za, zb, z4, z7, z5, z3, zw, zy, zi, zr, zp, z8, zn, zj, ze, zg, zh, z6, zz, zu, zf, zq, zo, z9, zD, zE, zm, zt, zA, zc, zG, zB, zl, zv, zx, zd, z2j, z2a, zS, z1E, z1q, z25, z2C, z2u, z2G, zY, z26, z2d, zT, z1p, z1D, z24, z1o, zF, z1u, zQ, z1t, z1B, zC, zX, z10, z2e, z22, z1z, z1A, z1y, zV, z11, z1v, zJ, zW, zZ, w_dFrz, h]
    obtain ⟨o, e0, hs⟩ := start_ok (ns := sc) (S := S0)
    rw [e0]
    simp only [z1T, w_dC, z1L, z1i, z1W, z1Y, w_d2, z2o, w_d3, z2m, z1Z, z1e, z1J, z1g, z1U, z2p, z1G, z2n, z1V, z1f, z1M, z2q, z1I, z1m, z1R, z1K, z1N, z1c, zL, z1a, z1Q, z1S, zN, z1j, zP, zM, z19, z1h, z1l, z1d, zR, z16, z1O, z18, z1n, zK, z17, z15, zO, zI, z1k, z2r, z1X, z1b, zH, z1w, z2K, z1F, w_ok, z2v, z1x, z2l, z27, z1C, z2h, z23, z2O, z2N, z2g, z1s, zU, z12, z28, z2b, z2c, z20, z2k, z21, z2i, z2F, z2D, z2B, z2L, z2y, z2H, z2t, z2A, z29, z1P, z1H, z2f, z14, z1r, Int.reduceToNat, Int.reduceLE, Int.reduceLT, Int.reduceNeg, startD, List.map_cons, List.map_nil, List.length_cons, List.length_nil, List.replicate, List.cons_append, List.nil_append, List.getElem?_cons_zero, List.getElem?_cons_succ, List.set_cons_zero, List.set_cons_succ, Nat.reduceAdd, Nat.reduceSub, Nat.reduceEqDiff, if_true, if_false, Bool.false_eq_true, decide_true, decide_false, Int.reduceEq, Int.reduceAdd, Int.reduceSub, Int.reduceMul, Bool.not_true, Bool.not_false, c_0, c_1, c_2, c_3, c_4, c_5, c_6, c_7, c_8, c_9, c_10, c_11, c_12, sz_0, sz_1, sz_2, sz_3, sz_4, sz_5, sz_6, sz_7, sz_8, sz_9, z2J, z2I, z2E, z2s, z2x, z2z, z2w, Bool.true_eq_false, eq_self, za, zb, z4, z7, z5, z3, zw, zy, zi, zr, zp, z8, zn, zj, ze, zg, zh, z6, zz, zu, zf, zq, zo, z9, zD, zE, zm, zt, zA, zc, zG, zB, zl, zv, zx, zd, z2j, z2a, zS, z1E, z1q, z25, z2C, z2u, z2G, zY, z26, z2d, zT, z1p, z1D, z24, z1o, zF, z1u, zQ, z1t, z1B, zC, zX, z10, z2e, z22, z1z, z1A, z1y, zV, z11, z1v, zJ, zW, zZ]
    rw [w_ite (rng_okI (by decide) (by decide))]
    simp only [z1T, w_dC, z1L, z1i, z1W, z1Y, w_d2, z2o, w_d3, z2m, z1Z, z1e, z1J, z1g, z1U, z2p, z1G, z2n, z1V, z1f, z1M, z2q, z1I, z1m, z1R, z1K, z1N, z1c, zL, z1a, z1Q, z1S, zN, z1j, zP, zM, z19, z1h, z1l, z1d, zR, z16, z1O, z18, z1n, zK, z17, z15, zO, zI, z1k, z2r, z1X, z1b, zH, z1w, z2K, z1F, w_ok, z2v, z1x, z2l, z27, z1C, z2h, z23, z2O, z2N, z2g, z1s, zU, z12, z28, z2b, z2c, z20, z2k, z21, z2i, z2F, z2D, z2B, z2L, z2y, z2H, z2t, z2A, z29, z1P, z1H, z2f, z14, z1r, Int.reduceToNat, Int.reduceLE, Int.reduceLT, Int.reduceNeg, startD, List.map_cons, List.map_nil, List.length_cons, List.length_nil, List.replicate, List.cons_append, List.nil_append, List.getElem?_cons_zero, List.getElem?_cons_succ, List.set_cons_zero, List.set_cons_succ, Nat.reduceAdd, Nat.reduceSub, Nat.reduceEqDiff, if_true, if_false, Bool.false_eq_true, decide_true, decide_false, Int.reduceEq, Int.reduceAdd, Int.reduceSub, Int.reduceMul, Bool.not_true, Bool.not_false, c_0, c_1, c_2, c_3, c_4, c_5, c_6, c_7, c_8, c_9, c_10, c_11, c_12, sz_0, sz_1, sz_2, sz_3, sz_4, sz_5, sz_6, sz_7, sz_8, sz_9, z2J, z2I, z2E, z2s, z2x, z2z, z2w, Bool.true_eq_false, eq_self, za, zb, z4, z7, z5, z3, zw, zy, zi, zr, zp, z8, zn, zj, ze, zg, zh, z6, zz, zu, zf, zq, zo, z9, zD, zE, zm, zt, zA, zc, zG, zB, zl, zv, zx, zd, z2j, z2a, zS, z1E, z1q, z25, z2C, z2u, z2G, zY, z26, z2d, zT, z1p, z1D, z24, z1o, zF, z1u, zQ, z1t, z1B, zC, zX, z10, z2e, z22, z1z, z1A, z1y, zV, z11, z1v, zJ, zW, zZ]
    generalize hl : S0.length = l
    have at0 : At l (S0 ++ [o]) := by subst hl; exact ⟨o, get_last, hs⟩
    generalize S0 ++ [o] = S1 at at0
    refine w_rangeP (fun _ sd S' => At l S' ∧ ∃ a2 a3 a4 a5 a6 a7 a8 a9 a10 a11 a12 a13 a14 a15, sd = [some x0, some (.ref l), a2, a3, a4, a5, a6, a7, a8, a9, a10, a11, a12, a13, a14, a15]) 0 3 (fun _ _ _ _ _ => rfl) ⟨at0, _, _, _, _, _, _, _, _, _, _, _, _, _, _, rfl⟩ ?_ ?_
    · rintro sd S' ⟨_, a2, a3, a4, a5, a6, a7, a8, a9, a10, a11, a12, a13, a14, a15, rfl⟩
      simp only [z1T, w_dC, z1L, z1i, z1W, z1Y, w_d2, z2o, w_d3, z2m, z1Z, z1e, z1J, z1g, z1U, z2p, z1G, z2n, z1V, z1f, z1M, z2q, z1I, z1m, z1R, z1K, z1N, z1c, zL, z1a, z1Q, z1S, zN, z1j, zP, zM, z19, z1h, z1l, z1d, zR, z16, z1O, z18, z1n, zK, z17, z15, zO, zI, z1k, z2r, z1X, z1b, zH, z1w, z2K, z1F, w_ok, z2v, z1x, z2l, z27, z1C, z2h, z23, z2O, z2N, z2g, z1s, zU, z12, z28, z2b, z2c, z20, z2k, z21, z2i, z2F, z2D, z2B, z2L, z2y, z2H, z2t, z2A, z29, z1P, z1H, z2f, z14, z1r, Int.reduceToNat, Int.reduceLE, Int.reduceLT, Int.reduceNeg, startD, List.map_cons, List.map_nil, List.length_cons, List.length_nil, List.replicate, List.cons_append, List.nil_append, List.getElem?_cons_zero, List.getElem?_cons_succ, List.set_cons_zero, List.set_cons_succ, Nat.reduceAdd, Nat.reduceSub, Nat.reduceEqDiff, if_true, if_false, Bool.false_eq_true, decide_true, decide_false, Int.reduceEq, Int.reduceAdd, Int.reduceSub, Int.reduceMul, Bool.not_true, Bool.not_false, c_0, c_1, c_2, c_3, c_4, c_5, c_6, c_7, c_8, c_9, c_10, c_11, c_12, sz_0, sz_1, sz_2, sz_3, sz_4, sz_5, sz_6, sz_7, sz_8, sz_9, z2J, z2I, z2E, z2s, z2x, z2z, z2w, Bool.true_eq_false, eq_self, za, zb, z4, z7, z5, z3, zw, zy, zi, zr, zp, z8, zn, zj, ze, zg, zh, z6, zz, zu, zf, zq, zo, z9, zD, zE, zm, zt, zA, zc, zG, zB, zl, zv, zx, zd, z2j, z2a, zS, z1E, z1q, z25, z2C, z2u, z2G, zY, z26, z2d, zT, z1p, z1D, z24, z1o, zF, z1u, zQ, z1t, z1B, zC, zX, z10, z2e, z22, z1z, z1A, z1y, zV, z11, z1v, zJ, zW, zZ]
    · rintro turn sd S2 hturn ⟨at2, a2, a3, a4, a5, a6, a7, a8, a9, a10, a11, a12, a13, a14, a15, rfl⟩
      simp only [z1T, w_dC, z1L, z1i, z1W, z1Y, w_d2, z2o, w_d3, z2m, z1Z, z1e, z1J, z1g, z1U, z2p, z1G, z2n, z1V, z1f, z1M, z2q, z1I, z1m, z1R, z1K, z1N, z1c, zL, z1a, z1Q, z1S, zN, z1j, zP, zM, z19, z1h, z1l, z1d, zR, z16, z1O, z18, z1n, zK, z17, z15, zO, zI, z1k, z2r, z1X, z1b, zH, z1w, z2K, z1F, w_ok, z2v, z1x, z2l, z27, z1C, z2h, z23, z2g, z1s, zU, z12, z28, z2b, z2c, z20, z2k, z21, z2i, z2F, z2D, z2B, z2L, z2y, z2H, z2t, z2A, z29, z1P, z1H, z2f, z14, z1r, Int.reduceToNat, Int.reduceLE, Int.reduceLT, Int.reduceNeg, startD, List.map_cons, List.map_nil, List.length_cons, List.length_nil, List.replicate, List.cons_append, List.nil_append, List.getElem?_cons_zero, List.getElem?_cons_succ, List.set_cons_zero, List.set_cons_succ, Nat.reduceAdd, Nat.reduceSub, Nat.reduceEqDiff, if_true, if_false, Bool.false_eq_true, decide_true, decide_false, Int.reduceEq, Int.reduceAdd, Int.reduceSub, Int.reduceMul, Bool.not_true, Bool.not_false, c_0, c_1, c_2, c_3, c_4, c_5, c_6, c_7, c_8, c_9, c_10, c_11, c_12, sz_0, sz_1, sz_2, sz_3, sz_4, sz_5, sz_6, sz_7, sz_8, sz_9, z2J, z2I, z2E, z2s, z2x, z2z, z2w, Bool.true_eq_false, eq_self, za, zb, z4, z7, z5, z3, zw, zy, zi, zr, zp, z8, zn, zj, ze, zg, zh, z6, zz, zu, zf, zq, zo, z9, zD, zE, zm, zt, zA, zc, zG, zB, zl, zv, zx, zd, z2j, z2a, zS, z1E, z1q, z25, z2C, z2u, z2G, zY, z26, z2d, zT, z1p, z1D, z24, z1o, zF, z1u, zQ, z1t, z1B, zC, zX, z10, z2e, z22, z1z, z1A, z1y, zV, z11, z1v, zJ, zW, zZ]
      refine (draw at2).w ?_
      rintro _ S3 d3 ⟨u, rfl, u0, u1⟩
      obtain ⟨ins, hins, i1, i4⟩ : ∃ ins : Nat, atI [D.int 4, .int 4, .int (1 + u)] (0 + ((turn : Nat) : Int)) = some (.int ((ins : Nat) : Int)) ∧ 1 ≤ ins ∧ ins ≤ 4 := by
        have : turn = 0 ∨ turn = 1 ∨ turn = 2 := by omega
        rcases this with rfl | rfl | rfl
        · exact ⟨4, rfl, by decide, by decide⟩
        · exact ⟨4, rfl, by decide, by decide⟩
        · refine ⟨(1 + u).toNat, ?_, by omega, by omega⟩
          rw [show (((1 + u).toNat : Nat) : Int) = 1 + u by omega]
          rfl
      have lb : ∀ S, F__law_beats 40 [.int ((ins : Nat) : Int)] S = .ok (.frl ((allB ins).map sW)) S := fun S => by
        have := law_beats_ok (S := S) ins (39 - ins) (by omega)
        rw [show ins + 1 + (39 - ins) = 40 by omega] at this
        exact this
      have bl : (allB ins).length ≤ 16 := by rw [allB_many]; exact pow_le i4
      have hfl : ∀ (P : Bt → Bool), ((allB ins).filter P).length ≤ 16 := fun P => Nat.le_trans (List.length_filter_le _ _) bl
      simp only [z1T, w_dC, z1L, z1i, z1W, z1Y, w_d2, z2o, w_d3, z2m, z1Z, z1e, z1J, z1g, z1U, z2p, z1G, z2n, z1V, z1f, z1M, z2q, z1I, z1m, z1R, z1K, z1N, z1c, zL, z1a, z1Q, z1S, zN, z1j, zP, zM, z19, z1h, z1l, z1d, zR, z16, z1O, z18, z1n, zK, z17, z15, zO, zI, z1k, z2r, z1X, z1b, zH, z1w, z2K, z1F, w_ok, z2v, z1x, z2l, z27, z1C, z2h, z23, z2g, z1s, zU, z12, z28, z2b, z2c, z20, z2k, z21, z2i, z2F, z2D, z2B, z2L, z2y, z2H, z2t, z2A, z29, z1P, z1H, z2f, z14, z1r, Int.reduceToNat, Int.reduceLE, Int.reduceLT, Int.reduceNeg, startD, List.map_cons, List.map_nil, List.length_cons, List.length_nil, List.replicate, List.cons_append, List.nil_append, List.getElem?_cons_zero, List.getElem?_cons_succ, List.set_cons_zero, List.set_cons_succ, Nat.reduceAdd, Nat.reduceSub, Nat.reduceEqDiff, if_true, if_false, Bool.false_eq_true, decide_true, decide_false, Int.reduceEq, Int.reduceAdd, Int.reduceSub, Int.reduceMul, Bool.not_true, Bool.not_false, c_0, c_1, c_2, c_3, c_4, c_5, c_6, c_7, c_8, c_9, c_10, c_11, c_12, sz_0, sz_1, sz_2, sz_3, sz_4, sz_5, sz_6, sz_7, sz_8, sz_9, z2J, z2I, z2E, z2s, z2x, z2z, z2w, Bool.true_eq_false, eq_self, za, zb, z4, z7, z5, z3, zw, zy, zi, zr, zp, z8, zn, zj, ze, zg, zh, z6, zz, zu, zf, zq, zo, z9, zD, zE, zm, zt, zA, zc, zG, zB, zl, zv, zx, zd, z2j, z2a, zS, z1E, z1q, z25, z2C, z2u, z2G, zY, z26, z2d, zT, z1p, z1D, z24, z1o, zF, z1u, zQ, z1t, z1B, zC, zX, z10, z2e, z22, z1z, z1A, z1y, zV, z11, z1v, zJ, zW, zZ, hins, lb]
      refine (draw d3.at).w ?_
      rintro _ S4 d4 ⟨v, rfl, v0, v1⟩
      simp only [z1T, w_dC, z1L, z1i, z1W, z1Y, w_d2, z2o, w_d3, z2m, z1Z, z1e, z1J, z1g, z1U, z2p, z1G, z2n, z1V, z1f, z1M, z2q, z1I, z1m, z1R, z1K, z1N, z1c, zL, z1a, z1Q, z1S, zN, z1j, zP, zM, z19, z1h, z1l, z1d, zR, z16, z1O, z18, z1n, zK, z17, z15, zO, zI, z1k, z2r, z1X, z1b, zH, z1w, z2K, z1F, w_ok, z2v, z1x, z2l, z27, z1C, z2h, z23, z2g, z1s, zU, z12, z28, z2b, z2c, z20, z2k, z21, z2i, z2F, z2D, z2B, z2L, z2y, z2H, z2t, z2A, z29, z1P, z1H, z2f, z14, z1r, Int.reduceToNat, Int.reduceLE, Int.reduceLT, Int.reduceNeg, startD, List.map_cons, List.map_nil, List.length_cons, List.length_nil, List.replicate, List.cons_append, List.nil_append, List.getElem?_cons_zero, List.getElem?_cons_succ, List.set_cons_zero, List.set_cons_succ, Nat.reduceAdd, Nat.reduceSub, Nat.reduceEqDiff, if_true, if_false, Bool.false_eq_true, decide_true, decide_false, Int.reduceEq, Int.reduceAdd, Int.reduceSub, Int.reduceMul, Bool.not_true, Bool.not_false, c_0, c_1, c_2, c_3, c_4, c_5, c_6, c_7, c_8, c_9, c_10, c_11, c_12, sz_0, sz_1, sz_2, sz_3, sz_4, sz_5, sz_6, sz_7, sz_8, sz_9, z2J, z2I, z2E, z2s, z2x, z2z, z2w, Bool.true_eq_false, eq_self, za, zb, z4, z7, z5, z3, zw, zy, zi, zr, zp, z8, zn, zj, ze, zg, zh, z6, zz, zu, zf, zq, zo, z9, zD, zE, zm, zt, zA, zc, zG, zB, zl, zv, zx, zd, z2j, z2a, zS, z1E, z1q, z25, z2C, z2u, z2G, zY, z26, z2d, zT, z1p, z1D, z24, z1o, zF, z1u, zQ, z1t, z1B, zC, zX, z10, z2e, z22, z1z, z1A, z1y, zV, z11, z1v, zJ, zW, zZ]
      refine compGS d4.at.lt ?_
      simp only [z1T, w_dC, z1L, z1i, z1W, z1Y, w_d2, z2o, w_d3, z2m, z1Z, z1e, z1J, z1g, z1U, z2p, z1G, z2n, z1V, z1f, z1M, z2q, z1I, z1m, z1R, z1K, z1N, z1c, zL, z1a, z1Q, z1S, zN, z1j, zP, zM, z19, z1h, z1l, z1d, zR, z16, z1O, z18, z1n, zK, z17, z15, zO, zI, z1k, z2r, z1X, z1b, zH, z1w, z2K, z1F, w_ok, z2v, z1x, z2l, z27, z1C, z2h, z23, z2g, z1s, zU, z12, z28, z2b, z2c, z20, z2k, z21, z2i, z2F, z2D, z2B, z2L, z2y, z2H, z2t, z2A, z29, z1P, z1H, z2f, z14, z1r, Int.reduceToNat, Int.reduceLE, Int.reduceLT, Int.reduceNeg, startD, List.map_cons, List.map_nil, List.length_cons, List.length_nil, List.replicate, List.cons_append, List.nil_append, List.getElem?_cons_zero, List.getElem?_cons_succ, List.set_cons_zero, List.set_cons_succ, Nat.reduceAdd, Nat.reduceSub, Nat.reduceEqDiff, if_true, if_false, Bool.false_eq_true, decide_true, decide_false, Int.reduceEq, Int.reduceAdd, Int.reduceSub, Int.reduceMul, Bool.not_true, Bool.not_false, c_0, c_1, c_2, c_3, c_4, c_5, c_6, c_7, c_8, c_9, c_10, c_11, c_12, sz_0, sz_1, sz_2, sz_3, sz_4, sz_5, sz_6, sz_7, sz_8, sz_9, z2J, z2I, z2E, z2s, z2x, z2z, z2w, Bool.true_eq_false, eq_self, za, zb, z4, z7, z5, z3, zw, zy, zi, zr, zp, z8, zn, zj, ze, zg, zh, z6, zz, zu, zf, zq, zo, z9, zD, zE, zm, zt, zA, zc, zG, zB, zl, zv, zx, zd, z2j, z2a, zS, z1E, z1q, z25, z2C, z2u, z2G, zY, z26, z2d, zT, z1p, z1D, z24, z1o, zF, z1u, zQ, z1t, z1B, zC, zX, z10, z2e, z22, z1z, z1A, z1y, zV, z11, z1v, zJ, zW, zZ, itemsD]
      refine ⟨d4.at.self, by rw [List.length_map]; exact szn (by omega), fun _ => rfl, fun x hx S' T hd => ?_, ?_, ?_⟩
      · obtain ⟨b, hb, rfl⟩ := List.mem_map.mp hx
        simp only [z1T, w_dC, z1L, z1i, z1W, z1Y, w_d2, z2o, w_d3, z2m, z1Z, z1e, z1J, z1g, z1U, z2p, z1G, z2n, z1V, z1f, z1M, z2q, z1I, z1m, z1R, z1K, z1N, z1c, zL, z1a, z1Q, z1S, zN, z1j, zP, zM, z19, z1h, z1l, z1d, zR, z16, z1O, z18, z1n, zK, z17, z15, zO, zI, z1k, z2r, z1X, z1b, zH, z1w, z2K, z1F, w_ok, z2v, z1x, z2l, z27, z1C, z2h, z23, z2g, z1s, zU, z12, z28, z2b, z2c, z20, z2k, z21, z2i, z2F, z2D, z2B, z2L, z2y, z2H, z2t, z2A, z29, z1P, z1H, z2f, z14, z1r, Int.reduceToNat, Int.reduceLE, Int.reduceLT, Int.reduceNeg, startD, List.map_cons, List.map_nil, List.length_cons, List.length_nil, List.replicate, List.cons_append, List.nil_append, List.getElem?_cons_zero, List.getElem?_cons_succ, List.set_cons_zero, List.set_cons_succ, Nat.reduceAdd, Nat.reduceSub, Nat.reduceEqDiff, if_true, if_false, Bool.false_eq_true, decide_true, decide_false, Int.reduceEq, Int.reduceAdd, Int.reduceSub, Int.reduceMul, Bool.not_true, Bool.not_false, c_0, c_1, c_2, c_3, c_4, c_5, c_6, c_7, c_8, c_9, c_10, c_11, c_12, sz_0, sz_1, sz_2, sz_3, sz_4, sz_5, sz_6, sz_7, sz_8, sz_9, z2J, z2I, z2E, z2s, z2x, z2z, z2w, Bool.true_eq_false, eq_self, za, zb, z4, z7, z5, z3, zw, zy, zi, zr, zp, z8, zn, zj, ze, zg, zh, z6, zz, zu, zf, zq, zo, z9, zD, zE, zm, zt, zA, zc, zG, zB, zl, zv, zx, zd, z2j, z2a, zS, z1E, z1q, z25, z2C, z2u, z2G, zY, z26, z2d, zT, z1p, z1D, z24, z1o, zF, z1u, zQ, z1t, z1B, zC, zX, z10, z2e, z22, z1z, z1A, z1y, zV, z11, z1v, zJ, zW, zZ, wipeD]
        refine ⟨trivial, ?_⟩
        refine (draw (hd.at.app T) (many := 2 + v)).wT hd.at.lt ?_
        rintro _ S2 d2 ⟨w, rfl, w0, w1⟩
        simp only [z1T, w_dC, z1L, z1i, z1W, z1Y, w_d2, z2o, w_d3, z2m, z1Z, z1e, z1J, z1g, z1U, z2p, z1G, z2n, z1V, z1f, z1M, z2q, z1I, z1m, z1R, z1K, z1N, z1c, zL, z1a, z1Q, z1S, zN, z1j, zP, zM, z19, z1h, z1l, z1d, zR, z16, z1O, z18, z1n, zK, z17, z15, zO, zI, z1k, z2r, z1X, z1b, zH, z1w, z2K, z1F, w_ok, z2v, z1x, z2l, z27, z1C, z2h, z23, z2g, z1s, zU, z12, z28, z2b, z2c, z20, z2k, z21, z2i, z2F, z2D, z2B, z2L, z2y, z2H, z2t, z2A, z29, z1P, z1H, z2f, z14, z1r, Int.reduceToNat, Int.reduceLE, Int.reduceLT, Int.reduceNeg, startD, List.map_cons, List.map_nil, List.length_cons, List.length_nil, List.replicate, List.cons_append, List.nil_append, List.getElem?_cons_zero, List.getElem?_cons_succ, List.set_cons_zero, List.set_cons_succ, Nat.reduceAdd, Nat.reduceSub, Nat.reduceEqDiff, if_true, if_false, Bool.false_eq_true, decide_true, decide_false, Int.reduceEq, Int.reduceAdd, Int.reduceSub, Int.reduceMul, Bool.not_true, Bool.not_false, c_0, c_1, c_2, c_3, c_4, c_5, c_6, c_7, c_8, c_9, c_10, c_11, c_12, sz_0, sz_1, sz_2, sz_3, sz_4, sz_5, sz_6, sz_7, sz_8, sz_9, z2J, z2I, z2E, z2s, z2x, z2z, z2w, Bool.true_eq_false, eq_self, za, zb, z4, z7, z5, z3, zw, zy, zi, zr, zp, z8, zn, zj, ze, zg, zh, z6, zz, zu, zf, zq, zo, z9, zD, zE, zm, zt, zA, zc, zG, zB, zl, zv, zx, zd, z2j, z2a, zS, z1E, z1q, z25, z2C, z2u, z2G, zY, z26, z2d, zT, z1p, z1D, z24, z1o, zF, z1u, zQ, z1t, z1B, zC, zX, z10, z2e, z22, z1z, z1A, z1y, zV, z11, z1v, zJ, zW, zZ]
        exact ⟨S2, rfl, d2, fun _ => ⟨trivial, trivial⟩⟩
      · intro y hy
        obtain ⟨b, _, rfl⟩ := List.mem_map.mp hy
        rfl
      intro ys S5 d5 hys
      obtain ⟨l0, hl0, rfl⟩ := List.sublist_map_iff.mp hys
      have at5 := d5.at
      refine (draw (at5.app [.lst []])).wT at5.lt ?_
      rintro _ S6 d6 ⟨w, rfl, w0, w1⟩
      obtain ⟨n, rfl⟩ : ∃ n : Nat, w = ((n : Nat) : Int) := ⟨w.toNat, by omega⟩
      have e1n : (1 : Int) + ((n : Nat) : Int) = ((n + 1 : Nat) : Int) := by omega
      simp only [z1T, w_dC, z1L, z1i, z1W, z1Y, w_d2, z2o, w_d3, z2m, z1Z, z1e, z1J, z1g, z1U, z2p, z1G, z2n, z1V, z1f, z1M, z2q, z1I, z1m, z1R, z1K, z1N, z1c, zL, z1a, z1Q, z1S, zN, z1j, zP, zM, z19, z1h, z1l, z1d, zR, z16, z1O, z18, z1n, zK, z17, z15, zO, zI, z1k, z2r, z1X, z1b, zH, z1w, z2K, z1F, w_ok, z2v, z1x, z2l, z27, z1C, z2h, z23, z2g, z1s, zU, z12, z28, z2b, z2c, z20, z2k, z21, z2i, z2F, z2D, z2B, z2L, z2y, z2H, z2t, z2A, z29, z1P, z1H, z2f, z14, z1r, Int.reduceToNat, Int.reduceLE, Int.reduceLT, Int.reduceNeg, startD, List.map_cons, List.map_nil, List.length_cons, List.length_nil, List.replicate, List.cons_append, List.nil_append, List.getElem?_cons_zero, List.getElem?_cons_succ, List.set_cons_zero, List.set_cons_succ, Nat.reduceAdd, Nat.reduceSub, Nat.reduceEqDiff, if_true, if_false, Bool.false_eq_true, decide_true, decide_false, Int.reduceEq, Int.reduceAdd, Int.reduceSub, Int.reduceMul, Bool.not_true, Bool.not_false, c_0, c_1, c_2, c_3, c_4, c_5, c_6, c_7, c_8, c_9, c_10, c_11, c_12, sz_0, sz_1, sz_2, sz_3, sz_4, sz_5, sz_6, sz_7, sz_8, sz_9, z2J, z2I, z2E, z2s, z2x, z2z, z2w, Bool.true_eq_false, eq_self, za, zb, z4, z7, z5, z3, zw, zy, zi, zr, zp, z8, zn, zj, ze, zg, zh, z6, zz, zu, zf, zq, zo, z9, zD, zE, zm, zt, zA, zc, zG, zB, zl, zv, zx, zd, z2j, z2a, zS, z1E, z1q, z25, z2C, z2u, z2G, zY, z26, z2d, zT, z1p, z1D, z24, z1o, zF, z1u, zQ, z1t, z1B, zC, zX, z10, z2e, z22, z1z, z1A, z1y, zV, z11, z1v, zJ, zW, zZ, e1n]
      rw [w_ite (rng_ok (by omega))]
      simp only [z1T, w_dC, z1L, z1i, z1W, z1Y, w_d2, z2o, w_d3, z2m, z1Z, z1e, z1J, z1g, z1U, z2p, z1G, z2n, z1V, z1f, z1M, z2q, z1I, z1m, z1R, z1K, z1N, z1c, zL, z1a, z1Q, z1S, zN, z1j, zP, zM, z19, z1h, z1l, z1d, zR, z16, z1O, z18, z1n, zK, z17, z15, zO, zI, z1k, z2r, z1X, z1b, zH, z1w, z2K, z1F, w_ok, z2v, z1x, z2l, z27, z1C, z2h, z23, z2g, z1s, zU, z12, z28, z2b, z2c, z20, z2k, z21, z2i, z2F, z2D, z2B, z2L, z2y, z2H, z2t, z2A, z29, z1P, z1H, z2f, z14, z1r, Int.reduceToNat, Int.reduceLE, Int.reduceLT, Int.reduceNeg, startD, List.map_cons, List.map_nil, List.length_cons, List.length_nil, List.replicate, List.cons_append, List.nil_append, List.getElem?_cons_zero, List.getElem?_cons_succ, List.set_cons_zero, List.set_cons_succ, Nat.reduceAdd, Nat.reduceSub, Nat.reduceEqDiff, if_true, if_false, Bool.false_eq_true, decide_true, decide_false, Int.reduceEq, Int.reduceAdd, Int.reduceSub, Int.reduceMul, Bool.not_true, Bool.not_false, c_0, c_1, c_2, c_3, c_4, c_5, c_6, c_7, c_8, c_9, c_10, c_11, c_12, sz_0, sz_1, sz_2, sz_3, sz_4, sz_5, sz_6, sz_7, sz_8, sz_9, z2J, z2I, z2E, z2s, z2x, z2z, z2w, Bool.true_eq_false, eq_self, za, zb, z4, z7, z5, z3, zw, zy, zi, zr, zp, z8, zn, zj, ze, zg, zh, z6, zz, zu, zf, zq, zo, z9, zD, zE, zm, zt, zA, zc, zG, zB, zl, zv, zx, zd, z2j, z2a, zS, z1E, z1q, z25, z2C, z2u, z2G, zY, z26, z2d, zT, z1p, z1D, z24, z1o, zF, z1u, zQ, z1t, z1B, zC, zX, z10, z2e, z22, z1z, z1A, z1y, zV, z11, z1v, zJ, zW, zZ, Int.toNat_natCast]
      have h65 : S6.length = S5.length := d6.len
      generalize hp : S5.length = p at h65
      refine w_rangeP (fun i sd S' => ∃ (S7 : Sto) (ms : List Mk) (a8 : Option D), Dr l S6 S7 ∧ S' = S7 ++ [.lst (ms.map mW)] ∧ ms.length ≤ i ∧ (∀ m ∈ ms, m.length = ins) ∧ sd = [some x0, some (.ref l), some (.int (0 + ((turn : Nat) : Int))), some (.int ((ins : Nat) : Int)), some (.frl ((allB ins).map sW)), some (.int (2 + v)), some (.frl (l0.map sW)), some (.ref p), a8, a9, a10, a11, a12, a13, a14, a15]) 0 (n + 1) (fun _ _ _ _ _ => rfl) ⟨S6, [], _, d6.at.self, rfl, Nat.le_refl _, fun m hm => (by cases hm), rfl⟩ ?_ ?_
      · rintro sd S' ⟨S7, ms, b8, d7, rfl, hml, hm4, rfl⟩
        have h75 : S7.length = p := by rw [d7.len, h65]
        have hg : (S7 ++ [DO.lst (ms.map mW)])[p]? = some (.lst (ms.map mW)) := by rw [← h75]; exact get_last
        generalize hT : S7 ++ [DO.lst (ms.map mW)] = S8 at hg
        have at8 : At l S8 := by rw [← hT]; exact d7.at.app _
        have hc1 : dFrz (dComp [13] (iVal (dVar 4)) (gVar 13) (d2T neD (dFrz (dComp [15] (iVal (dVar 7)) (gVar 15) (tstB (dCallF 2 F__law_lets (dCons (dVar 15) (dCons (dVar 13) dNil)))) (dVar 15))) (dLstF dNil)) (dVar 13)) [some x0, some (.ref l), some (.int (0 + ((turn : Nat) : Int))), some (.int ((ins : Nat) : Int)), some (.frl ((allB ins).map sW)), some (.int (2 + v)), some (.frl (l0.map sW)), some (.ref p), b8, a9, a10, a11, a12, a13, a14, a15] S8 = .ok (.frl (((allB ins).filter fun b => !ms.all fun m => !ft m b).map sW)) S8 := by
          refine compF (allB ins) sW _ sW ?_ (Nat.le_trans (hfl _) (szn (by decide))) ?_ ?_
          · simp only [z1T, w_dC, z1L, z1i, z1W, z1Y, w_d2, z2o, w_d3, z2m, z1Z, z1e, z1J, z1g, z1U, z2p, z1G, z2n, z1V, z1f, z1M, z2q, z1I, z1m, z1R, z1K, z1N, z1c, zL, z1a, z1Q, z1S, zN, z1j, zP, zM, z19, z1h, z1l, z1d, zR, z16, z1O, z18, z1n, zK, z17, z15, zO, zI, z1k, z2r, z1X, z1b, zH, z1w, z2K, z1F, w_ok, z2v, z1x, z2l, z27, z1C, z2h, z23, z2g, z1s, zU, z12, z28, z2b, z2c, z20, z2k, z21, z2i, z2F, z2D, z2B, z2L, z2y, z2H, z2t, z2A, z29, z1P, z1H, z2f, z14, z1r, Int.reduceToNat, Int.reduceLE, Int.reduceLT, Int.reduceNeg, startD, List.map_cons, List.map_nil, List.length_cons, List.length_nil, List.replicate, List.cons_append, List.nil_append, List.getElem?_cons_zero, List.getElem?_cons_succ, List.set_cons_zero, List.set_cons_succ, Nat.reduceAdd, Nat.reduceSub, Nat.reduceEqDiff, if_true, if_false, Bool.false_eq_true, decide_true, decide_false, Int.reduceEq, Int.reduceAdd, Int.reduceSub, Int.reduceMul, Bool.not_true, Bool.not_false, c_0, c_1, c_2, c_3, c_4, c_5, c_6, c_7, c_8, c_9, c_10, c_11, c_12, sz_0, sz_1, sz_2, sz_3, sz_4, sz_5, sz_6, sz_7, sz_8, sz_9, z2J, z2I, z2E, z2s, z2x, z2z, z2w, Bool.true_eq_false, eq_self, za, zb, z4, z7, z5, z3, zw, zy, zi, zr, zp, z8, zn, zj, ze, zg, zh, z6, zz, zu, zf, zq, zo, z9, zD, zE, zm, zt, zA, zc, zG, zB, zl, zv, zx, zd, z2j, z2a, zS, z1E, z1q, z25, z2C, z2u, z2G, zY, z26, z2d, zT, z1p, z1D, z24, z1o, zF, z1u, zQ, z1t, z1B, zC, zX, z10, z2e, z22, z1z, z1A, z1y, zV, z11, z1v, zJ, zW, zZ, itemsD]
            exact ⟨trivial, trivial, fun _ _ => rfl⟩
          · intro b hb S' g
            have hb4 := allB_len ins b hb
            have hg' : S'[p]? = some (.lst (ms.map mW)) := by
              obtain ⟨T, rfl⟩ := g
              rw [List.getElem?_append_left (List.getElem?_eq_some_iff.mp hg).1]
              exact hg
            have hc2 : dFrz (dComp [15] (iVal (dVar 7)) (gVar 15) (tstB (dCallF 2 F__law_lets (dCons (dVar 15) (dCons (dVar 13) dNil)))) (dVar 15)) [some x0, some (.ref l), some (.int (0 + ((turn : Nat) : Int))), some (.int ((ins : Nat) : Int)), some (.frl ((allB ins).map sW)), some (.int (2 + v)), some (.frl (l0.map sW)), some (.ref p), b8, a9, a10, a11, a12, some (sW b), a14, a15] S' = .ok (.frl ((ms.filter fun m => ft m b).map mW)) S' := by
              refine compF ms mW _ mW ?_ (Nat.le_trans (List.length_filter_le _ _) (szn (by omega))) ?_ ?_
              · simp only [z1T, w_dC, z1L, z1i, z1W, z1Y, w_d2, z2o, w_d3, z2m, z1Z, z1e, z1J, z1g, z1U, z2p, z1G, z2n, z1V, z1f, z1M, z2q, z1I, z1m, z1R, z1K, z1N, z1c, zL, z1a, z1Q, z1S, zN, z1j, zP, zM, z19, z1h, z1l, z1d, zR, z16, z1O, z18, z1n, zK, z17, z15, zO, zI, z1k, z2r, z1X, z1b, zH, z1w, z2K, z1F, w_ok, z2v, z1x, z2l, z27, z1C, z2h, z23, z2g, z1s, zU, z12, z28, z2b, z2c, z20, z2k, z21, z2i, z2F, z2D, z2B, z2L, z2y, z2H, z2t, z2A, z29, z1P, z1H, z2f, z14, z1r, Int.reduceToNat, Int.reduceLE, Int.reduceLT, Int.reduceNeg, startD, List.map_cons, List.map_nil, List.length_cons, List.length_nil, List.replicate, List.cons_append, List.nil_append, List.getElem?_cons_zero, List.getElem?_cons_succ, List.set_cons_zero, List.set_cons_succ, Nat.reduceAdd, Nat.reduceSub, Nat.reduceEqDiff, if_true, if_false, Bool.false_eq_true, decide_true, decide_false, Int.reduceEq, Int.reduceAdd, Int.reduceSub, Int.reduceMul, Bool.not_true, Bool.not_false, c_0, c_1, c_2, c_3, c_4, c_5, c_6, c_7, c_8, c_9, c_10, c_11, c_12, sz_0, sz_1, sz_2, sz_3, sz_4, sz_5, sz_6, sz_7, sz_8, sz_9, z2J, z2I, z2E, z2s, z2x, z2z, z2w, Bool.true_eq_false, eq_self, za, zb, z4, z7, z5, z3, zw, zy, zi, zr, zp, z8, zn, zj, ze, zg, zh, z6, zz, zu, zf, zq, zo, z9, zD, zE, zm, zt, zA, zc, zG, zB, zl, zv, zx, zd, z2j, z2a, zS, z1E, z1q, z25, z2C, z2u, z2G, zY, z26, z2d, zT, z1p, z1D, z24, z1o, zF, z1u, zQ, z1t, z1B, zC, zX, z10, z2e, z22, z1z, z1A, z1y, zV, z11, z1v, zJ, zW, zZ, itemsD, hg']
                refine ⟨trivial, trivial, fun S'' g2 => ?_⟩
                obtain ⟨T, rfl⟩ := g2
                unfold chkL
                rw [List.getElem?_append_left (List.getElem?_eq_some_iff.mp hg').1, hg']
                exact decide_eq_true rfl
              · intro m hm S'' _
                have hml := hm4 m hm
                have := lets_ok (m := m) (b := b) (S := S'') (by omega) (by omega)
                simp only [z1T, w_dC, z1L, z1i, z1W, z1Y, w_d2, z2o, w_d3, z2m, z1Z, z1e, z1J, z1g, z1U, z2p, z1G, z2n, z1V, z1f, z1M, z2q, z1I, z1m, z1R, z1K, z1N, z1c, zL, z1a, z1Q, z1S, zN, z1j, zP, zM, z19, z1h, z1l, z1d, zR, z16, z1O, z18, z1n, zK, z17, z15, zO, zI, z1k, z2r, z1X, z1b, zH, z1w, z2K, z1F, w_ok, z2v, z1x, z2l, z27, z1C, z2h, z23, z2g, z1s, zU, z12, z28, z2b, z2c, z20, z2k, z21, z2i, z2F, z2D, z2B, z2L, z2y, z2H, z2t, z2A, z29, z1P, z1H, z2f, z14, z1r, Int.reduceToNat, Int.reduceLE, Int.reduceLT, Int.reduceNeg, startD, List.map_cons, List.map_nil, List.length_cons, List.length_nil, List.replicate, List.cons_append, List.nil_append, List.getElem?_cons_zero, List.getElem?_cons_succ, List.set_cons_zero, List.set_cons_succ, Nat.reduceAdd, Nat.reduceSub, Nat.reduceEqDiff, if_true, if_false, Bool.false_eq_true, decide_true, decide_false, Int.reduceEq, Int.reduceAdd, Int.reduceSub, Int.reduceMul, Bool.not_true, Bool.not_false, c_0, c_1, c_2, c_3, c_4, c_5, c_6, c_7, c_8, c_9, c_10, c_11, c_12, sz_0, sz_1, sz_2, sz_3, sz_4, sz_5, sz_6, sz_7, sz_8, sz_9, z2J, z2I, z2E, z2s, z2x, z2z, z2w, Bool.true_eq_false, eq_self, za, zb, z4, z7, z5, z3, zw, zy, zi, zr, zp, z8, zn, zj, ze, zg, zh, z6, zz, zu, zf, zq, zo, z9, zD, zE, zm, zt, zA, zc, zG, zB, zl, zv, zx, zd, z2j, z2a, zS, z1E, z1q, z25, z2C, z2u, z2G, zY, z26, z2d, zT, z1p, z1D, z24, z1o, zF, z1u, zQ, z1t, z1B, zC, zX, z10, z2e, z22, z1z, z1A, z1y, zV, z11, z1v, zJ, zW, zZ, wipeD, sW, mW, this]
                exact ⟨trivial, trivial, trivial, fun _ => ⟨trivial, trivial⟩⟩
              · intro m _ _; rfl
            simp only [z1T, w_dC, z1L, z1i, z1W, z1Y, w_d2, z2o, w_d3, z2m, z1Z, z1e, z1J, z1g, z1U, z2p, z1G, z2n, z1V, z1f, z1M, z2q, z1I, z1m, z1R, z1K, z1N, z1c, zL, z1a, z1Q, z1S, zN, z1j, zP, zM, z19, z1h, z1l, z1d, zR, z16, z1O, z18, z1n, zK, z17, z15, zO, zI, z1k, z2r, z1X, z1b, zH, z1w, z2K, z1F, w_ok, z2v, z1x, z2l, z27, z1C, z2h, z23, z2g, z1s, zU, z12, z28, z2b, z2c, z20, z2k, z21, z2i, z2F, z2D, z2B, z2L, z2y, z2H, z2t, z2A, z29, z1P, z1H, z2f, z14, z1r, Int.reduceToNat, Int.reduceLE, Int.reduceLT, Int.reduceNeg, startD, List.map_cons, List.map_nil, List.length_cons, List.length_nil, List.replicate, List.cons_append, List.nil_append, List.getElem?_cons_zero, List.getElem?_cons_succ, List.set_cons_zero, List.set_cons_succ, Nat.reduceAdd, Nat.reduceSub, Nat.reduceEqDiff, if_true, if_false, Bool.false_eq_true, decide_true, decide_false, Int.reduceEq, Int.reduceAdd, Int.reduceSub, Int.reduceMul, Bool.not_true, Bool.not_false, c_0, c_1, c_2, c_3, c_4, c_5, c_6, c_7, c_8, c_9, c_10, c_11, c_12, sz_0, sz_1, sz_2, sz_3, sz_4, sz_5, sz_6, sz_7, sz_8, sz_9, z2J, z2I, z2E, z2s, z2x, z2z, z2w, Bool.true_eq_false, eq_self, za, zb, z4, z7, z5, z3, zw, zy, zi, zr, zp, z8, zn, zj, ze, zg, zh, z6, zz, zu, zf, zq, zo, z9, zD, zE, zm, zt, zA, zc, zG, zB, zl, zv, zx, zd, z2j, z2a, zS, z1E, z1q, z25, z2C, z2u, z2G, zY, z26, z2d, zT, z1p, z1D, z24, z1o, zF, z1u, zQ, z1t, z1B, zC, zX, z10, z2e, z22, z1z, z1A, z1y, zV, z11, z1v, zJ, zW, zZ, wipeD, hc2]
            rw [w_neNil (f := mW) (n := 0) fun m _ => gd_W (wM_ok m)]
            simp only [z1T, w_dC, z1L, z1i, z1W, z1Y, w_d2, z2o, w_d3, z2m, z1Z, z1e, z1J, z1g, z1U, z2p, z1G, z2n, z1V, z1f, z1M, z2q, z1I, z1m, z1R, z1K, z1N, z1c, zL, z1a, z1Q, z1S, zN, z1j, zP, zM, z19, z1h, z1l, z1d, zR, z16, z1O, z18, z1n, zK, z17, z15, zO, zI, z1k, z2r, z1X, z1b, zH, z1w, z2K, z1F, w_ok, z2v, z1x, z2l, z27, z1C, z2h, z23, z2g, z1s, zU, z12, z28, z2b, z2c, z20, z2k, z21, z2i, z2F, z2D, z2B, z2L, z2y, z2H, z2t, z2A, z29, z1P, z1H, z2f, z14, z1r, Int.reduceToNat, Int.reduceLE, Int.reduceLT, Int.reduceNeg, startD, List.map_cons, List.map_nil, List.length_cons, List.length_nil, List.replicate, List.cons_append, List.nil_append, List.getElem?_cons_zero, List.getElem?_cons_succ, List.set_cons_zero, List.set_cons_succ, Nat.reduceAdd, Nat.reduceSub, Nat.reduceEqDiff, if_true, if_false, Bool.false_eq_true, decide_true, decide_false, Int.reduceEq, Int.reduceAdd, Int.reduceSub, Int.reduceMul, Bool.not_true, Bool.not_false, c_0, c_1, c_2, c_3, c_4, c_5, c_6, c_7, c_8, c_9, c_10, c_11, c_12, sz_0, sz_1, sz_2, sz_3, sz_4, sz_5, sz_6, sz_7, sz_8, sz_9, z2J, z2I, z2E, z2s, z2x, z2z, z2w, Bool.true_eq_false, eq_self, za, zb, z4, z7, z5, z3, zw, zy, zi, zr, zp, z8, zn, zj, ze, zg, zh, z6, zz, zu, zf, zq, zo, z9, zD, zE, zm, zt, zA, zc, zG, zB, zl, zv, zx, zd, z2j, z2a, zS, z1E, z1q, z25, z2C, z2u, z2G, zY, z26, z2d, zT, z1p, z1D, z24, z1o, zF, z1u, zQ, z1t, z1B, zC, zX, z10, z2e, z22, z1z, z1A, z1y, zV, z11, z1v, zJ, zW, zZ]
            exact ⟨trivial, trivial, trivial, fun _ => ⟨trivial, trivial⟩⟩
          · intro b _ _; rfl
        have hc3 : ∀ a9 : Option D, dFrz (dComp [13] (iVal (dVar 4)) (gVar 13) (d2T gtD (d2 modD (dBm "str" countSD (dVar 13) (dCons (dC (.str "1")) dNil)) (dC (.int 3))) (dC (.int 0))) (dVar 13)) [some x0, some (.ref l), some (.int (0 + ((turn : Nat) : Int))), some (.int ((ins : Nat) : Int)), some (.frl ((allB ins).map sW)), some (.int (2 + v)), some (.frl (l0.map sW)), some (.ref p), b8, a9, a10, a11, a12, a13, a14, a15] S8 = .ok (.frl (((allB ins).filter fun b => decide (0 < b.countP (fun x => x) % 3)).map sW)) S8 := fun a9 => by
          refine compF (allB ins) sW _ sW ?_ (Nat.le_trans (hfl _) (szn (by decide))) ?_ ?_
          · simp only [z1T, w_dC, z1L, z1i, z1W, z1Y, w_d2, z2o, w_d3, z2m, z1Z, z1e, z1J, z1g, z1U, z2p, z1G, z2n, z1V, z1f, z1M, z2q, z1I, z1m, z1R, z1K, z1N, z1c, zL, z1a, z1Q, z1S, zN, z1j, zP, zM, z19, z1h, z1l, z1d, zR, z16, z1O, z18, z1n, zK, z17, z15, zO, zI, z1k, z2r, z1X, z1b, zH, z1w, z2K, z1F, w_ok, z2v, z1x, z2l, z27, z1C, z2h, z23, z2g, z1s, zU, z12, z28, z2b, z2c, z20, z2k, z21, z2i, z2F, z2D, z2B, z2L, z2y, z2H, z2t, z2A, z29, z1P, z1H, z2f, z14, z1r, Int.reduceToNat, Int.reduceLE, Int.reduceLT, Int.reduceNeg, startD, List.map_cons, List.map_nil, List.length_cons, List.length_nil, List.replicate, List.cons_append, List.nil_append, List.getElem?_cons_zero, List.getElem?_cons_succ, List.set_cons_zero, List.set_cons_succ, Nat.reduceAdd, Nat.reduceSub, Nat.reduceEqDiff, if_true, if_false, Bool.false_eq_true, decide_true, decide_false, Int.reduceEq, Int.reduceAdd, Int.reduceSub, Int.reduceMul, Bool.not_true, Bool.not_false, c_0, c_1, c_2, c_3, c_4, c_5, c_6, c_7, c_8, c_9, c_10, c_11, c_12, sz_0, sz_1, sz_2, sz_3, sz_4, sz_5, sz_6, sz_7, sz_8, sz_9, z2J, z2I, z2E, z2s, z2x, z2z, z2w, Bool.true_eq_false, eq_self, za, zb, z4, z7, z5, z3, zw, zy, zi, zr, zp, z8, zn, zj, ze, zg, zh, z6, zz, zu, zf, zq, zo, z9, zD, zE, zm, zt, zA, zc, zG, zB, zl, zv, zx, zd, z2j, z2a, zS, z1E, z1q, z25, z2C, z2u, z2G, zY, z26, z2d, zT, z1p, z1D, z24, z1o, zF, z1u, zQ, z1t, z1B, zC, zX, z10, z2e, z22, z1z, z1A, z1y, zV, z11, z1v, zJ, zW, zZ, itemsD]
            exact ⟨trivial, trivial, fun _ _ => rfl⟩
          · intro b hb S' _
            simp only [z1T, w_dC, z1L, z1i, z1W, z1Y, w_d2, z2o, w_d3, z2m, z1Z, z1e, z1J, z1g, z1U, z2p, z1G, z2n, z1V, z1f, z1M, z2q, z1I, z1m, z1R, z1K, z1N, z1c, zL, z1a, z1Q, z1S, zN, z1j, zP, zM, z19, z1h, z1l, z1d, zR, z16, z1O, z18, z1n, zK, z17, z15, zO, zI, z1k, z2r, z1X, z1b, zH, z1w, z2K, z1F, w_ok, z2v, z1x, z2l, z27, z1C, z2h, z23, z2g, z1s, zU, z12, z28, z2b, z2c, z20, z2k, z21, z2i, z2F, z2D, z2B, z2L, z2y, z2H, z2t, z2A, z29, z1P, z1H, z2f, z14, z1r, Int.reduceToNat, Int.reduceLE, Int.reduceLT, Int.reduceNeg, startD, List.map_cons, List.map_nil, List.length_cons, List.length_nil, List.replicate, List.cons_append, List.nil_append, List.getElem?_cons_zero, List.getElem?_cons_succ, List.set_cons_zero, List.set_cons_succ, Nat.reduceAdd, Nat.reduceSub, Nat.reduceEqDiff, if_true, if_false, Bool.false_eq_true, decide_true, decide_false, Int.reduceEq, Int.reduceAdd, Int.reduceSub, Int.reduceMul, Bool.not_true, Bool.not_false, c_0, c_1, c_2, c_3, c_4, c_5, c_6, c_7, c_8, c_9, c_10, c_11, c_12, sz_0, sz_1, sz_2, sz_3, sz_4, sz_5, sz_6, sz_7, sz_8, sz_9, z2J, z2I, z2E, z2s, z2x, z2z, z2w, Bool.true_eq_false, eq_self, za, zb, z4, z7, z5, z3, zw, zy, zi, zr, zp, z8, zn, zj, ze, zg, zh, z6, zz, zu, zf, zq, zo, z9, zD, zE, zm, zt, zA, zc, zG, zB, zl, zv, zx, zd, z2j, z2a, zS, z1E, z1q, z25, z2C, z2u, z2G, zY, z26, z2d, zT, z1p, z1D, z24, z1o, zF, z1u, zQ, z1t, z1B, zC, zX, z10, z2e, z22, z1z, z1A, z1y, zV, z11, z1v, zJ, zW, zZ, wipeD, sW, W_1, countSD]
            rw [w_ite (show isTy "str" (.str (W (wB b))) S' = true from rfl)]
            simp only [z1T, w_dC, z1L, z1i, z1W, z1Y, w_d2, z2o, w_d3, z2m, z1Z, z1e, z1J, z1g, z1U, z2p, z1G, z2n, z1V, z1f, z1M, z2q, z1I, z1m, z1R, z1K, z1N, z1c, zL, z1a, z1Q, z1S, zN, z1j, zP, zM, z19, z1h, z1l, z1d, zR, z16, z1O, z18, z1n, zK, z17, z15, zO, zI, z1k, z2r, z1X, z1b, zH, z1w, z2K, z1F, w_ok, z2v, z1x, z2l, z27, z1C, z2h, z23, z2g, z1s, zU, z12, z28, z2b, z2c, z20, z2k, z21, z2i, z2F, z2D, z2B, z2L, z2y, z2H, z2t, z2A, z29, z1P, z1H, z2f, z14, z1r, Int.reduceToNat, Int.reduceLE, Int.reduceLT, Int.reduceNeg, startD, List.map_cons, List.map_nil, List.length_cons, List.length_nil, List.replicate, List.cons_append, List.nil_append, List.getElem?_cons_zero, List.getElem?_cons_succ, List.set_cons_zero, List.set_cons_succ, Nat.reduceAdd, Nat.reduceSub, Nat.reduceEqDiff, if_true, if_false, Bool.false_eq_true, decide_true, decide_false, Int.reduceEq, Int.reduceAdd, Int.reduceSub, Int.reduceMul, Bool.not_true, Bool.not_false, c_0, c_1, c_2, c_3, c_4, c_5, c_6, c_7, c_8, c_9, c_10, c_11, c_12, sz_0, sz_1, sz_2, sz_3, sz_4, sz_5, sz_6, sz_7, sz_8, sz_9, z2J, z2I, z2E, z2s, z2x, z2z, z2w, Bool.true_eq_false, eq_self, za, zb, z4, z7, z5, z3, zw, zy, zi, zr, zp, z8, zn, zj, ze, zg, zh, z6, zz, zu, zf, zq, zo, z9, zD, zE, zm, zt, zA, zc, zG, zB, zl, zv, zx, zd, z2j, z2a, zS, z1E, z1q, z25, z2C, z2u, z2G, zY, z26, z2d, zT, z1p, z1D, z24, z1o, zF, z1u, zQ, z1t, z1B, zC, zX, z10, z2e, z22, z1z, z1A, z1y, zV, z11, z1v, zJ, zW, zZ, countSD, cnt4 i4 hb, w_modI (show (0 : Int) < 3 by decide)]
            refine ⟨trivial, trivial, ?_, fun _ => ⟨trivial, trivial⟩⟩
            rw [decide_eq_decide]
            omega
          · intro b _ _; rfl
        simp only [z1T, w_dC, z1L, z1i, z1W, z1Y, w_d2, z2o, w_d3, z2m, z1Z, z1e, z1J, z1g, z1U, z2p, z1G, z2n, z1V, z1f, z1M, z2q, z1I, z1m, z1R, z1K, z1N, z1c, zL, z1a, z1Q, z1S, zN, z1j, zP, zM, z19, z1h, z1l, z1d, zR, z16, z1O, z18, z1n, zK, z17, z15, zO, zI, z1k, z2r, z1X, z1b, zH, z1w, z2K, z1F, w_ok, z2v, z1x, z2l, z27, z1C, z2h, z23, z2g, z1s, zU, z12, z28, z2b, z2c, z20, z2k, z21, z2i, z2F, z2D, z2B, z2L, z2y, z2H, z2t, z2A, z29, z1P, z1H, z2f, z14, z1r, Int.reduceToNat, Int.reduceLE, Int.reduceLT, Int.reduceNeg, startD, List.map_cons, List.map_nil, List.length_cons, List.length_nil, List.replicate, List.cons_append, List.nil_append, List.getElem?_cons_zero, List.getElem?_cons_succ, List.set_cons_zero, List.set_cons_succ, Nat.reduceAdd, Nat.reduceSub, Nat.reduceEqDiff, if_true, if_false, Bool.false_eq_true, decide_true, decide_false, Int.reduceEq, Int.reduceAdd, Int.reduceSub, Int.reduceMul, Bool.not_true, Bool.not_false, c_0, c_1, c_2, c_3, c_4, c_5, c_6, c_7, c_8, c_9, c_10, c_11, c_12, sz_0, sz_1, sz_2, sz_3, sz_4, sz_5, sz_6, sz_7, sz_8, sz_9, z2J, z2I, z2E, z2s, z2x, z2z, z2w, Bool.true_eq_false, eq_self, za, zb, z4, z7, z5, z3, zw, zy, zi, zr, zp, z8, zn, zj, ze, zg, zh, z6, zz, zu, zf, zq, zo, z9, zD, zE, zm, zt, zA, zc, zG, zB, zl, zv, zx, zd, z2j, z2a, zS, z1E, z1q, z25, z2C, z2u, z2G, zY, z26, z2d, zT, z1p, z1D, z24, z1o, zF, z1u, zQ, z1t, z1B, zC, zX, z10, z2e, z22, z1z, z1A, z1y, zV, z11, z1v, zJ, zW, zZ, hc1]
        simp only [z1T, w_dC, z1L, z1i, z1W, z1Y, w_d2, z2o, w_d3, z2m, z1Z, z1e, z1J, z1g, z1U, z2p, z1G, z2n, z1V, z1f, z1M, z2q, z1I, z1m, z1R, z1K, z1N, z1c, zL, z1a, z1Q, z1S, zN, z1j, zP, zM, z19, z1h, z1l, z1d, zR, z16, z1O, z18, z1n, zK, z17, z15, zO, zI, z1k, z2r, z1X, z1b, zH, z1w, z2K, z1F, w_ok, z2v, z1x, z2l, z27, z1C, z2h, z23, z2g, z1s, zU, z12, z28, z2b, z2c, z20, z2k, z21, z2i, z2F, z2D, z2B, z2L, z2y, z2H, z2t, z2A, z29, z1P, z1H, z2f, z14, z1r, Int.reduceToNat, Int.reduceLE, Int.reduceLT, Int.reduceNeg, startD, List.map_cons, List.map_nil, List.length_cons, List.length_nil, List.replicate, List.cons_append, List.nil_append, List.getElem?_cons_zero, List.getElem?_cons_succ, List.set_cons_zero, List.set_cons_succ, Nat.reduceAdd, Nat.reduceSub, Nat.reduceEqDiff, if_true, if_false, Bool.false_eq_true, decide_true, decide_false, Int.reduceEq, Int.reduceAdd, Int.reduceSub, Int.reduceMul, Bool.not_true, Bool.not_false, c_0, c_1, c_2, c_3, c_4, c_5, c_6, c_7, c_8, c_9, c_10, c_11, c_12, sz_0, sz_1, sz_2, sz_3, sz_4, sz_5, sz_6, sz_7, sz_8, sz_9, z2J, z2I, z2E, z2s, z2x, z2z, z2w, Bool.true_eq_false, eq_self, za, zb, z4, z7, z5, z3, zw, zy, zi, zr, zp, z8, zn, zj, ze, zg, zh, z6, zz, zu, zf, zq, zo, z9, zD, zE, zm, zt, zA, zc, zG, zB, zl, zv, zx, zd, z2j, z2a, zS, z1E, z1q, z25, z2C, z2u, z2G, zY, z26, z2d, zT, z1p, z1D, z24, z1o, zF, z1u, zQ, z1t, z1B, zC, zX, z10, z2e, z22, z1z, z1A, z1y, zV, z11, z1v, zJ, zW, zZ, hc3]
        refine (draw at8).w ?_
        rintro _ S9 d9 ⟨z, rfl, z0, z1⟩
        obtain ⟨s, hsz, hsub⟩ : ∃ s : List Bt, atI [D.frl (l0.map sW), .frl (((allB ins).filter fun b => !ms.all fun m => !ft m b).map sW), .frl ((allB ins).map sW), .frl (((allB ins).filter fun b => decide (0 < b.countP (fun x => x) % 3)).map sW)] z = some (.frl (s.map sW)) ∧ s.Sublist (allB ins) := by
          have : z = 0 ∨ z = 1 ∨ z = 2 ∨ z = 3 := by omega
          rcases this with rfl | rfl | rfl | rfl
          · exact ⟨l0, rfl, hl0⟩
          · exact ⟨_, rfl, List.filter_sublist⟩
          · exact ⟨_, rfl, List.Sublist.refl _⟩
          · exact ⟨_, rfl, List.filter_sublist⟩
        have hsl : s.length ≤ 16 := Nat.le_trans hsub.length_le bl
        have hs4 : ∀ b ∈ s, b.length = ins := fun b hb => allB_len ins b (hsub.subset hb)
        have hlf : ∀ (xs : List D) (S : Sto), listF [.frl xs] S = .ok (.frl xs) S := fun xs S => rfl
        have hr := fun (S : Sto) => fewest_raw (S := S) i1 i4 hs4 hsl (rise_sub hsub)
        simp only [z1T, w_dC, z1L, z1i, z1W, z1Y, w_d2, z2o, w_d3, z2m, z1Z, z1e, z1J, z1g, z1U, z2p, z1G, z2n, z1V, z1f, z1M, z2q, z1I, z1m, z1R, z1K, z1N, z1c, zL, z1a, z1Q, z1S, zN, z1j, zP, zM, z19, z1h, z1l, z1d, zR, z16, z1O, z18, z1n, zK, z17, z15, zO, zI, z1k, z2r, z1X, z1b, zH, z1w, z2K, z1F, w_ok, z2v, z1x, z2l, z27, z1C, z2h, z23, z2g, z1s, zU, z12, z28, z2b, z2c, z20, z2k, z21, z2i, z2F, z2D, z2B, z2L, z2y, z2H, z2t, z2A, z29, z1P, z1H, z2f, z14, z1r, Int.reduceToNat, Int.reduceLE, Int.reduceLT, Int.reduceNeg, startD, List.map_cons, List.map_nil, List.length_cons, List.length_nil, List.replicate, List.cons_append, List.nil_append, List.getElem?_cons_zero, List.getElem?_cons_succ, List.set_cons_zero, List.set_cons_succ, Nat.reduceAdd, Nat.reduceSub, Nat.reduceEqDiff, if_true, if_false, Bool.false_eq_true, decide_true, decide_false, Int.reduceEq, Int.reduceAdd, Int.reduceSub, Int.reduceMul, Bool.not_true, Bool.not_false, c_0, c_1, c_2, c_3, c_4, c_5, c_6, c_7, c_8, c_9, c_10, c_11, c_12, sz_0, sz_1, sz_2, sz_3, sz_4, sz_5, sz_6, sz_7, sz_8, sz_9, z2J, z2I, z2E, z2s, z2x, z2z, z2w, Bool.true_eq_false, eq_self, za, zb, z4, z7, z5, z3, zw, zy, zi, zr, zp, z8, zn, zj, ze, zg, zh, z6, zz, zu, zf, zq, zo, z9, zD, zE, zm, zt, zA, zc, zG, zB, zl, zv, zx, zd, z2j, z2a, zS, z1E, z1q, z25, z2C, z2u, z2G, zY, z26, z2d, zT, z1p, z1D, z24, z1o, zF, z1u, zQ, z1t, z1B, zC, zX, z10, z2e, z22, z1z, z1A, z1y, zV, z11, z1v, zJ, zW, zZ, hsz, law_fewest_ok i4 hsl hs4]
        rw [w_ite (rng_okI (by decide) (by decide))]
        simp only [z1T, w_dC, z1L, z1i, z1W, z1Y, w_d2, z2o, w_d3, z2m, z1Z, z1e, z1J, z1g, z1U, z2p, z1G, z2n, z1V, z1f, z1M, z2q, z1I, z1m, z1R, z1K, z1N, z1c, zL, z1a, z1Q, z1S, zN, z1j, zP, zM, z19, z1h, z1l, z1d, zR, z16, z1O, z18, z1n, zK, z17, z15, zO, zI, z1k, z2r, z1X, z1b, zH, z1w, z2K, z1F, w_ok, z2v, z1x, z2l, z27, z1C, z2h, z23, z2g, z1s, zU, z12, z28, z2b, z2c, z20, z2k, z21, z2i, z2F, z2D, z2B, z2L, z2y, z2H, z2t, z2A, z29, z1P, z1H, z2f, z14, z1r, Int.reduceToNat, Int.reduceLE, Int.reduceLT, Int.reduceNeg, startD, List.map_cons, List.map_nil, List.length_cons, List.length_nil, List.replicate, List.cons_append, List.nil_append, List.getElem?_cons_zero, List.getElem?_cons_succ, List.set_cons_zero, List.set_cons_succ, Nat.reduceAdd, Nat.reduceSub, Nat.reduceEqDiff, if_true, if_false, Bool.false_eq_true, decide_true, decide_false, Int.reduceEq, Int.reduceAdd, Int.reduceSub, Int.reduceMul, Bool.not_true, Bool.not_false, c_0, c_1, c_2, c_3, c_4, c_5, c_6, c_7, c_8, c_9, c_10, c_11, c_12, sz_0, sz_1, sz_2, sz_3, sz_4, sz_5, sz_6, sz_7, sz_8, sz_9, z2J, z2I, z2E, z2s, z2x, z2z, z2w, Bool.true_eq_false, eq_self, za, zb, z4, z7, z5, z3, zw, zy, zi, zr, zp, z8, zn, zj, ze, zg, zh, z6, zz, zu, zf, zq, zo, z9, zD, zE, zm, zt, zA, zc, zG, zB, zl, zv, zx, zd, z2j, z2a, zS, z1E, z1q, z25, z2C, z2u, z2G, zY, z26, z2d, zT, z1p, z1D, z24, z1o, zF, z1u, zQ, z1t, z1B, zC, zX, z10, z2e, z22, z1z, z1A, z1y, zV, z11, z1v, zJ, zW, zZ]
        have hfl16 : (fs (mks ins s) s).length ≤ 16 := Nat.le_trans (fsF_le _ _) hsl
        generalize (fs (mks ins s) s) = F at hr hfl16 ⊢
        refine w_rangeP (fun _ sd S' => At l S' ∧ ∃ a11 a12, sd = [some x0, some (.ref l), some (.int (0 + ((turn : Nat) : Int))), some (.int ((ins : Nat) : Int)), some (.frl ((allB ins).map sW)), some (.int (2 + v)), some (.frl (s.map sW)), some (.ref p), b8, some (.frl (((allB ins).filter fun b => !ms.all fun m => !ft m b).map sW)), some (.frl (F.map fun q => mW q.1)), a11, a12, a13, a14, a15]) 0 2 (fun _ _ _ _ _ => rfl) ⟨d9.at, _, _, rfl⟩ ?_ ?_
        · rintro sd S' ⟨at', c11, c12, rfl⟩
          exact ⟨at', _, _, _, _, _, _, _, _, _, _, _, _, _, _, rfl⟩
        · rintro i sd S' _ ⟨at', c11, c12, rfl⟩
          have hg : (S' ++ [DO.lst (F.map fun q => mW q.1)])[S'.length]? = some (.lst (F.map fun q => mW q.1)) := get_last
          have hsm : F__law_same 40 [.ref S'.length, .frl (F.map fun q => mW q.1)] (S' ++ [DO.lst (F.map fun q => mW q.1)]) = .ok (.bl true) (S' ++ [DO.lst (F.map fun q => mW q.1)]) := by
            refine same2_ok 1 38 (Sm.lst (xs := F.map fun q => mW q.1) (ys := F.map fun q => mW q.1) ?_ rfl (by rw [List.length_map]; omega) rfl fun i x y hx hy => ?_)
            · simp only [lsD, hg]
            · rw [hx] at hy
              cases hy
              obtain ⟨q, _, rfl⟩ := List.mem_map.mp (List.mem_of_getElem? hx)
              exact .str (strOk_W (wM_ok q.1))
          simp only [z1T, w_dC, z1L, z1i, z1W, z1Y, w_d2, z2o, w_d3, z2m, z1Z, z1e, z1J, z1g, z1U, z2p, z1G, z2n, z1V, z1f, z1M, z2q, z1I, z1m, z1R, z1K, z1N, z1c, zL, z1a, z1Q, z1S, zN, z1j, zP, zM, z19, z1h, z1l, z1d, zR, z16, z1O, z18, z1n, zK, z17, z15, zO, zI, z1k, z2r, z1X, z1b, zH, z1w, z2K, z1F, w_ok, z2v, z1x, z2l, z27, z1C, z2h, z23, z2g, z1s, zU, z12, z28, z2b, z2c, z20, z2k, z21, z2i, z2F, z2D, z2B, z2L, z2y, z2H, z2t, z2A, z29, z1P, z1H, z2f, z14, z1r, Int.reduceToNat, Int.reduceLE, Int.reduceLT, Int.reduceNeg, startD, List.map_cons, List.map_nil, List.length_cons, List.length_nil, List.replicate, List.cons_append, List.nil_append, List.getElem?_cons_zero, List.getElem?_cons_succ, List.set_cons_zero, List.set_cons_succ, Nat.reduceAdd, Nat.reduceSub, Nat.reduceEqDiff, if_true, if_false, Bool.false_eq_true, decide_true, decide_false, Int.reduceEq, Int.reduceAdd, Int.reduceSub, Int.reduceMul, Bool.not_true, Bool.not_false, c_0, c_1, c_2, c_3, c_4, c_5, c_6, c_7, c_8, c_9, c_10, c_11, c_12, sz_0, sz_1, sz_2, sz_3, sz_4, sz_5, sz_6, sz_7, sz_8, sz_9, z2J, z2I, z2E, z2s, z2x, z2z, z2w, Bool.true_eq_false, eq_self, za, zb, z4, z7, z5, z3, zw, zy, zi, zr, zp, z8, zn, zj, ze, zg, zh, z6, zz, zu, zf, zq, zo, z9, zD, zE, zm, zt, zA, zc, zG, zB, zl, zv, zx, zd, z2j, z2a, zS, z1E, z1q, z25, z2C, z2u, z2G, zY, z26, z2d, zT, z1p, z1D, z24, z1o, zF, z1u, zQ, z1t, z1B, zC, zX, z10, z2e, z22, z1z, z1A, z1y, zV, z11, z1v, zJ, zW, zZ, hlf, hr, hsm]
          rw [if_pos (isTy_lst hg)]
          simp only [z1T, w_dC, z1L, z1i, z1W, z1Y, w_d2, z2o, w_d3, z2m, z1Z, z1e, z1J, z1g, z1U, z2p, z1G, z2n, z1V, z1f, z1M, z2q, z1I, z1m, z1R, z1K, z1N, z1c, zL, z1a, z1Q, z1S, zN, z1j, zP, zM, z19, z1h, z1l, z1d, zR, z16, z1O, z18, z1n, zK, z17, z15, zO, zI, z1k, z2r, z1X, z1b, zH, z1w, z2K, z1F, w_ok, z2v, z1x, z2l, z27, z1C, z2h, z23, z2g, z1s, zU, z12, z28, z2b, z2c, z20, z2k, z21, z2i, z2F, z2D, z2B, z2L, z2y, z2H, z2t, z2A, z29, z1P, z1H, z2f, z14, z1r, Int.reduceToNat, Int.reduceLE, Int.reduceLT, Int.reduceNeg, startD, List.map_cons, List.map_nil, List.length_cons, List.length_nil, List.replicate, List.cons_append, List.nil_append, List.getElem?_cons_zero, List.getElem?_cons_succ, List.set_cons_zero, List.set_cons_succ, Nat.reduceAdd, Nat.reduceSub, Nat.reduceEqDiff, if_true, if_false, Bool.false_eq_true, decide_true, decide_false, Int.reduceEq, Int.reduceAdd, Int.reduceSub, Int.reduceMul, Bool.not_true, Bool.not_false, c_0, c_1, c_2, c_3, c_4, c_5, c_6, c_7, c_8, c_9, c_10, c_11, c_12, sz_0, sz_1, sz_2, sz_3, sz_4, sz_5, sz_6, sz_7, sz_8, sz_9, z2J, z2I, z2E, z2s, z2x, z2z, z2w, Bool.true_eq_false, eq_self, za, zb, z4, z7, z5, z3, zw, zy, zi, zr, zp, z8, zn, zj, ze, zg, zh, z6, zz, zu, zf, zq, zo, z9, zD, zE, zm, zt, zA, zc, zG, zB, zl, zv, zx, zd, z2j, z2a, zS, z1E, z1q, z25, z2C, z2u, z2G, zY, z26, z2d, zT, z1p, z1D, z24, z1o, zF, z1u, zQ, z1t, z1B, zC, zX, z10, z2e, z22, z1z, z1A, z1y, zV, z11, z1v, zJ, zW, zZ]
          rw [w_appL hg (szn (by rw [List.length_map]; omega)), set_last]
          simp only [z1T, w_dC, z1L, z1i, z1W, z1Y, w_d2, z2o, w_d3, z2m, z1Z, z1e, z1J, z1g, z1U, z2p, z1G, z2n, z1V, z1f, z1M, z2q, z1I, z1m, z1R, z1K, z1N, z1c, zL, z1a, z1Q, z1S, zN, z1j, zP, zM, z19, z1h, z1l, z1d, zR, z16, z1O, z18, z1n, zK, z17, z15, zO, zI, z1k, z2r, z1X, z1b, zH, z1w, z2K, z1F, w_ok, z2v, z1x, z2l, z27, z1C, z2h, z23, z2g, z1s, zU, z12, z28, z2b, z2c, z20, z2k, z21, z2i, z2F, z2D, z2B, z2L, z2y, z2H, z2t, z2A, z29, z1P, z1H, z2f, z14, z1r, Int.reduceToNat, Int.reduceLE, Int.reduceLT, Int.reduceNeg, startD, List.map_cons, List.map_nil, List.length_cons, List.length_nil, List.replicate, List.cons_append, List.nil_append, List.getElem?_cons_zero, List.getElem?_cons_succ, List.set_cons_zero, List.set_cons_succ, Nat.reduceAdd, Nat.reduceSub, Nat.reduceEqDiff, if_true, if_false, Bool.false_eq_true, decide_true, decide_false, Int.reduceEq, Int.reduceAdd, Int.reduceSub, Int.reduceMul, Bool.not_true, Bool.not_false, c_0, c_1, c_2, c_3, c_4, c_5, c_6, c_7, c_8, c_9, c_10, c_11, c_12, sz_0, sz_1, sz_2, sz_3, sz_4, sz_5, sz_6, sz_7, sz_8, sz_9, z2J, z2I, z2E, z2s, z2x, z2z, z2w, Bool.true_eq_false, eq_self, za, zb, z4, z7, z5, z3, zw, zy, zi, zr, zp, z8, zn, zj, ze, zg, zh, z6, zz, zu, zf, zq, zo, z9, zD, zE, zm, zt, zA, zc, zG, zB, zl, zv, zx, zd, z2j, z2a, zS, z1E, z1q, z25, z2C, z2u, z2G, zY, z26, z2d, zT, z1p, z1D, z24, z1o, zF, z1u, zQ, z1t, z1B, zC, zX, z10, z2e, z22, z1z, z1A, z1y, zV, z11, z1v, zJ, zW, zZ]
          exact ⟨at'.app _, _, _, rfl⟩
      · rintro i sd S' hi ⟨S7, ms, b8, d7, rfl, hml, hm4, rfl⟩
        have h75 : S7.length = p := by rw [d7.len, h65]
        have at7 := d7.at
        have hg : ∀ S7 : Sto, S7.length = p → ∀ L, (S7 ++ [DO.lst L])[p]? = some (.lst L) := fun S7 e L => by rw [← e]; exact get_last
        simp only [z1T, w_dC, z1L, z1i, z1W, z1Y, w_d2, z2o, w_d3, z2m, z1Z, z1e, z1J, z1g, z1U, z2p, z1G, z2n, z1V, z1f, z1M, z2q, z1I, z1m, z1R, z1K, z1N, z1c, zL, z1a, z1Q, z1S, zN, z1j, zP, zM, z19, z1h, z1l, z1d, zR, z16, z1O, z18, z1n, zK, z17, z15, zO, zI, z1k, z2r, z1X, z1b, zH, z1w, z2K, z1F, w_ok, z2v, z1x, z2l, z27, z1C, z2h, z23, z2g, z1s, zU, z12, z28, z2b, z2c, z20, z2k, z21, z2i, z2F, z2D, z2B, z2L, z2y, z2H, z2t, z2A, z29, z1P, z1H, z2f, z14, z1r, Int.reduceToNat, Int.reduceLE, Int.reduceLT, Int.reduceNeg, startD, List.map_cons, List.map_nil, List.length_cons, List.length_nil, List.replicate, List.cons_append, List.nil_append, List.getElem?_cons_zero, List.getElem?_cons_succ, List.set_cons_zero, List.set_cons_succ, Nat.reduceAdd, Nat.reduceSub, Nat.reduceEqDiff, if_true, if_false, Bool.false_eq_true, decide_true, decide_false, Int.reduceEq, Int.reduceAdd, Int.reduceSub, Int.reduceMul, Bool.not_true, Bool.not_false, c_0, c_1, c_2, c_3, c_4, c_5, c_6, c_7, c_8, c_9, c_10, c_11, c_12, sz_0, sz_1, sz_2, sz_3, sz_4, sz_5, sz_6, sz_7, sz_8, sz_9, z2J, z2I, z2E, z2s, z2x, z2z, z2w, Bool.true_eq_false, eq_self, za, zb, z4, z7, z5, z3, zw, zy, zi, zr, zp, z8, zn, zj, ze, zg, zh, z6, zz, zu, zf, zq, zo, z9, zD, zE, zm, zt, zA, zc, zG, zB, zl, zv, zx, zd, z2j, z2a, zS, z1E, z1q, z25, z2C, z2u, z2G, zY, z26, z2d, zT, z1p, z1D, z24, z1o, zF, z1u, zQ, z1t, z1B, zC, zX, z10, z2e, z22, z1z, z1A, z1y, zV, z11, z1v, zJ, zW, zZ]
        rw [if_pos (isTy_lst (hg S7 h75 _))]
        simp only [z1T, w_dC, z1L, z1i, z1W, z1Y, w_d2, z2o, w_d3, z2m, z1Z, z1e, z1J, z1g, z1U, z2p, z1G, z2n, z1V, z1f, z1M, z2q, z1I, z1m, z1R, z1K, z1N, z1c, zL, z1a, z1Q, z1S, zN, z1j, zP, zM, z19, z1h, z1l, z1d, zR, z16, z1O, z18, z1n, zK, z17, z15, zO, zI, z1k, z2r, z1X, z1b, zH, z1w, z2K, z1F, w_ok, z2v, z1x, z2l, z27, z1C, z2h, z23, z2g, z1s, zU, z12, z28, z2b, z2c, z20, z2k, z21, z2i, z2F, z2D, z2B, z2L, z2y, z2H, z2t, z2A, z29, z1P, z1H, z2f, z14, z1r, Int.reduceToNat, Int.reduceLE, Int.reduceLT, Int.reduceNeg, startD, List.map_cons, List.map_nil, List.length_cons, List.length_nil, List.replicate, List.cons_append, List.nil_append, List.getElem?_cons_zero, List.getElem?_cons_succ, List.set_cons_zero, List.set_cons_succ, Nat.reduceAdd, Nat.reduceSub, Nat.reduceEqDiff, if_true, if_false, Bool.false_eq_true, decide_true, decide_false, Int.reduceEq, Int.reduceAdd, Int.reduceSub, Int.reduceMul, Bool.not_true, Bool.not_false, c_0, c_1, c_2, c_3, c_4, c_5, c_6, c_7, c_8, c_9, c_10, c_11, c_12, sz_0, sz_1, sz_2, sz_3, sz_4, sz_5, sz_6, sz_7, sz_8, sz_9, z2J, z2I, z2E, z2s, z2x, z2z, z2w, Bool.true_eq_false, eq_self, za, zb, z4, z7, z5, z3, zw, zy, zi, zr, zp, z8, zn, zj, ze, zg, zh, z6, zz, zu, zf, zq, zo, z9, zD, zE, zm, zt, zA, zc, zG, zB, zl, zv, zx, zd, z2j, z2a, zS, z1E, z1q, z25, z2C, z2u, z2G, zY, z26, z2d, zT, z1p, z1D, z24, z1o, zF, z1u, zQ, z1t, z1B, zC, zX, z10, z2e, z22, z1z, z1A, z1y, zV, z11, z1v, zJ, zW, zZ]
        rw [w_ite (show isTy "str" (.str (Str.ofString "")) (S7 ++ [DO.lst (ms.map mW)]) = true from rfl)]
        simp only [z1T, w_dC, z1L, z1i, z1W, z1Y, w_d2, z2o, w_d3, z2m, z1Z, z1e, z1J, z1g, z1U, z2p, z1G, z2n, z1V, z1f, z1M, z2q, z1I, z1m, z1R, z1K, z1N, z1c, zL, z1a, z1Q, z1S, zN, z1j, zP, zM, z19, z1h, z1l, z1d, zR, z16, z1O, z18, z1n, zK, z17, z15, zO, zI, z1k, z2r, z1X, z1b, zH, z1w, z2K, z1F, w_ok, z2v, z1x, z2l, z27, z1C, z2h, z23, z2g, z1s, zU, z12, z28, z2b, z2c, z20, z2k, z21, z2i, z2F, z2D, z2B, z2L, z2y, z2H, z2t, z2A, z29, z1P, z1H, z2f, z14, z1r, Int.reduceToNat, Int.reduceLE, Int.reduceLT, Int.reduceNeg, startD, List.map_cons, List.map_nil, List.length_cons, List.length_nil, List.replicate, List.cons_append, List.nil_append, List.getElem?_cons_zero, List.getElem?_cons_succ, List.set_cons_zero, List.set_cons_succ, Nat.reduceAdd, Nat.reduceSub, Nat.reduceEqDiff, if_true, if_false, Bool.false_eq_true, decide_true, decide_false, Int.reduceEq, Int.reduceAdd, Int.reduceSub, Int.reduceMul, Bool.not_true, Bool.not_false, c_0, c_1, c_2, c_3, c_4, c_5, c_6, c_7, c_8, c_9, c_10, c_11, c_12, sz_0, sz_1, sz_2, sz_3, sz_4, sz_5, sz_6, sz_7, sz_8, sz_9, z2J, z2I, z2E, z2s, z2x, z2z, z2w, Bool.true_eq_false, eq_self, za, zb, z4, z7, z5, z3, zw, zy, zi, zr, zp, z8, zn, zj, ze, zg, zh, z6, zz, zu, zf, zq, zo, z9, zD, zE, zm, zt, zA, zc, zG, zB, zl, zv, zx, zd, z2j, z2a, zS, z1E, z1q, z25, z2C, z2u, z2G, zY, z26, z2d, zT, z1p, z1D, z24, z1o, zF, z1u, zQ, z1t, z1B, zC, zX, z10, z2e, z22, z1z, z1A, z1y, zV, z11, z1v, zJ, zW, zZ]
        refine compG (fun _ y => ∃ o, y = .str (W [cM o])) (at7.app _).lt ?_
        simp only [z1T, w_dC, z1L, z1i, z1W, z1Y, w_d2, z2o, w_d3, z2m, z1Z, z1e, z1J, z1g, z1U, z2p, z1G, z2n, z1V, z1f, z1M, z2q, z1I, z1m, z1R, z1K, z1N, z1c, zL, z1a, z1Q, z1S, zN, z1j, zP, zM, z19, z1h, z1l, z1d, zR, z16, z1O, z18, z1n, zK, z17, z15, zO, zI, z1k, z2r, z1X, z1b, zH, z1w, z2K, z1F, w_ok, z2v, z1x, z2l, z27, z1C, z2h, z23, z2g, z1s, zU, z12, z28, z2b, z2c, z20, z2k, z21, z2i, z2F, z2D, z2B, z2L, z2y, z2H, z2t, z2A, z29, z1P, z1H, z2f, z14, z1r, Int.reduceToNat, Int.reduceLE, Int.reduceLT, Int.reduceNeg, startD, List.map_cons, List.map_nil, List.length_cons, List.length_nil, List.replicate, List.cons_append, List.nil_append, List.getElem?_cons_zero, List.getElem?_cons_succ, List.set_cons_zero, List.set_cons_succ, Nat.reduceAdd, Nat.reduceSub, Nat.reduceEqDiff, if_true, if_false, Bool.false_eq_true, decide_true, decide_false, Int.reduceEq, Int.reduceAdd, Int.reduceSub, Int.reduceMul, Bool.not_true, Bool.not_false, c_0, c_1, c_2, c_3, c_4, c_5, c_6, c_7, c_8, c_9, c_10, c_11, c_12, sz_0, sz_1, sz_2, sz_3, sz_4, sz_5, sz_6, sz_7, sz_8, sz_9, z2J, z2I, z2E, z2s, z2x, z2z, z2w, Bool.true_eq_false, eq_self, za, zb, z4, z7, z5, z3, zw, zy, zi, zr, zp, z8, zn, zj, ze, zg, zh, z6, zz, zu, zf, zq, zo, z9, zD, zE, zm, zt, zA, zc, zG, zB, zl, zv, zx, zd, z2j, z2a, zS, z1E, z1q, z25, z2C, z2u, z2G, zY, z26, z2d, zT, z1p, z1D, z24, z1o, zF, z1u, zQ, z1t, z1B, zC, zX, z10, z2e, z22, z1z, z1A, z1y, zV, z11, z1v, zJ, zW, zZ]
        rw [w_ite (rng_ok (by omega))]
        simp only [z1T, w_dC, z1L, z1i, z1W, z1Y, w_d2, z2o, w_d3, z2m, z1Z, z1e, z1J, z1g, z1U, z2p, z1G, z2n, z1V, z1f, z1M, z2q, z1I, z1m, z1R, z1K, z1N, z1c, zL, z1a, z1Q, z1S, zN, z1j, zP, zM, z19, z1h, z1l, z1d, zR, z16, z1O, z18, z1n, zK, z17, z15, zO, zI, z1k, z2r, z1X, z1b, zH, z1w, z2K, z1F, w_ok, z2v, z1x, z2l, z27, z1C, z2h, z23, z2g, z1s, zU, z12, z28, z2b, z2c, z20, z2k, z21, z2i, z2F, z2D, z2B, z2L, z2y, z2H, z2t, z2A, z29, z1P, z1H, z2f, z14, z1r, Int.reduceToNat, Int.reduceLE, Int.reduceLT, Int.reduceNeg, startD, List.map_cons, List.map_nil, List.length_cons, List.length_nil, List.replicate, List.cons_append, List.nil_append, List.getElem?_cons_zero, List.getElem?_cons_succ, List.set_cons_zero, List.set_cons_succ, Nat.reduceAdd, Nat.reduceSub, Nat.reduceEqDiff, if_true, if_false, Bool.false_eq_true, decide_true, decide_false, Int.reduceEq, Int.reduceAdd, Int.reduceSub, Int.reduceMul, Bool.not_true, Bool.not_false, c_0, c_1, c_2, c_3, c_4, c_5, c_6, c_7, c_8, c_9, c_10, c_11, c_12, sz_0, sz_1, sz_2, sz_3, sz_4, sz_5, sz_6, sz_7, sz_8, sz_9, z2J, z2I, z2E, z2s, z2x, z2z, z2w, Bool.true_eq_false, eq_self, za, zb, z4, z7, z5, z3, zw, zy, zi, zr, zp, z8, zn, zj, ze, zg, zh, z6, zz, zu, zf, zq, zo, z9, zD, zE, zm, zt, zA, zc, zG, zB, zl, zv, zx, zd, z2j, z2a, zS, z1E, z1q, z25, z2C, z2u, z2G, zY, z26, z2d, zT, z1p, z1D, z24, z1o, zF, z1u, zQ, z1t, z1B, zC, zX, z10, z2e, z22, z1z, z1A, z1y, zV, z11, z1v, zJ, zW, zZ, Int.toNat_natCast]
        refine ⟨(at7.app _).self, szn (by rw [rangeL_len]; omega), fun _ => rfl, fun x hx S' T hd => ?_, ?_, ?_⟩
        · simp only [z1T, w_dC, z1L, z1i, z1W, z1Y, w_d2, z2o, w_d3, z2m, z1Z, z1e, z1J, z1g, z1U, z2p, z1G, z2n, z1V, z1f, z1M, z2q, z1I, z1m, z1R, z1K, z1N, z1c, zL, z1a, z1Q, z1S, zN, z1j, zP, zM, z19, z1h, z1l, z1d, zR, z16, z1O, z18, z1n, zK, z17, z15, zO, zI, z1k, z2r, z1X, z1b, zH, z1w, z2K, z1F, w_ok, z2v, z1x, z2l, z27, z1C, z2h, z23, z2g, z1s, zU, z12, z28, z2b, z2c, z20, z2k, z21, z2i, z2F, z2D, z2B, z2L, z2y, z2H, z2t, z2A, z29, z1P, z1H, z2f, z14, z1r, Int.reduceToNat, Int.reduceLE, Int.reduceLT, Int.reduceNeg, startD, List.map_cons, List.map_nil, List.length_cons, List.length_nil, List.replicate, List.cons_append, List.nil_append, List.getElem?_cons_zero, List.getElem?_cons_succ, List.set_cons_zero, List.set_cons_succ, Nat.reduceAdd, Nat.reduceSub, Nat.reduceEqDiff, if_true, if_false, Bool.false_eq_true, decide_true, decide_false, Int.reduceEq, Int.reduceAdd, Int.reduceSub, Int.reduceMul, Bool.not_true, Bool.not_false, c_0, c_1, c_2, c_3, c_4, c_5, c_6, c_7, c_8, c_9, c_10, c_11, c_12, sz_0, sz_1, sz_2, sz_3, sz_4, sz_5, sz_6, sz_7, sz_8, sz_9, z2J, z2I, z2E, z2s, z2x, z2z, z2w, Bool.true_eq_false, eq_self, za, zb, z4, z7, z5, z3, zw, zy, zi, zr, zp, z8, zn, zj, ze, zg, zh, z6, zz, zu, zf, zq, zo, z9, zD, zE, zm, zt, zA, zc, zG, zB, zl, zv, zx, zd, z2j, z2a, zS, z1E, z1q, z25, z2C, z2u, z2G, zY, z26, z2d, zT, z1p, z1D, z24, z1o, zF, z1u, zQ, z1t, z1B, zC, zX, z10, z2e, z22, z1z, z1A, z1y, zV, z11, z1v, zJ, zW, zZ, wipeD]
          refine ⟨trivial, trivial, trivial, ?_⟩
          refine (draw (hd.at.app T)).wT hd.at.lt ?_
          rintro _ S2 d2 ⟨v, rfl, v0, v1⟩
          obtain ⟨o, ho⟩ := at_d01 v0 v1
          simp only [z1T, w_dC, z1L, z1i, z1W, z1Y, w_d2, z2o, w_d3, z2m, z1Z, z1e, z1J, z1g, z1U, z2p, z1G, z2n, z1V, z1f, z1M, z2q, z1I, z1m, z1R, z1K, z1N, z1c, zL, z1a, z1Q, z1S, zN, z1j, zP, zM, z19, z1h, z1l, z1d, zR, z16, z1O, z18, z1n, zK, z17, z15, zO, zI, z1k, z2r, z1X, z1b, zH, z1w, z2K, z1F, w_ok, z2v, z1x, z2l, z27, z1C, z2h, z23, z2g, z1s, zU, z12, z28, z2b, z2c, z20, z2k, z21, z2i, z2F, z2D, z2B, z2L, z2y, z2H, z2t, z2A, z29, z1P, z1H, z2f, z14, z1r, Int.reduceToNat, Int.reduceLE, Int.reduceLT, Int.reduceNeg, startD, List.map_cons, List.map_nil, List.length_cons, List.length_nil, List.replicate, List.cons_append, List.nil_append, List.getElem?_cons_zero, List.getElem?_cons_succ, List.set_cons_zero, List.set_cons_succ, Nat.reduceAdd, Nat.reduceSub, Nat.reduceEqDiff, if_true, if_false, Bool.false_eq_true, decide_true, decide_false, Int.reduceEq, Int.reduceAdd, Int.reduceSub, Int.reduceMul, Bool.not_true, Bool.not_false, c_0, c_1, c_2, c_3, c_4, c_5, c_6, c_7, c_8, c_9, c_10, c_11, c_12, sz_0, sz_1, sz_2, sz_3, sz_4, sz_5, sz_6, sz_7, sz_8, sz_9, z2J, z2I, z2E, z2s, z2x, z2z, z2w, Bool.true_eq_false, eq_self, za, zb, z4, z7, z5, z3, zw, zy, zi, zr, zp, z8, zn, zj, ze, zg, zh, z6, zz, zu, zf, zq, zo, z9, zD, zE, zm, zt, zA, zc, zG, zB, zl, zv, zx, zd, z2j, z2a, zS, z1E, z1q, z25, z2C, z2u, z2G, zY, z26, z2d, zT, z1p, z1D, z24, z1o, zF, z1u, zQ, z1t, z1B, zC, zX, z10, z2e, z22, z1z, z1A, z1y, zV, z11, z1v, zJ, zW, zZ, W_d01]
          rw [ix_W (by decide) ho]
          exact ⟨S2, rfl, d2, _, rfl⟩
        · rintro x _ y ⟨b, rfl⟩
          rfl
        intro zs S8 d8 hz
        obtain ⟨S9, rfl, d9⟩ := d8.app at7.lt
        obtain ⟨m0, rfl⟩ := hz.ex (f := fun b : Option Bool => D.str (W [cM b])) fun a _ b hb => hb
        have hm0 : m0.length = ins := by
          have := hz.len
          rw [rangeL_len, List.length_map] at this
          exact this
        have ez : (m0.map fun b => D.str (W [cM b])) = (wM m0).map fun c => D.str (W [c]) := by simp [wM]
        have h95 : S9.length = p := by rw [d9.len, h75]
        simp only [z1T, w_dC, z1L, z1i, z1W, z1Y, w_d2, z2o, w_d3, z2m, z1Z, z1e, z1J, z1g, z1U, z2p, z1G, z2n, z1V, z1f, z1M, z2q, z1I, z1m, z1R, z1K, z1N, z1c, zL, z1a, z1Q, z1S, zN, z1j, zP, zM, z19, z1h, z1l, z1d, zR, z16, z1O, z18, z1n, zK, z17, z15, zO, zI, z1k, z2r, z1X, z1b, zH, z1w, z2K, z1F, w_ok, z2v, z1x, z2l, z27, z1C, z2h, z23, z2g, z1s, zU, z12, z28, z2b, z2c, z20, z2k, z21, z2i, z2F, z2D, z2B, z2L, z2y, z2H, z2t, z2A, z29, z1P, z1H, z2f, z14, z1r, Int.reduceToNat, Int.reduceLE, Int.reduceLT, Int.reduceNeg, startD, List.map_cons, List.map_nil, List.length_cons, List.length_nil, List.replicate, List.cons_append, List.nil_append, List.getElem?_cons_zero, List.getElem?_cons_succ, List.set_cons_zero, List.set_cons_succ, Nat.reduceAdd, Nat.reduceSub, Nat.reduceEqDiff, if_true, if_false, Bool.false_eq_true, decide_true, decide_false, Int.reduceEq, Int.reduceAdd, Int.reduceSub, Int.reduceMul, Bool.not_true, Bool.not_false, c_0, c_1, c_2, c_3, c_4, c_5, c_6, c_7, c_8, c_9, c_10, c_11, c_12, sz_0, sz_1, sz_2, sz_3, sz_4, sz_5, sz_6, sz_7, sz_8, sz_9, z2J, z2I, z2E, z2s, z2x, z2z, z2w, Bool.true_eq_false, eq_self, za, zb, z4, z7, z5, z3, zw, zy, zi, zr, zp, z8, zn, zj, ze, zg, zh, z6, zz, zu, zf, zq, zo, z9, zD, zE, zm, zt, zA, zc, zG, zB, zl, zv, zx, zd, z2j, z2a, zS, z1E, z1q, z25, z2C, z2u, z2G, zY, z26, z2d, zT, z1p, z1D, z24, z1o, zF, z1u, zQ, z1t, z1B, zC, zX, z10, z2e, z22, z1z, z1A, z1y, zV, z11, z1v, zJ, zW, zZ, W_empty]
        rw [ez, join_signs (by rw [wM_len]; omega)]
        simp only [z1T, w_dC, z1L, z1i, z1W, z1Y, w_d2, z2o, w_d3, z2m, z1Z, z1e, z1J, z1g, z1U, z2p, z1G, z2n, z1V, z1f, z1M, z2q, z1I, z1m, z1R, z1K, z1N, z1c, zL, z1a, z1Q, z1S, zN, z1j, zP, zM, z19, z1h, z1l, z1d, zR, z16, z1O, z18, z1n, zK, z17, z15, zO, zI, z1k, z2r, z1X, z1b, zH, z1w, z2K, z1F, w_ok, z2v, z1x, z2l, z27, z1C, z2h, z23, z2g, z1s, zU, z12, z28, z2b, z2c, z20, z2k, z21, z2i, z2F, z2D, z2B, z2L, z2y, z2H, z2t, z2A, z29, z1P, z1H, z2f, z14, z1r, Int.reduceToNat, Int.reduceLE, Int.reduceLT, Int.reduceNeg, startD, List.map_cons, List.map_nil, List.length_cons, List.length_nil, List.replicate, List.cons_append, List.nil_append, List.getElem?_cons_zero, List.getElem?_cons_succ, List.set_cons_zero, List.set_cons_succ, Nat.reduceAdd, Nat.reduceSub, Nat.reduceEqDiff, if_true, if_false, Bool.false_eq_true, decide_true, decide_false, Int.reduceEq, Int.reduceAdd, Int.reduceSub, Int.reduceMul, Bool.not_true, Bool.not_false, c_0, c_1, c_2, c_3, c_4, c_5, c_6, c_7, c_8, c_9, c_10, c_11, c_12, sz_0, sz_1, sz_2, sz_3, sz_4, sz_5, sz_6, sz_7, sz_8, sz_9, z2J, z2I, z2E, z2s, z2x, z2z, z2w, Bool.true_eq_false, eq_self, za, zb, z4, z7, z5, z3, zw, zy, zi, zr, zp, z8, zn, zj, ze, zg, zh, z6, zz, zu, zf, zq, zo, z9, zD, zE, zm, zt, zA, zc, zG, zB, zl, zv, zx, zd, z2j, z2a, zS, z1E, z1q, z25, z2C, z2u, z2G, zY, z26, z2d, zT, z1p, z1D, z24, z1o, zF, z1u, zQ, z1t, z1B, zC, zX, z10, z2e, z22, z1z, z1A, z1y, zV, z11, z1v, zJ, zW, zZ]
        rw [w_appL (hg S9 h95 _) (szn (by rw [List.length_map]; omega))]
        simp only [z1T, w_dC, z1L, z1i, z1W, z1Y, w_d2, z2o, w_d3, z2m, z1Z, z1e, z1J, z1g, z1U, z2p, z1G, z2n, z1V, z1f, z1M, z2q, z1I, z1m, z1R, z1K, z1N, z1c, zL, z1a, z1Q, z1S, zN, z1j, zP, zM, z19, z1h, z1l, z1d, zR, z16, z1O, z18, z1n, zK, z17, z15, zO, zI, z1k, z2r, z1X, z1b, zH, z1w, z2K, z1F, w_ok, z2v, z1x, z2l, z27, z1C, z2h, z23, z2g, z1s, zU, z12, z28, z2b, z2c, z20, z2k, z21, z2i, z2F, z2D, z2B, z2L, z2y, z2H, z2t, z2A, z29, z1P, z1H, z2f, z14, z1r, Int.reduceToNat, Int.reduceLE, Int.reduceLT, Int.reduceNeg, startD, List.map_cons, List.map_nil, List.length_cons, List.length_nil, List.replicate, List.cons_append, List.nil_append, List.getElem?_cons_zero, List.getElem?_cons_succ, List.set_cons_zero, List.set_cons_succ, Nat.reduceAdd, Nat.reduceSub, Nat.reduceEqDiff, if_true, if_false, Bool.false_eq_true, decide_true, decide_false, Int.reduceEq, Int.reduceAdd, Int.reduceSub, Int.reduceMul, Bool.not_true, Bool.not_false, c_0, c_1, c_2, c_3, c_4, c_5, c_6, c_7, c_8, c_9, c_10, c_11, c_12, sz_0, sz_1, sz_2, sz_3, sz_4, sz_5, sz_6, sz_7, sz_8, sz_9, z2J, z2I, z2E, z2s, z2x, z2z, z2w, Bool.true_eq_false, eq_self, za, zb, z4, z7, z5, z3, zw, zy, zi, zr, zp, z8, zn, zj, ze, zg, zh, z6, zz, zu, zf, zq, zo, z9, zD, zE, zm, zt, zA, zc, zG, zB, zl, zv, zx, zd, z2j, z2a, zS, z1E, z1q, z25, z2C, z2u, z2G, zY, z26, z2d, zT, z1p, z1D, z24, z1o, zF, z1u, zQ, z1t, z1B, zC, zX, z10, z2e, z22, z1z, z1A, z1y, zV, z11, z1v, zJ, zW, zZ]
        refine ⟨S9, ms ++ [m0], _, d7.trans d9, ?_, by simp; omega, fun m hm => ?_, rfl⟩
        · rw [← h95, set_last]
          simp [mW]
        · rcases List.mem_append.mp hm with h | h
          · exact hm4 m h
          · rw [List.mem_singleton.mp h]; exact hm0
  obtain ⟨d, S', e, rfl⟩ := Wp.ok main
  exact ⟨S', e⟩
theorem plain : ∀ ns : List Int, ns.length ≤ 63 → ∃ S', F_law [.frl (ns.map .int)] [] = .ok (.bl true) S' := fun ns _ => law_gen (S0 := []) rfl
end Lw

namespace Lw
open PySem PySem.Spec PyProof.Rows L2 DL
theorem run (w : World) : HandSHeadRun.RunEq R (PySem.W.view R.prog [27]) hk ob 20000 loose w := by
  intro os
  kernel_rfl
end Lw
open PySem PySem.W PySem.Calls PyProof.Rows
theorem PySem.Challenge.cw_tablebeat_k41_whole_fewest_marks_of_any_holds : PySem.Challenge.rw_tablebeat_k41_whole_fewest_marks_of_any.Holds := by
  w_on; o_law
  refine HandSHeadRun.head_any (r := OpenLaw.row PySem.Challenge.rw_tablebeat_k41_whole_fewest_marks_of_any) (q := view (OpenLaw.row PySem.Challenge.rw_tablebeat_k41_whole_fewest_marks_of_any).prog [27]) (H := Lw.hk) (ob := Lw.ob) (M := 20000) (loose := Lw.loose) (d := HandSHeadRun.topDef (OpenLaw.row PySem.Challenge.rw_tablebeat_k41_whole_fewest_marks_of_any).prog 27) (kwd := []) Lw.ob_eq
    (by kernel_rfl) (fun s => by kernel_rfl) Lw.run (by kernel_rfl) (by kernel_rfl) (by kernel_rfl) (by rfl) (by first | assumption | decide +kernel) (by decide +kernel) ⟨rfl, rfl, rfl, rfl, rfl, by decide +kernel⟩ ?hw ?hc
  case hw => w_witness2
  case hc =>
    refine DL.walk_D (l := PySem.Challenge.rw_tablebeat_k41_whole_fewest_marks_of_any) (k := 46) (x := "_law_script") (Fl := Lw.F_law) rfl (by kernel_rfl) ⟨rfl, by decide, by decide⟩ Lw.plain ?F
    intro w mg fa h Y G hmg0
    obtain ⟨K, KX, c, e⟩ := Y
    have T := Lw.tx_of (w := w) KX G c e
    have hmg : mg ("law" : PySem.Str) = some (.ref fa) := by
      have e : (HandSHeadRun.topDef (OpenLaw.row PySem.Challenge.rw_tablebeat_k41_whole_fewest_marks_of_any).prog 27).name = ("law" : PySem.Str) := by kernel_rfl
      rw [← e]
      exact hmg0
    obtain ⟨fd, Fu⟩ := T.f_law
    have e2 := hmg.symm.trans T.g_law
    cases e2
    obtain ⟨hb, hF⟩ := Lw.d_law (P := (PySem.Challenge.rw_tablebeat_k41_whole_fewest_marks_of_any).prog) (w := w) T Fu
    exact ⟨K, Lw.cl K w, fd, rfl, KX, hb, fun base _ _ => hF base⟩

