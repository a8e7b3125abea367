import PyProof.Rows.All
import Wide.All
import OpenK.AllK
import Wide.FinOn
import HandS.ForMost
import HandS.Exc
import HandS.Wide
import HandS.IsInst
import HandS.Flow
import HandS.Walk
import HandS.Style
import HandS.ExcOwn
import HandS.WordsExc
import HandS.CallSlots
import PyProof.Rows.RuleB_bool
import HandS.TupAny
import HandS.EndBits
import KE.KSuper
import KE.KExcSuper
import KE.KExcInit
import OpenK.KLine
import HandS.ExcInit
import HandS.TryOnly
import HandS.ExcField
import HandS.Deep
import KE.SortData
import HandS.SortInts
import HandS.SetFor
import HandS.Strs
import PyProof.Rows.SetFrom
import HandS.Small
import PySem.Challenge.RW_meterhouse_k15_whole_plans_of_merges
set_option Elab.async false
set_option linter.all false
set_option maxRecDepth 100000
set_option maxHeartbeats 4000000
namespace Pd
open PySem L2

/-- pure data: lists and dicts bear whether they are owned -/
inductive D where
  | non | bl (b : Bool) | int (i : Int) | str (x : Str) | raw (v : V)
  | tup (xs : List D)
  | lst (o : Bool) (xs : List D)
  | frl (t : Bool) (xs : List D)
  | dic (o : Bool) (t : Nat) (ks vs : List D)
  | obj (C : Str) (ns : List Str) (vs : List D)
deriving Inhabited

mutual
def D.beq : D → D → Bool
  | .non, .non => true
  | .bl a, .bl b => a == b
  | .int a, .int b => a == b
  | .str a, .str b => a == b
  | .raw a, .raw b => decide (a = b)
  | .tup a, .tup b => D.beqs a b
  | .frl t a, .frl u b => t == u && D.beqs a b
  | .lst o a, .lst p b => o == p && D.beqs a b
  | .dic o t a c, .dic p u b d => o == p && (t == u && (D.beqs a b && D.beqs c d))
  | .obj C a c, .obj E b d => C == E && (a == b && D.beqs c d)
  | _, _ => false
def D.beqs : List D → List D → Bool
  | [], [] => true
  | a :: as, b :: bs => D.beq a b && D.beqs as bs
  | _, _ => false
end
mutual
theorem D.beq_of : ∀ (a b : D), D.beq a b = true → a = b
  | .non, b, h => by cases b <;> first | rfl | cases h
  | .bl a, b, h => by cases b <;> first | (simp only [D.beq, beq_iff_eq] at h; rw [h]) | cases h
  | .int a, b, h => by cases b <;> first | (simp only [D.beq, beq_iff_eq] at h; rw [h]) | cases h
  | .str a, b, h => by cases b <;> first | (simp only [D.beq, beq_iff_eq] at h; rw [h]) | cases h
  | .raw a, b, h => by cases b <;> first | (simp only [D.beq, decide_eq_true_eq] at h; rw [h]) | cases h
  | .tup a, b, h => by cases b <;> first | (simp only [D.beq] at h; rw [D.beqs_of _ _ h]) | cases h
  | .frl t a, b, h => by cases b <;> first | (simp only [D.beq, Bool.and_eq_true, beq_iff_eq] at h; rw [h.1, D.beqs_of _ _ h.2]) | cases h
  | .lst o a, b, h => by cases b <;> first | (simp only [D.beq, Bool.and_eq_true, beq_iff_eq] at h; rw [h.1, D.beqs_of _ _ h.2]) | cases h
  | .dic o t a c, b, h => by cases b <;> first | (simp only [D.beq, Bool.and_eq_true, beq_iff_eq] at h; rw [h.1, h.2.1, D.beqs_of _ _ h.2.2.1, D.beqs_of _ _ h.2.2.2]) | cases h
  | .obj C a c, b, h => by cases b <;> first | (simp only [D.beq, Bool.and_eq_true, beq_iff_eq] at h; rw [h.1, h.2.1, D.beqs_of _ _ h.2.2]) | cases h
theorem D.beqs_of : ∀ (a b : List D), D.beqs a b = true → a = b
  | [], b, h => by cases b <;> first | rfl | cases h
  | a :: as, b, h => by cases b <;> first | (simp only [D.beqs, Bool.and_eq_true] at h; rw [D.beq_of _ _ h.1, D.beqs_of _ _ h.2]) | cases h
end
mutual
theorem D.beq_self : ∀ a : D, D.beq a a = true
  | .non => rfl
  | .bl a => by simp [D.beq]
  | .int a => by simp [D.beq]
  | .str a => by simp [D.beq]
  | .raw a => by simp [D.beq]
  | .tup a => by rw [D.beq]; exact D.beqs_self a
  | .frl t a => by simp [D.beq, D.beqs_self a]
  | .lst o a => by simp [D.beq, D.beqs_self a]
  | .dic o t a c => by simp [D.beq, D.beqs_self a, D.beqs_self c]
  | .obj C a c => by simp [D.beq, D.beqs_self c]
theorem D.beqs_self : ∀ a : List D, D.beqs a a = true
  | [] => rfl
  | a :: as => by simp [D.beqs, D.beq_self a, D.beqs_self as]
end
instance : DecidableEq D := fun a b => if h : D.beq a b = true then isTrue (D.beq_of a b h) else isFalse fun e => h (e ▸ D.beq_self a)

mutual
def fz : D → D
  | .tup xs => .tup (fzs xs)
  | .frl t xs => .frl t (fzs xs)
  | .lst _ xs => .lst false (fzs xs)
  | .dic _ t ks vs => .dic false t (fzs ks) (fzs vs)
  | .obj C ns vs => .obj C ns vs
  | .non => .non
  | .bl b => .bl b
  | .int i => .int i
  | .str x => .str x
  | .raw v => .raw v
def fzs : List D → List D
  | [] => []
  | d :: ds => fz d :: fzs ds
end
mutual
/-- nothing owned within -/
def isSh : D → Bool
  | .tup xs => isShs xs
  | .frl t xs => isShs xs
  | .lst o xs => !o && isShs xs
  | .dic o t ks vs => !o && isShs vs
  | .obj _ _ _ => false
  | .non => true
  | .bl _ => true
  | .int _ => true
  | .str _ => true
  | .raw _ => true
def isShs : List D → Bool
  | [] => true
  | d :: ds => isSh d && isShs ds
end
mutual
/-- no shared list or dict within -/
def noAl : D → Bool
  | .tup xs => noAls xs
  | .frl t xs => isShs xs && noAls xs
  | .lst o xs => o && noAls xs
  | .dic o t ks vs => o && noAls vs
  | .obj _ _ vs => noAls vs
  | .non => true
  | .bl _ => true
  | .int _ => true
  | .str _ => true
  | .raw _ => true
def noAls : List D → Bool
  | [] => true
  | d :: ds => noAl d && noAls ds
end
mutual
/-- no instance within -/
def noOb : D → Bool
  | .tup xs => noObs xs
  | .frl t xs => noObs xs
  | .lst _ xs => noObs xs
  | .dic _ t ks vs => noObs vs
  | .obj _ _ _ => false
  | .non => true
  | .bl _ => true
  | .int _ => true
  | .str _ => true
  | .raw _ => true
def noObs : List D → Bool
  | [] => true
  | d :: ds => noOb d && noObs ds
end
theorem fzs_map : ∀ l : List D, fzs l = l.map fz
  | [] => rfl
  | d :: ds => by rw [fzs, fzs_map ds, List.map_cons]
theorem isShs_all : ∀ l : List D, isShs l = l.all isSh
  | [] => rfl
  | d :: ds => by rw [isShs, isShs_all ds, List.all_cons]
theorem noAls_all : ∀ l : List D, noAls l = l.all noAl
  | [] => rfl
  | d :: ds => by rw [noAls, noAls_all ds, List.all_cons]
theorem noObs_all : ∀ l : List D, noObs l = l.all noOb
  | [] => rfl
  | d :: ds => by rw [noObs, noObs_all ds, List.all_cons]

def kD : Key → D
  | .inl i => .int i
  | .inr s => .str s
def tD (ks : List Key) : D := .tup (ks.map kD)

/-- a list of the written part -/
def KL (K : PySem.W.Frag) (a : Addr) (xs : List V) : Prop :=
  ∃ (o : Obj) (its : Array Value) (n : Nat), K.lookup a = some o ∧ o.cls = .type "list" ∧ o.dict = none ∧ o.data = .seq its n ∧ its.size ≤ sizeLine ∧ Vals xs its.toList
/-- a tuple of the written part -/
def KT (K : PySem.W.Frag) (a : Addr) (xs : List V) : Prop :=
  ∃ (o : Obj) (its : Array Value) (n : Nat), K.lookup a = some o ∧ o.cls = .type "tuple" ∧ o.data = .seq its n ∧ its.size ≤ sizeLine ∧ Vals xs its.toList
def TAt (K : PySem.W.Frag) (H : Hp) (a : Addr) (xs : List V) (fp : List Addr) : Prop := H a = some (.tup xs)
theorem TAt.sq {K : PySem.W.Frag} {H : Hp} {a : Addr} {xs : List V} {fp : List Addr} (h : TAt K H a xs fp) : SqT K H a xs := .inl (.inl h)
def LAt (H : Hp) (N : Addr → Prop) : Bool → Addr → List V → Prop
  | true, a, xs => H a = some (.lst xs)
  | false, a, xs => ¬ N a ∧ H a = some (.lst xs)
/-- a list or a tuple that is read alone: locked, or of the written part -/
def FAt (K : PySem.W.Frag) (H : Hp) : Bool → Addr → List V → Prop
  | false, a, xs => (∃ o, H a = some (.frz o (.lst xs))) ∨ KL K a xs
  | true, a, xs => (∃ o, H a = some (.frz o (.tup xs))) ∨ KT K a xs
theorem FAt.sq {K : PySem.W.Frag} {H : Hp} {a : Addr} {xs : List V} (h : FAt K H false a xs) : SqL K H a xs := by
  rcases h with ⟨o, h⟩ | h
  · exact .inl (.inr ⟨o, h⟩)
  · exact .inr h
theorem FAt.sqT {K : PySem.W.Frag} {H : Hp} {a : Addr} {xs : List V} (h : FAt K H true a xs) : SqT K H a xs := by
  rcases h with ⟨o, h⟩ | h
  · exact .inl (.inr ⟨o, h⟩)
  · exact .inr h
theorem FAt.keep {K : PySem.W.Frag} {H H' : Hp} {t : Bool} {a : Addr} {xs : List V} (h : FAt K H t a xs) (k : ∀ o, H a = some o → ¬ Mut (some o) → H' a = some o) : FAt K H' t a xs := by
  cases t with
  | false =>
    rcases h with ⟨o, h⟩ | h
    · exact .inl ⟨o, k _ h fun z => z⟩
    · exact .inr h
  | true =>
    rcases h with ⟨o, h⟩ | h
    · exact .inl ⟨o, k _ h fun z => z⟩
    · exact .inr h
/-- keys and values of a dict, as its object has them -/
def DO (t : Nat) (ks : List D) (vs : List V) (o : HO) : Prop :=
  (t = 0 ∧ ∃ kk : List Key, ks = kk.map kD ∧ kk.length = vs.length ∧ o = .dK (kk.zip vs)) ∨ (t = 1 ∧ ∃ kk : List (List Key), ks = kk.map tD ∧ kk.length = vs.length ∧ o = .dT (kk.zip vs))
def DAt (H : Hp) (N : Addr → Prop) : Bool → Nat → Addr → List D → List V → Prop
  | true, t, a, ks, vs => ∃ o, H a = some o ∧ DO t ks vs o
  | false, t, a, ks, vs => ¬ N a ∧ ∃ o, H a = some o ∧ DO t ks vs o
def Own : Bool → Addr → List Addr → List Addr → Prop
  | true, a, fp, fp' => fp = a :: fp'
  | false, _, fp, fp' => fp = [] ∧ fp' = []

/-- an instance of the program's class C -/
def IAt (K : PySem.W.Frag) (H : Hp) (C : Str) (a dx : Addr) (fs : List (Str × V)) : Prop := ∃ Ca, PySem.W.nsIn K mainGlobals C = some (some (.ref Ca)) ∧ H a = some (.ins Ca dx fs)
mutual
/-- v is d at H: fp are the owned addresses within; what is shared is not among N -/
def Rp (K : PySem.W.Frag) (H : Hp) (N : Addr → Prop) : D → V → List Addr → Prop
  | .non, v, fp => v = .non ∧ fp = []
  | .bl b, v, fp => v = .bl b ∧ fp = []
  | .int i, v, fp => v = .int i ∧ fp = []
  | .str x, v, fp => v = .str x ∧ fp = []
  | .raw u, v, fp => v = u ∧ fp = []
  | .tup xs, v, fp => ∃ a vs, v = .ref a ∧ TAt K H a vs fp ∧ Rps K H N xs vs fp
  | .frl t xs, v, fp => fp = [] ∧ ∃ a vs, v = .ref a ∧ FAt K H t a vs ∧ Rps K H N xs vs []
  | .lst o xs, v, fp => ∃ a vs fp', v = .ref a ∧ Own o a fp fp' ∧ LAt H N o a vs ∧ Rps K H N xs vs fp'
  | .dic o t ks xs, v, fp => ∃ a vs fp', v = .ref a ∧ Own o a fp fp' ∧ DAt H N o t a ks vs ∧ Rps K H N xs vs fp'
  | .obj C ns xs, v, fp => ∃ a dx vs fp', v = .ref a ∧ fp = a :: fp' ∧ ns.length = vs.length ∧ IAt K H C a dx (ns.zip vs) ∧ Rps K H N xs vs fp'
def Rps (K : PySem.W.Frag) (H : Hp) (N : Addr → Prop) : List D → List V → List Addr → Prop
  | [], vs, fp => vs = [] ∧ fp = []
  | d :: ds, vs, fp => ∃ v vs' f1 f2, vs = v :: vs' ∧ fp = f1 ++ f2 ∧ Rp K H N d v f1 ∧ Rps K H N ds vs' f2
end

/-- all tracked is as it was -/
def Ext (H H' : Hp) : Prop := ∀ a o, H a = some o → H' a = some o
theorem Ext.refl (H : Hp) : Ext H H := fun _ _ h => h
theorem Ext.trans {H H1 H2 : Hp} (h : Ext H H1) (h' : Ext H1 H2) : Ext H H2 := fun a o e => h' a o (h a o e)
theorem Ext.upd {H : Hp} {p : Addr} {o : HO} (h : H p = none) : Ext H (upd H p o) := fun a u e => by
  rw [upd_ne (ne_of_none e h)]; exact e

section
variable {K : PySem.W.Frag} {H H' : Hp} {N N' M : Addr → Prop}
theorem Rd.keep {a : Addr} {u : HO} (r : Rd H a u) (k : ∀ o, H a = some o → H' a = some o) : Rd H' a u := by
  rcases r with r | ⟨o, r⟩
  · exact .inl (k _ r)
  · exact .inr ⟨o, k _ r⟩
theorem TAt.keepM {a : Addr} {vs : List V} {fp : List Addr} (r : TAt K H a vs fp) (k : ∀ a o, H a = some o → ¬ M a → H' a = some o) (m : ∀ a, M a → Mut (H a)) : TAt K H' a vs fp := by
  refine k a _ r fun hm => ?_
  have z := m a hm
  rw [show H a = some (.tup vs) from r] at z
  exact z
mutual
theorem Rp.frame (k : ∀ a o, H a = some o → ¬ M a → H' a = some o) (m : ∀ a, M a → Mut (H a) ∧ N a) (n : ∀ a, N' a → N a ∨ H a = none) :
    ∀ (d : D) {v : V} {fp : List Addr}, (∀ a ∈ fp, ¬ M a) → Rp K H N d v fp → Rp K H' N' d v fp
  | .non, v, fp, f, h => h
  | .bl b, v, fp, f, h => h
  | .int i, v, fp, f, h => h
  | .str x, v, fp, f, h => h
  | .raw u, v, fp, f, h => h
  | .tup xs, v, fp, f, h => by
    obtain ⟨a, vs, e, s, r⟩ := h
    exact ⟨a, vs, e, TAt.keepM s k fun a h => (m a h).1, Rps.frame k m n xs f r⟩
  | .lst o xs, v, fp, f, h => by
    obtain ⟨a, vs, fp', e, w, l, r⟩ := h
    cases o with
    | true =>
      have w' : fp = a :: fp' := w
      subst w'
      exact ⟨a, vs, fp', e, rfl, k a _ l (f a List.mem_cons_self), Rps.frame k m n xs (fun b hb => f b (List.mem_cons_of_mem _ hb)) r⟩
    | false =>
      obtain ⟨w1, w2⟩ := w
      subst w1; subst w2
      obtain ⟨l1, l2⟩ := l
      refine ⟨a, vs, [], e, ⟨rfl, rfl⟩, ⟨fun z => ?_, k a _ l2 fun hm => l1 (m a hm).2⟩, Rps.frame k m n xs (by intro b hb; cases hb) r⟩
      rcases n a z with z | z
      · exact l1 z
      · rw [z] at l2; cases l2
  | .frl t xs, v, fp, f, h => by
    obtain ⟨e0, a, vs, e, s, r⟩ := h
    refine ⟨e0, a, vs, e, s.keep fun o ho nm => k a _ ho fun hm => ?_, Rps.frame k m n xs (by intro b hb; cases hb) r⟩
    have z := (m a hm).1
    rw [ho] at z; exact nm z
  | .dic o t ks xs, v, fp, f, h => by
    obtain ⟨a, vs, fp', e, w, l, r⟩ := h
    cases o with
    | true =>
      have w' : fp = a :: fp' := w
      subst w'
      obtain ⟨ho, l1, l2⟩ := l
      exact ⟨a, vs, fp', e, rfl, ⟨ho, k a _ l1 (f a List.mem_cons_self), l2⟩, Rps.frame k m n xs (fun b hb => f b (List.mem_cons_of_mem _ hb)) r⟩
    | false =>
      obtain ⟨w1, w2⟩ := w
      subst w1; subst w2
      obtain ⟨l1, ho, l2, l3⟩ := l
      refine ⟨a, vs, [], e, ⟨rfl, rfl⟩, ⟨fun z => ?_, ho, k a _ l2 fun hm => l1 (m a hm).2, l3⟩, Rps.frame k m n xs (by intro b hb; cases hb) r⟩
      rcases n a z with z | z
      · exact l1 z
      · rw [z] at l2; cases l2
  | .obj C ns xs, v, fp, f, h => by
    obtain ⟨a, dx, vs, fp', e, w, l, ⟨Ca, cn, i⟩, r⟩ := h
    subst w
    exact ⟨a, dx, vs, fp', e, rfl, l, ⟨Ca, cn, k a _ i (f a List.mem_cons_self)⟩, Rps.frame k m n xs (fun b hb => f b (List.mem_cons_of_mem _ hb)) r⟩
theorem Rps.frame (k : ∀ a o, H a = some o → ¬ M a → H' a = some o) (m : ∀ a, M a → Mut (H a) ∧ N a) (n : ∀ a, N' a → N a ∨ H a = none) :
    ∀ (d : List D) {v : List V} {fp : List Addr}, (∀ a ∈ fp, ¬ M a) → Rps K H N d v fp → Rps K H' N' d v fp
  | [], v, fp, f, h => h
  | d :: ds, v, fp, f, h => by
    obtain ⟨u, vs', f1, f2, e1, e2, r1, r2⟩ := h
    subst e2
    exact ⟨u, vs', f1, f2, e1, rfl, Rp.frame k m n d (fun a ha => f a (List.mem_append_left _ ha)) r1, Rps.frame k m n ds (fun a ha => f a (List.mem_append_right _ ha)) r2⟩
end
/-- only grown; N' within N and what is new -/
theorem Rp.grow {d : D} {v : V} {fp : List Addr} (h : Rp K H N d v fp) (k : Ext H H') (n : ∀ a, N' a → N a ∨ H a = none) : Rp K H' N' d v fp :=
  Rp.frame (M := fun _ => False) (fun a o e _ => k a o e) (fun _ z => z.elim) n d (fun _ _ z => z) h
theorem Rps.grow {d : List D} {v : List V} {fp : List Addr} (h : Rps K H N d v fp) (k : Ext H H') (n : ∀ a, N' a → N a ∨ H a = none) : Rps K H' N' d v fp :=
  Rps.frame (M := fun _ => False) (fun a o e _ => k a o e) (fun _ z => z.elim) n d (fun _ _ z => z) h

mutual
/-- owned addresses hold what may be written -/
theorem Rp.mut : ∀ (d : D) {v : V} {fp : List Addr}, Rp K H N d v fp → ∀ a ∈ fp, Mut (H a)
  | .non, v, fp, h, a, ha => by rw [h.2] at ha; cases ha
  | .bl b, v, fp, h, a, ha => by rw [h.2] at ha; cases ha
  | .int i, v, fp, h, a, ha => by rw [h.2] at ha; cases ha
  | .str x, v, fp, h, a, ha => by rw [h.2] at ha; cases ha
  | .raw u, v, fp, h, a, ha => by rw [h.2] at ha; cases ha
  | .tup xs, v, fp, h, a, ha => by
    obtain ⟨_, vs, e, s, r⟩ := h
    exact Rps.mut xs r a ha
  | .frl t xs, v, fp, h, b, hb => by rw [h.1] at hb; cases hb
  | .lst o xs, v, fp, h, b, hb => by
    obtain ⟨a, vs, fp', e, w, l, r⟩ := h
    cases o with
    | true =>
      have w' : fp = a :: fp' := w
      subst w'
      rcases List.mem_cons.mp hb with rfl | hb
      · have l' : H b = some (.lst vs) := l
        rw [l']; trivial
      · exact Rps.mut xs r b hb
    | false => obtain ⟨w1, w2⟩ := w; subst w1; cases hb
  | .dic o t ks xs, v, fp, h, b, hb => by
    obtain ⟨a, vs, fp', e, w, l, r⟩ := h
    cases o with
    | true =>
      have w' : fp = a :: fp' := w
      subst w'
      rcases List.mem_cons.mp hb with rfl | hb
      · obtain ⟨ho, l1, l2⟩ := l
        rw [l1]
        rcases l2 with ⟨_, _, _, _, rfl⟩ | ⟨_, _, _, _, rfl⟩ <;> trivial
      · exact Rps.mut xs r b hb
    | false => obtain ⟨w1, w2⟩ := w; subst w1; cases hb
  | .obj C ns xs, v, fp, h, b, hb => by
    obtain ⟨a, dx, vs, fp', e, w, l, ⟨Ca, cn, i⟩, r⟩ := h
    subst w
    rcases List.mem_cons.mp hb with rfl | hb
    · rw [i]; trivial
    · exact Rps.mut xs r b hb
theorem Rps.mut : ∀ (d : List D) {v : List V} {fp : List Addr}, Rps K H N d v fp → ∀ a ∈ fp, Mut (H a)
  | [], v, fp, h, a, ha => by rw [h.2] at ha; cases ha
  | d :: ds, v, fp, h, a, ha => by
    obtain ⟨u, vs', f1, f2, e1, e2, r1, r2⟩ := h
    subst e2
    rcases List.mem_append.mp ha with ha | ha
    · exact Rp.mut d r1 a ha
    · exact Rps.mut ds r2 a ha
end
theorem Mut.there {o : Option HO} (h : Mut o) : o ≠ none := fun e => by subst e; exact h

mutual
/-- frozen: nothing is owned any more -/
theorem Rp.fz (n : ∀ a, N' a → N a) : ∀ (d : D) {v : V} {fp : List Addr}, noOb d = true → (∀ a ∈ fp, ¬ N' a) → Rp K H N d v fp → Rp K H N' (fz d) v []
  | .non, v, fp, o, f, h => ⟨h.1, rfl⟩
  | .bl b, v, fp, o, f, h => ⟨h.1, rfl⟩
  | .int i, v, fp, o, f, h => ⟨h.1, rfl⟩
  | .str x, v, fp, o, f, h => ⟨h.1, rfl⟩
  | .raw u, v, fp, o, f, h => ⟨h.1, rfl⟩
  | .tup xs, v, fp, o, f, h => by
    obtain ⟨a, vs, e, s, r⟩ := h
    exact ⟨a, vs, e, s, Rps.fz n xs o f r⟩
  | .lst b xs, v, fp, o, f, h => by
    obtain ⟨a, vs, fp', e, w, l, r⟩ := h
    cases b with
    | true =>
      have w' : fp = a :: fp' := w
      subst w'
      exact ⟨a, vs, [], e, ⟨rfl, rfl⟩, ⟨f a List.mem_cons_self, l⟩, Rps.fz n xs o (fun b hb => f b (List.mem_cons_of_mem _ hb)) r⟩
    | false =>
      obtain ⟨w1, w2⟩ := w
      subst w1; subst w2
      exact ⟨a, vs, [], e, ⟨rfl, rfl⟩, ⟨fun z => l.1 (n a z), l.2⟩, Rps.fz n xs o (by intro b hb; cases hb) r⟩
  | .frl t xs, v, fp, o, f, h => by
    obtain ⟨e0, a, vs, e, s, r⟩ := h
    exact ⟨rfl, a, vs, e, s, Rps.fz n xs o (by intro b hb; cases hb) r⟩
  | .dic b t ks xs, v, fp, o, f, h => by
    obtain ⟨a, vs, fp', e, w, l, r⟩ := h
    have hk : fzs ks = ks := by
      have go : ∀ ho, DO t ks vs ho → fzs ks = ks := by
        rintro ho (⟨_, kk, rfl, _, _⟩ | ⟨_, kk, rfl, _, _⟩)
        · rw [fzs_map, List.map_map]
          exact List.map_congr_left fun k _ => by cases k <;> rfl
        · rw [fzs_map, List.map_map]
          refine List.map_congr_left fun k _ => ?_
          show Pd.fz (tD k) = tD k
          unfold tD
          rw [Pd.fz, fzs_map, List.map_map]
          exact congrArg D.tup (List.map_congr_left fun k _ => by cases k <;> rfl)
      cases b with
      | true => obtain ⟨ho, _, l2⟩ := l; exact go ho l2
      | false => obtain ⟨_, ho, _, l2⟩ := l; exact go ho l2
    cases b with
    | true =>
      have w' : fp = a :: fp' := w
      subst w'
      obtain ⟨ho, l1, l2⟩ := l
      exact ⟨a, vs, [], e, ⟨rfl, rfl⟩, ⟨f a List.mem_cons_self, ho, l1, hk.symm ▸ l2⟩, Rps.fz n xs o (fun b hb => f b (List.mem_cons_of_mem _ hb)) r⟩
    | false =>
      obtain ⟨w1, w2⟩ := w
      subst w1; subst w2
      obtain ⟨l1, ho, l2, l3⟩ := l
      exact ⟨a, vs, [], e, ⟨rfl, rfl⟩, ⟨fun z => l1 (n a z), ho, l2, hk.symm ▸ l3⟩, Rps.fz n xs o (by intro b hb; cases hb) r⟩
  | .obj C ns xs, v, fp, o, f, h => nomatch o
theorem Rps.fz (n : ∀ a, N' a → N a) : ∀ (d : List D) {v : List V} {fp : List Addr}, noObs d = true → (∀ a ∈ fp, ¬ N' a) → Rps K H N d v fp → Rps K H N' (fzs d) v []
  | [], v, fp, o, f, h => ⟨h.1, rfl⟩
  | d :: ds, v, fp, o, f, h => by
    obtain ⟨u, vs', f1, f2, e1, e2, r1, r2⟩ := h
    subst e2
    rw [noObs, Bool.and_eq_true] at o
    exact ⟨u, vs', [], [], e1, rfl, Rp.fz n d o.1 (fun a ha => f a (List.mem_append_left _ ha)) r1, Rps.fz n ds o.2 (fun a ha => f a (List.mem_append_right _ ha)) r2⟩
end
mutual
theorem Rp.noAl : ∀ (d : D) {v : V} {fp : List Addr}, noAl d = true → Rp K H N d v fp → Rp K H N' d v fp
  | .non, v, fp, o, h => h
  | .bl b, v, fp, o, h => h
  | .int i, v, fp, o, h => h
  | .str x, v, fp, o, h => h
  | .raw u, v, fp, o, h => h
  | .tup xs, v, fp, o, h => by
    obtain ⟨a, vs, e, s, r⟩ := h
    exact ⟨a, vs, e, s, Rps.noAl xs o r⟩
  | .frl t xs, v, fp, o, h => by
    obtain ⟨e0, a, vs, e, s, r⟩ := h
    rw [Pd.noAl, Bool.and_eq_true] at o
    exact ⟨e0, a, vs, e, s, Rps.noAl xs o.2 r⟩
  | .lst b xs, v, fp, o, h => by
    obtain ⟨a, vs, fp', e, w, l, r⟩ := h
    rw [Pd.noAl, Bool.and_eq_true] at o
    cases b with
    | true => exact ⟨a, vs, fp', e, w, l, Rps.noAl xs o.2 r⟩
    | false => nomatch o.1
  | .dic b t ks xs, v, fp, o, h => by
    obtain ⟨a, vs, fp', e, w, l, r⟩ := h
    rw [Pd.noAl, Bool.and_eq_true] at o
    cases b with
    | true => exact ⟨a, vs, fp', e, w, l, Rps.noAl xs o.2 r⟩
    | false => nomatch o.1
  | .obj C ns xs, v, fp, o, h => by
    obtain ⟨a, dx, vs, fp', e, w, l, i, r⟩ := h
    exact ⟨a, dx, vs, fp', e, w, l, i, Rps.noAl xs o r⟩
theorem Rps.noAl : ∀ (d : List D) {v : List V} {fp : List Addr}, noAls d = true → Rps K H N d v fp → Rps K H N' d v fp
  | [], v, fp, o, h => h
  | d :: ds, v, fp, o, h => by
    obtain ⟨u, vs', f1, f2, e1, e2, r1, r2⟩ := h
    rw [noAls, Bool.and_eq_true] at o
    exact ⟨u, vs', f1, f2, e1, e2, Rp.noAl d o.1 r1, Rps.noAl ds o.2 r2⟩
end
mutual
/-- what is shared owns nothing -/
theorem Rp.sh : ∀ (d : D) {v : V} {fp : List Addr}, isSh d = true → Rp K H N d v fp → fp = []
  | .non, v, fp, o, h => h.2
  | .bl b, v, fp, o, h => h.2
  | .int i, v, fp, o, h => h.2
  | .str x, v, fp, o, h => h.2
  | .raw u, v, fp, o, h => h.2
  | .tup xs, v, fp, o, h => by
    obtain ⟨a, vs, e, s, r⟩ := h
    exact Rps.sh xs o r
  | .frl t xs, v, fp, o, h => h.1
  | .lst b xs, v, fp, o, h => by
    obtain ⟨a, vs, fp', e, w, l, r⟩ := h
    cases b with
    | true => nomatch o
    | false => exact w.1
  | .dic b t ks xs, v, fp, o, h => by
    obtain ⟨a, vs, fp', e, w, l, r⟩ := h
    cases b with
    | true => nomatch o
    | false => exact w.1
  | .obj C ns xs, v, fp, o, h => nomatch o
theorem Rps.sh : ∀ (d : List D) {v : List V} {fp : List Addr}, isShs d = true → Rps K H N d v fp → fp = []
  | [], v, fp, o, h => h.2
  | d :: ds, v, fp, o, h => by
    obtain ⟨u, vs', f1, f2, e1, e2, r1, r2⟩ := h
    rw [isShs, Bool.and_eq_true] at o
    rw [e2, Rp.sh d o.1 r1, Rps.sh ds o.2 r2]; rfl
end
mutual
theorem isSh_noOb : ∀ d : D, isSh d = true → noOb d = true
  | .non, _ => rfl
  | .bl b, _ => rfl
  | .int i, _ => rfl
  | .str x, _ => rfl
  | .raw u, _ => rfl
  | .tup xs, o => isShs_noObs xs o
  | .frl t xs, o => isShs_noObs xs o
  | .lst b xs, o => isShs_noObs xs (by rw [isSh, Bool.and_eq_true] at o; exact o.2)
  | .dic b t ks xs, o => isShs_noObs xs (by rw [isSh, Bool.and_eq_true] at o; exact o.2)
  | .obj C ns xs, o => nomatch o
theorem isShs_noObs : ∀ d : List D, isShs d = true → noObs d = true
  | [], _ => rfl
  | d :: ds, o => by
    rw [isShs, Bool.and_eq_true] at o
    rw [noObs, isSh_noOb d o.1, isShs_noObs ds o.2]; rfl
end
mutual
theorem fz_isSh : ∀ d : D, isSh (fz d) = noOb d
  | .non => rfl
  | .bl b => rfl
  | .int i => rfl
  | .str x => rfl
  | .raw u => rfl
  | .tup xs => fzs_isSh xs
  | .frl t xs => fzs_isSh xs
  | .lst b xs => by rw [fz, isSh, fzs_isSh xs]; rfl
  | .dic b t ks xs => by rw [fz, isSh, fzs_isSh xs]; rfl
  | .obj C ns xs => rfl
theorem fzs_isSh : ∀ d : List D, isShs (fzs d) = noObs d
  | [] => rfl
  | d :: ds => by rw [fzs, isShs, fz_isSh d, fzs_isSh ds, noObs]
end
theorem Rps.length : ∀ {ds : List D} {vs : List V} {fp : List Addr}, Rps K H N ds vs fp → ds.length = vs.length
  | [], _, _, h => by rw [h.1]; rfl
  | d :: ds, _, _, h => by
    obtain ⟨u, vs', f1, f2, e1, e2, r1, r2⟩ := h
    rw [e1, List.length_cons, List.length_cons, Rps.length r2]
theorem Rps.get : ∀ {ds : List D} {vs : List V} {fp : List Addr} {i : Nat} {d : D}, Rps K H N ds vs fp → ds[i]? = some d → ∃ v f1 fm f2, vs[i]? = some v ∧ fp = f1 ++ fm ++ f2 ∧ Rp K H N d v fm
  | [], _, _, i, d, h, e => by simp at e
  | d :: ds, _, _, 0, d', h, e => by
    obtain ⟨u, vs', f1, f2, e1, e2, r1, r2⟩ := h
    simp at e; subst e
    exact ⟨u, [], f1, f2, by rw [e1]; rfl, by rw [e2]; rfl, r1⟩
  | d :: ds, _, _, i + 1, d', h, e => by
    obtain ⟨u, vs', f1, f2, e1, e2, r1, r2⟩ := h
    obtain ⟨v, g1, gm, g2, q1, q2, q3⟩ := Rps.get (i := i) (d := d') r2 (by simpa using e)
    exact ⟨v, f1 ++ g1, gm, g2, by rw [e1]; simpa using q1, by rw [e2, q2]; simp [List.append_assoc], q3⟩
mutual
/-- what isn't shared owns something -/
theorem Rp.own : ∀ (d : D) {v : V} {fp : List Addr}, isSh d = false → Rp K H N d v fp → fp ≠ []
  | .non, v, fp, o, h => nomatch o
  | .bl b, v, fp, o, h => nomatch o
  | .int i, v, fp, o, h => nomatch o
  | .str x, v, fp, o, h => nomatch o
  | .raw u, v, fp, o, h => nomatch o
  | .tup xs, v, fp, o, h => by
    obtain ⟨a, vs, e, s, r⟩ := h
    exact Rps.own xs o r
  | .frl t xs, v, fp, o, h => by
    obtain ⟨e0, a, vs, e, s, r⟩ := h
    exact absurd rfl (Rps.own xs o r)
  | .lst b xs, v, fp, o, h => by
    obtain ⟨a, vs, fp', e, w, l, r⟩ := h
    cases b with
    | true => rw [show fp = a :: fp' from w]; intro z; cases z
    | false =>
      rw [isSh, Bool.not_false, Bool.true_and] at o
      exact absurd w.2 (Rps.own xs o r)
  | .dic b t ks xs, v, fp, o, h => by
    obtain ⟨a, vs, fp', e, w, l, r⟩ := h
    cases b with
    | true => rw [show fp = a :: fp' from w]; intro z; cases z
    | false =>
      rw [isSh, Bool.not_false, Bool.true_and] at o
      exact absurd w.2 (Rps.own xs o r)
  | .obj C ns xs, v, fp, o, h => by
    obtain ⟨a, dx, vs, fp', e, w, l, i, r⟩ := h
    rw [w]; intro z; cases z
theorem Rps.own : ∀ (d : List D) {v : List V} {fp : List Addr}, isShs d = false → Rps K H N d v fp → fp ≠ []
  | [], v, fp, o, h => nomatch o
  | d :: ds, v, fp, o, h => by
    obtain ⟨u, vs', f1, f2, e1, e2, r1, r2⟩ := h
    intro z
    rw [e2] at z
    have z1 := List.append_eq_nil_iff.mp z
    rw [isShs] at o
    cases q : isSh d with
    | false => exact Rp.own d q r1 z1.1
    | true =>
      rw [q, Bool.true_and] at o
      exact Rps.own ds o r2 z1.2
end
theorem Rps.nil : Rps K H N [] [] [] := ⟨rfl, rfl⟩
theorem Rps.cons {d : D} {v : V} {f1 f2 : List Addr} {ds : List D} {vs : List V} (h : Rp K H N d v f1) (h' : Rps K H N ds vs f2) : Rps K H N (d :: ds) (v :: vs) (f1 ++ f2) :=
  ⟨v, vs, f1, f2, rfl, rfl, h, h'⟩
theorem Rps.append : ∀ {ds es : List D} {vs us : List V} {f1 f2 : List Addr}, Rps K H N ds vs f1 → Rps K H N es us f2 → Rps K H N (ds ++ es) (vs ++ us) (f1 ++ f2)
  | [], es, _, us, _, f2, h, h' => by obtain ⟨rfl, rfl⟩ := h; exact h'
  | d :: ds, es, _, us, _, f2, h, h' => by
    obtain ⟨u, vs', g1, g2, rfl, rfl, r1, r2⟩ := h
    rw [List.append_assoc]
    exact Rps.cons r1 (Rps.append r2 h')
end
end Pd

namespace Pd
open PySem L2

/-! ### paths -/
inductive Stp where
  | fld (f : Str) | ix (n : Nat) | key (k : D)
deriving DecidableEq

section
variable {κ α : Type} [DecidableEq κ]
/-- the place of a key -/
def lkI : List κ → κ → Option Nat
  | [], _ => none
  | k' :: ks, k => if k' = k then some 0 else (lkI ks k).map (· + 1)
def lk (ks : List κ) (vs : List α) (k : κ) : Option α := (lkI ks k).bind fun i => vs[i]?
theorem lk_nil {vs : List α} {k : κ} : lk ([] : List κ) vs k = none := rfl
theorem lk_cons {k' k : κ} {ks : List κ} {v : α} {vs : List α} : lk (k' :: ks) (v :: vs) k = if k' = k then some v else lk ks vs k := by
  unfold lk
  rw [lkI]
  by_cases h : k' = k
  · rw [if_pos h, if_pos h]; rfl
  · rw [if_neg h, if_neg h]
    cases lkI ks k <;> rfl
theorem lkI_get {ks : List κ} {k : κ} {i : Nat} (h : lkI ks k = some i) : ks[i]? = some k := by
  induction ks generalizing i with
  | nil => cases h
  | cons a r ih =>
    rw [lkI] at h
    by_cases e : a = k
    · rw [if_pos e] at h; cases h; simp [e]
    · rw [if_neg e] at h
      cases q : lkI r k with
      | none => rw [q] at h; cases h
      | some j => rw [q] at h; cases h; simpa using ih q
theorem lk_of {ks : List κ} {vs : List α} {k : κ} {v : α} (h : lk ks vs k = some v) : ∃ i, lkI ks k = some i ∧ vs[i]? = some v := by
  unfold lk at h
  cases q : lkI ks k with
  | none => rw [q] at h; cases h
  | some i => rw [q] at h; exact ⟨i, rfl, h⟩
theorem lk_at {ks : List κ} {vs : List α} {k : κ} {i : Nat} (h : lkI ks k = some i) : lk ks vs k = vs[i]? := by unfold lk; rw [h]; rfl
end
theorem lookup_zip : ∀ (ns : List Str) (vs : List V) (f : Str), (ns.zip vs).lookup f = lk ns vs f
  | [], vs, f => by simp [lk_nil]
  | n :: ns, [], f => by
    simp only [List.zip_nil_right, List.lookup_nil]
    unfold lk
    cases lkI (n :: ns) f <;> rfl
  | n :: ns, v :: vs, f => by
    rw [List.zip_cons_cons, lk_cons, List.lookup_cons]
    by_cases e : n = f
    · subst e; simp
    · rw [if_neg e, lookup_zip ns vs f]
      have : (f == n) = false := by simpa using fun q => e q.symm
      rw [this]

def D.sub : D → Stp → Option D
  | .obj _ ns vs, .fld f => lk ns vs f
  | .lst _ xs, .ix n => xs[n]?
  | .tup xs, .ix n => xs[n]?
  | .dic _ t ks vs, .key k => lk ks vs k
  | _, _ => none
def D.put1 : D → Stp → D → D
  | .obj C ns vs, .fld f, e => .obj C ns (match lkI ns f with | some i => vs.set i e | none => vs)
  | .lst o xs, .ix n, e => .lst o (xs.set n e)
  | .tup xs, .ix n, e => .tup (xs.set n e)
  | .dic o t ks vs, .key k, e => .dic o t ks (match lkI ks k with | some i => vs.set i e | none => vs)
  | d, _, _ => d
def D.subs : D → List Stp → Option D
  | d, [] => some d
  | d, s :: p => (d.sub s).bind fun e => e.subs p
def D.puts : D → List Stp → D → D
  | _, [], e => e
  | d, s :: p, e => match d.sub s with | some c => d.put1 s (c.puts p e) | none => d

/-- where a step leads in the heap -/
def VStep (H : Hp) (v : V) : Stp → V → Prop
  | .fld f, u => ∃ a C dx fs, v = .ref a ∧ H a = some (.ins C dx fs) ∧ fs.lookup f = some u
  | .ix n, u => ∃ a xs, v = .ref a ∧ (Rd H a (.lst xs) ∨ Rd H a (.tup xs)) ∧ xs[n]? = some u
  | .key k, u => ∃ a o t ks vs, v = .ref a ∧ Rd H a o ∧ DO t ks vs o ∧ lk ks vs k = some u
def VAt (H : Hp) : V → List Stp → V → Prop
  | v, [], u => u = v
  | v, s :: p, u => ∃ w, VStep H v s w ∧ VAt H w p u

section
variable {K : PySem.W.Frag} {H H' : Hp} {N N' M : Addr → Prop}
theorem SqL.ext {a : Addr} {vs : List V} (r : SqL K H a vs) (k : Ext H H') : SqL K H' a vs := by
  rcases r with r | r
  · exact .inl (Rd.keep r fun o e => k a o e)
  · exact .inr r
theorem SqT.ext {a : Addr} {vs : List V} (r : SqT K H a vs) (k : Ext H H') : SqT K H' a vs := by
  rcases r with r | r
  · exact .inl (Rd.keep r fun o e => k a o e)
  · exact .inr r
theorem VStep.ext {v u : V} : ∀ {s : Stp}, VStep H v s u → Ext H H' → VStep H' v s u
  | .fld f, ⟨a, C, dx, fs, e, h, l⟩, k => ⟨a, C, dx, fs, e, k _ _ h, l⟩
  | .ix n, ⟨a, xs, e, h, l⟩, k => ⟨a, xs, e, h.elim (fun z => .inl (Rd.keep z fun o e => k a o e)) fun z => .inr (Rd.keep z fun o e => k a o e), l⟩
  | .key c, ⟨a, o, t, ks, vs, e, h, d, l⟩, k => ⟨a, o, t, ks, vs, e, Rd.keep h fun o e => k a o e, d, l⟩
theorem VAt.ext : ∀ {p : List Stp} {v u : V}, VAt H v p u → Ext H H' → VAt H' v p u
  | [], v, u, h, k => h
  | s :: p, v, u, ⟨w, h1, h2⟩, k => ⟨w, h1.ext k, h2.ext k⟩
theorem Rd.inj {a : Addr} {u u' : HO} (h : Rd H a u) (h' : Rd H a u') (n : ∀ o v, u ≠ .frz o v) (n' : ∀ o v, u' ≠ .frz o v) : u = u' := by
  rcases h with h | ⟨o, h⟩
  · rcases h' with h' | ⟨o', h'⟩
    · rw [h] at h'; exact Option.some.inj h'
    · rw [h] at h'; exact absurd (Option.some.inj h') (n _ _)
  · rcases h' with h' | ⟨o', h'⟩
    · rw [h] at h'; exact absurd (Option.some.inj h').symm (n' _ _)
    · rw [h] at h'; cases h'; rfl
theorem DO.inj {t t' : Nat} {ks ks' : List D} {vs vs' : List V} {o : HO} (h : DO t ks vs o) (h' : DO t' ks' vs' o) : ks = ks' ∧ vs = vs' := by
  have z1 : ∀ {κ : Type} {kk kk' : List κ}, kk.length = vs.length → kk'.length = vs'.length → kk.zip vs = kk'.zip vs' → kk = kk' ∧ vs = vs' := fun {κ kk kk'} e e' z => by
    have a := congrArg (List.map Prod.fst) z
    have b := congrArg (List.map Prod.snd) z
    rw [List.map_fst_zip (Nat.le_of_eq e), List.map_fst_zip (Nat.le_of_eq e')] at a
    rw [List.map_snd_zip (Nat.le_of_eq e.symm), List.map_snd_zip (Nat.le_of_eq e'.symm)] at b
    exact ⟨a, b⟩
  rcases h with ⟨_, kk, rfl, e, rfl⟩ | ⟨_, kk, rfl, e, rfl⟩
  · rcases h' with ⟨_, kk', rfl, e', z⟩ | ⟨_, kk', rfl, e', z⟩
    · injection z with z; obtain ⟨rfl, rfl⟩ := z1 e e' z; exact ⟨rfl, rfl⟩
    · cases z
  · rcases h' with ⟨_, kk', rfl, e', z⟩ | ⟨_, kk', rfl, e', z⟩
    · cases z
    · injection z with z; obtain ⟨rfl, rfl⟩ := z1 e e' z; exact ⟨rfl, rfl⟩
theorem DO.nfrz {t : Nat} {ks : List D} {vs : List V} {o : HO} (h : DO t ks vs o) : ∀ o' v, o ≠ .frz o' v := fun o' v z => by
  rcases h with ⟨_, kk, _, _, rfl⟩ | ⟨_, kk, _, _, rfl⟩ <;> cases z
theorem VStep.inj {v u u' : V} : ∀ {s : Stp}, VStep H v s u → VStep H v s u' → u = u'
  | .fld f, ⟨a, C, dx, fs, e, h, l⟩, ⟨a', C', dx', fs', e', h', l'⟩ => by
    subst e; cases e'
    rw [h] at h'; cases h'
    rw [l] at l'; exact Option.some.inj l'
  | .ix n, ⟨a, xs, e, h, l⟩, ⟨a', xs', e', h', l'⟩ => by
    subst e; cases e'
    have z : xs = xs' := by
      rcases h with h | h <;> rcases h' with h' | h'
      · have := Rd.inj h h' (by intros; intro z; cases z) (by intros; intro z; cases z); cases this; rfl
      · have := Rd.inj h h' (by intros; intro z; cases z) (by intros; intro z; cases z); cases this
      · have := Rd.inj h h' (by intros; intro z; cases z) (by intros; intro z; cases z); cases this
      · have := Rd.inj h h' (by intros; intro z; cases z) (by intros; intro z; cases z); cases this; rfl
    subst z
    rw [l] at l'; exact Option.some.inj l'
  | .key c, ⟨a, o, t, ks, vs, e, h, d, l⟩, ⟨a', o', t', ks', vs', e', h', d', l'⟩ => by
    subst e; cases e'
    have z := Rd.inj h h' d.nfrz d'.nfrz
    subst z
    obtain ⟨rfl, rfl⟩ := d.inj d'
    rw [l] at l'; exact Option.some.inj l'
theorem VAt.inj : ∀ {p : List Stp} {v u u' : V}, VAt H v p u → VAt H v p u' → u = u'
  | [], v, u, u', h, h' => (show u = v from h).trans (show u' = v from h').symm
  | s :: p, v, u, u', ⟨w, h1, h2⟩, ⟨w', h1', h2'⟩ => by
    have z := h1.inj h1'
    subst z
    exact VAt.inj h2 h2'
theorem VAt.snoc : ∀ {p : List Stp} {v u w : V} {s : Stp}, VAt H v p u → VStep H u s w → VAt H v (p ++ [s]) w
  | [], v, u, w, s, h, q => ⟨w, by rw [← (show u = v from h)]; exact q, rfl⟩
  | t :: p, v, u, w, s, ⟨x, h1, h2⟩, q => ⟨x, h1, VAt.snoc h2 q⟩
theorem subs_snoc : ∀ {p : List Stp} {d e : D} {s : Stp}, d.subs p = some e → d.subs (p ++ [s]) = e.sub s
  | [], d, e, s, h => by
    cases h
    show (d.sub s).bind (fun e => some e) = d.sub s
    cases d.sub s <;> rfl
  | t :: p, d, e, s, h => by
    rw [D.subs] at h
    rw [List.cons_append, D.subs]
    cases q : d.sub t with
    | none => rw [q] at h; cases h
    | some c => rw [q] at h; exact subs_snoc (p := p) h

/-- what may be put in the place of a part: the frame that a change of the part leaves -/
structure Chg (H H' : Hp) (N N' M : Addr → Prop) (fm : List Addr) : Prop where
  k : ∀ a o, H a = some o → ¬ M a → H' a = some o
  m : ∀ a, M a → a ∈ fm
  n : ∀ a, N' a → N a ∨ H a = none

theorem Rps.part : ∀ {ds : List D} {vs : List V} {fp : List Addr} {i : Nat} {d : D}, Rps K H N ds vs fp → ds[i]? = some d →
    ∃ v f1 fm f2, vs[i]? = some v ∧ fp = f1 ++ fm ++ f2 ∧ Rp K H N d v fm ∧
      ∀ {H' : Hp} {N' M : Addr → Prop} {d' : D} {fm' : List Addr}, Chg H H' N N' M fm → (∀ a, M a → Mut (H a) ∧ N a) → fp.Nodup → Rp K H' N' d' v fm' → Rps K H' N' (ds.set i d') vs (f1 ++ fm' ++ f2)
  | [], _, _, i, d, h, e => by simp at e
  | d :: ds, _, _, 0, d', h, e => by
    obtain ⟨u, vs', f1, f2, e1, e2, r1, r2⟩ := h
    simp at e; subst e; subst e1; subst e2
    refine ⟨u, [], f1, f2, rfl, rfl, r1, fun {H' N' M d' fm'} c mm nd r => ?_⟩
    have dj := (List.nodup_append.mp nd).2.2
    exact ⟨u, vs', fm', f2, rfl, by simp, r, Rps.frame c.k mm c.n ds (fun a ha hm => dj a (c.m a hm) a ha rfl) r2⟩
  | d :: ds, _, _, i + 1, d', h, e => by
    obtain ⟨u, vs', f1, f2, e1, e2, r1, r2⟩ := h
    subst e1; subst e2
    obtain ⟨v, g1, gm, g2, q1, q2, q3, q4⟩ := Rps.part (i := i) (d := d') r2 (by simpa using e)
    refine ⟨v, f1 ++ g1, gm, g2, by simpa using q1, by rw [q2]; simp [List.append_assoc], q3, fun {H' N' M d' fm'} c mm nd r => ?_⟩
    have nd2 := (List.nodup_append.mp nd).2.1
    have dj := (List.nodup_append.mp nd).2.2
    refine ⟨u, vs', f1, g1 ++ fm' ++ g2, rfl, by simp [List.append_assoc], Rp.frame c.k mm c.n d (fun a ha hm => dj a ha a ?_ rfl) r1, q4 c mm nd2 r⟩
    rw [q2]
    exact List.mem_append_left _ (List.mem_append_right _ (c.m a hm))

theorem zip_snd {α β : Type} : ∀ {ks : List α} {vs : List β} {i : Nat} {k : α} {v : β}, ks[i]? = some k → vs[i]? = some v → (ks.zip vs)[i]? = some (k, v) := by
  intro ks vs i k v h1 h2
  rw [List.getElem?_zip_eq_some]
  exact ⟨h1, h2⟩

/-- the container may be written, or is a tuple -/
def ow : D → Bool
  | .lst o _ => o
  | .dic o _ _ _ => o
  | .tup _ => false
  | .frl _ _ => false
  | _ => true
theorem DO_len {t : Nat} {ks : List D} {vs : List V} {o : HO} (h : DO t ks vs o) : ks.length = vs.length := by
  rcases h with ⟨_, kk, rfl, e, _⟩ | ⟨_, kk, rfl, e, _⟩ <;> simpa using e
/-- all containers on the way may be written -/
def owp : D → List Stp → Bool
  | _, [] => true
  | d, s :: p => ow d && (match d.sub s with | some c => owp c p | none => true)
theorem owp_cons {d : D} {s : Stp} {p : List Stp} : owp d (s :: p) = (ow d && (match d.sub s with | some c => owp c p | none => true)) := rfl
theorem Rp.part1 {d : D} {v : V} {fp : List Addr} {s : Stp} {e : D} (h : Rp K H N d v fp) (hs : d.sub s = some e) (hn : isSh e = false ∨ ow d = true) :
    ∃ u f1 fm f2, VStep H v s u ∧ fp = f1 ++ fm ++ f2 ∧ Rp K H N e u fm ∧
      ∀ {H' : Hp} {N' M : Addr → Prop} {e' : D} {fm' : List Addr}, ow d = true → Chg H H' N N' M fm → (∀ a, M a → Mut (H a) ∧ N a) → fp.Nodup → Rp K H' N' e' u fm' → Rp K H' N' (d.put1 s e') v (f1 ++ fm' ++ f2) := by
  cases d with
  | non => cases s <;> cases hs
  | bl b => cases s <;> cases hs
  | int b => cases s <;> cases hs
  | str b => cases s <;> cases hs
  | raw b => cases s <;> cases hs
  | frl t xs => cases s <;> cases hs
  | tup xs =>
    cases s with
    | fld f => cases hs
    | key k => cases hs
    | ix n =>
      obtain ⟨a, vs, ev, sq, r⟩ := h
      obtain ⟨u, f1, fm, f2, q1, q2, q3, q4⟩ := Rps.part r (show xs[n]? = some e from hs)
      have rd : Rd H a (.tup vs) := .inl sq
      refine ⟨u, f1, fm, f2, ⟨a, vs, ev, .inr rd, q1⟩, q2, q3, fun {H' N' M e' fm'} _ c mm nd r' => ?_⟩
      exact ⟨a, vs, ev, TAt.keepM sq c.k fun a h => (mm a h).1, q4 c mm nd r'⟩
  | lst o xs =>
    cases s with
    | fld f => cases hs
    | key k => cases hs
    | ix n =>
      obtain ⟨a, vs, fp', ev, w, l, r⟩ := h
      obtain ⟨u, f1, fm, f2, q1, q2, q3, q4⟩ := Rps.part r (show xs[n]? = some e from hs)
      cases o with
      | true =>
        have w' : fp = a :: fp' := w
        subst w'
        refine ⟨u, a :: f1, fm, f2, ⟨a, vs, ev, .inl (.inl l), q1⟩, by rw [q2]; rfl, q3, fun {H' N' M e' fm'} _ c mm nd r' => ?_⟩
        have nd' := List.nodup_cons.mp nd
        refine ⟨a, vs, f1 ++ fm' ++ f2, ev, rfl, c.k a _ l fun hm => nd'.1 ?_, q4 c mm nd'.2 r'⟩
        rw [q2]
        exact List.mem_append_left _ (List.mem_append_right _ (c.m a hm))
      | false =>
        obtain ⟨w1, w2⟩ := w
        subst w1; subst w2
        refine absurd ?_ (Rp.own e (hn.elim id fun z => nomatch z) q3)
        exact (List.append_eq_nil_iff.mp (List.append_eq_nil_iff.mp q2.symm).1).2
  | dic o kt ks xs =>
    cases s with
    | fld f => cases hs
    | ix k => cases hs
    | key k =>
      obtain ⟨a, vs, fp', ev, w, l, r⟩ := h
      obtain ⟨i, i1, i2⟩ := lk_of (show lk ks xs k = some e from hs)
      obtain ⟨u, f1, fm, f2, q1, q2, q3, q4⟩ := Rps.part r i2
      cases o with
      | true =>
        have w' : fp = a :: fp' := w
        subst w'
        obtain ⟨ho, l1, l2⟩ := l
        refine ⟨u, a :: f1, fm, f2, ⟨a, ho, kt, ks, vs, ev, .inl l1, l2, (lk_at i1).trans q1⟩, by rw [q2]; rfl, q3, fun {H' N' M e' fm'} _ c mm nd r' => ?_⟩
        have nd' := List.nodup_cons.mp nd
        have ep : (D.dic true kt ks xs).put1 (.key k) e' = .dic true kt ks (xs.set i e') := by
          show D.dic true kt ks (match lkI ks k with | some i => xs.set i e' | none => xs) = _
          rw [i1]
        rw [ep]
        refine ⟨a, vs, f1 ++ fm' ++ f2, ev, rfl, ⟨ho, c.k a _ l1 fun hm => nd'.1 ?_, l2⟩, q4 c mm nd'.2 r'⟩
        rw [q2]
        exact List.mem_append_left _ (List.mem_append_right _ (c.m a hm))
      | false =>
        obtain ⟨w1, w2⟩ := w
        subst w1; subst w2
        obtain ⟨_, ho, l1, l2⟩ := l
        exact ⟨u, f1, fm, f2, ⟨a, ho, kt, ks, vs, ev, .inl l1, l2, (lk_at i1).trans q1⟩, q2, q3, fun {H' N' M e' fm'} o' c mm nd r' => nomatch o'⟩
  | obj C ns xs =>
    cases s with
    | ix f => cases hs
    | key k => cases hs
    | fld f =>
      obtain ⟨a, dx, vs, fp', ev, w, l, ⟨Ca, cn, hh⟩, r⟩ := h
      subst w
      obtain ⟨i, i1, i2⟩ := lk_of (show lk ns xs f = some e from hs)
      obtain ⟨u, f1, fm, f2, q1, q2, q3, q4⟩ := Rps.part r i2
      refine ⟨u, a :: f1, fm, f2, ⟨a, Ca, dx, _, ev, hh, by rw [lookup_zip]; exact (lk_at i1).trans q1⟩, by rw [q2]; rfl, q3, fun {H' N' M e' fm'} _ c mm nd r' => ?_⟩
      have nd' := List.nodup_cons.mp nd
      have ep : (D.obj C ns xs).put1 (.fld f) e' = .obj C ns (xs.set i e') := by
        show D.obj C ns (match lkI ns f with | some i => xs.set i e' | none => xs) = _
        rw [i1]
      rw [ep]
      refine ⟨a, dx, vs, f1 ++ fm' ++ f2, ev, rfl, l, ⟨Ca, cn, c.k a _ hh fun hm => nd'.1 ?_⟩, q4 c mm nd'.2 r'⟩
      rw [q2]
      exact List.mem_append_left _ (List.mem_append_right _ (c.m a hm))
theorem isShs_get : ∀ {l : List D} {i : Nat} {d : D}, isShs l = true → l[i]? = some d → isSh d = true
  | [], i, d, h, e => by simp at e
  | a :: l, 0, d, h, e => by
    rw [isShs, Bool.and_eq_true] at h
    simp at e; subst e; exact h.1
  | a :: l, i + 1, d, h, e => by
    rw [isShs, Bool.and_eq_true] at h
    exact isShs_get (i := i) h.2 (by simpa using e)
theorem sub_sh1 {d e : D} {s : Stp} (h : d.sub s = some e) (n : isSh e = false) : isSh d = false := by
  cases q : isSh d with
  | false => rfl
  | true =>
    refine absurd ?_ (by rw [n]; exact Bool.false_ne_true : ¬ isSh e = true)
    cases d with
    | tup xs => cases s <;> first | cases h | exact isShs_get q h
    | lst o xs =>
      rw [isSh, Bool.and_eq_true] at q
      cases s <;> first | cases h | exact isShs_get q.2 h
    | dic o kt ks xs =>
      rw [isSh, Bool.and_eq_true] at q
      cases s with
      | key k =>
        obtain ⟨i, _, i2⟩ := lk_of (show lk ks xs k = some e from h)
        exact isShs_get q.2 i2
      | _ => cases h
    | obj C ns xs => cases q
    | _ => cases s <;> cases h
theorem sub_sh : ∀ {p : List Stp} {d e : D}, d.subs p = some e → isSh e = false → isSh d = false
  | [], d, e, h, n => by cases h; exact n
  | s :: p, d, e, h, n => by
    rw [D.subs] at h
    cases q : d.sub s with
    | none => rw [q] at h; cases h
    | some c => rw [q] at h; exact sub_sh1 q (sub_sh (p := p) h n)
theorem Rp.parts : ∀ {p : List Stp} {d : D} {v : V} {fp : List Addr} {e : D}, Rp K H N d v fp → d.subs p = some e → (isSh e = false ∨ owp d p = true) →
    ∃ u f1 fm f2, VAt H v p u ∧ fp = f1 ++ fm ++ f2 ∧ Rp K H N e u fm ∧
      ∀ {H' : Hp} {N' M : Addr → Prop} {e' : D} {fm' : List Addr}, owp d p = true → Chg H H' N N' M fm → (∀ a, M a → Mut (H a) ∧ N a) → fp.Nodup → Rp K H' N' e' u fm' → Rp K H' N' (d.puts p e') v (f1 ++ fm' ++ f2)
  | [], d, v, fp, e, h, hs, hn => by
    cases hs
    exact ⟨v, [], fp, [], rfl, by simp, h, fun {H' N' M e' fm'} _ c mm nd r' => by simpa [D.puts] using r'⟩
  | s :: p, d, v, fp, e, h, hs, hn => by
    rw [D.subs] at hs
    cases q : d.sub s with
    | none => rw [q] at hs; cases hs
    | some c =>
      rw [q] at hs
      obtain ⟨u, f1, fm, f2, a1, a2, a3, a4⟩ := Rp.part1 h q (hn.imp (fun hn => sub_sh (p := p) hs hn) fun z => by rw [owp_cons, Bool.and_eq_true] at z; exact z.1)
      obtain ⟨w, g1, gm, g2, b1, b2, b3, b4⟩ := Rp.parts (p := p) a3 (show c.subs p = some e from hs) (hn.imp id fun z => by rw [owp_cons, Bool.and_eq_true, q] at z; exact z.2)
      refine ⟨w, f1 ++ g1, gm, g2 ++ f2, ⟨u, a1, b1⟩, by rw [a2, b2]; simp [List.append_assoc], b3, fun {H' N' M e' fm'} o cg mm nd r' => ?_⟩
      rw [owp_cons, Bool.and_eq_true, q] at o
      have nd2 : fm.Nodup := by
        rw [a2] at nd
        exact (List.nodup_append.mp (List.nodup_append.mp nd).1).2.1
      have r2 := b4 (e' := e') (fm' := fm') o.2 cg mm nd2 r'
      have cg2 : Chg H H' N N' M fm := ⟨cg.k, fun a hm => by rw [b2]; exact List.mem_append_left _ (List.mem_append_right _ (cg.m a hm)), cg.n⟩
      have r3 := a4 (e' := c.puts p e') o.1 cg2 mm nd r2
      rw [D.puts, q]
      simpa [List.append_assoc] using r3
end
end Pd

namespace Pd
open PySem L2

abbrev EnvD := List (Option D)
/-- a temporary: a value of its own, a borrowed one, a place of the frame -/
inductive T where
  | tmp (d : D) | bor (d : D) | pl (j : Nat) (p : List Stp)
structure Anc where
  H : Hp
  F : Addr → Prop
  U : Addr → Prop
  fx : List (Nat × V)
def RpO (K : PySem.W.Frag) (H : Hp) (N : Addr → Prop) : Option D → Option V → List Addr → Prop
  | none, _, fp => fp = []
  | some d, some v, fp => Rp K H N d v fp
  | some _, none, _ => False
def RpE (K : PySem.W.Frag) (H : Hp) (N : Addr → Prop) : EnvD → St → List Addr → Prop
  | [], σ, fp => σ = [] ∧ fp = []
  | d :: ds, σ, fp => ∃ v σ' f1 f2, σ = v :: σ' ∧ fp = f1 ++ f2 ∧ RpO K H N d v f1 ∧ RpE K H N ds σ' f2
def RpT (K : PySem.W.Frag) (H : Hp) (σ : St) (N : Addr → Prop) : T → V → List Addr → Prop
  | .tmp d, v, fp => Rp K H N d v fp
  | .bor d, v, fp => fp = [] ∧ isSh d = true ∧ Rp K H (fun _ => False) d v []
  | .pl j p, v, fp => fp = [] ∧ ∃ w, σ[j]? = some (some w) ∧ VAt H w p v
def RpTs (K : PySem.W.Frag) (H : Hp) (σ : St) (N : Addr → Prop) : List (V × T) → List Addr → Prop
  | [], fp => fp = []
  | x :: τ, fp => ∃ f1 f2, fp = f1 ++ f2 ∧ RpT K H σ N x.2 x.1 f1 ∧ RpTs K H σ N τ f2
/-- it stays what it is when something else is changed -/
def T.stay : T → Bool
  | .tmp _ => true
  | .bor _ => false
  | .pl _ p => p.isEmpty
def stays (τ : List (V × T)) : Prop := ∀ x ∈ τ, x.2.stay = true
def Anc.nn (A : Anc) (f : List Addr) : Addr → Prop := fun a => A.U a ∨ a ∈ f

section
variable {K : PySem.W.Frag} {H H' : Hp} {N N' M : Addr → Prop} {σ : St}
theorem RpO.frame (k : ∀ a o, H a = some o → ¬ M a → H' a = some o) (m : ∀ a, M a → Mut (H a) ∧ N a) (n : ∀ a, N' a → N a ∨ H a = none) :
    ∀ {d : Option D} {v : Option V} {fp : List Addr}, (∀ a ∈ fp, ¬ M a) → RpO K H N d v fp → RpO K H' N' d v fp
  | none, _, _, f, h => h
  | some d, some v, _, f, h => Rp.frame k m n d f h
  | some d, none, _, f, h => h.elim
theorem RpE.frame (k : ∀ a o, H a = some o → ¬ M a → H' a = some o) (m : ∀ a, M a → Mut (H a) ∧ N a) (n : ∀ a, N' a → N a ∨ H a = none) :
    ∀ {ds : EnvD} {σ : St} {fp : List Addr}, (∀ a ∈ fp, ¬ M a) → RpE K H N ds σ fp → RpE K H' N' ds σ fp
  | [], _, _, f, h => h
  | d :: ds, _, _, f, h => by
    obtain ⟨v, σ', f1, f2, e1, e2, r1, r2⟩ := h
    subst e2
    exact ⟨v, σ', f1, f2, e1, rfl, RpO.frame k m n (fun a ha => f a (List.mem_append_left _ ha)) r1, RpE.frame k m n (fun a ha => f a (List.mem_append_right _ ha)) r2⟩
theorem RpT.frame (k : ∀ a o, H a = some o → ¬ M a → H' a = some o) (m : ∀ a, M a → Mut (H a) ∧ N a) (n : ∀ a, N' a → N a ∨ H a = none) :
    ∀ {x : T} {v : V} {fp : List Addr}, (∀ a ∈ fp, ¬ M a) → ((∀ a, ¬ M a) ∨ x.stay = true) → RpT K H σ N x v fp → RpT K H' σ N' x v fp
  | .tmp d, v, fp, f, st, h => Rp.frame k m n d f h
  | .bor d, v, fp, f, st, h => by
    obtain ⟨e, s, r⟩ := h
    rcases st with st | st
    · exact ⟨e, s, Rp.grow r (fun a o q => k a o q (st a)) fun _ z => z.elim⟩
    · cases st
  | .pl j p, v, fp, f, st, h => by
    obtain ⟨e, w, q, r⟩ := h
    rcases st with st | st
    · exact ⟨e, w, q, VAt.ext r fun a o q => k a o q (st a)⟩
    · cases p with
      | nil => exact ⟨e, w, q, r⟩
      | cons _ _ => cases st
theorem RpTs.frame (k : ∀ a o, H a = some o → ¬ M a → H' a = some o) (m : ∀ a, M a → Mut (H a) ∧ N a) (n : ∀ a, N' a → N a ∨ H a = none) :
    ∀ {τ : List (V × T)} {fp : List Addr}, (∀ a ∈ fp, ¬ M a) → ((∀ a, ¬ M a) ∨ stays τ) → RpTs K H σ N τ fp → RpTs K H' σ N' τ fp
  | [], _, f, st, h => h
  | x :: τ, _, f, st, h => by
    obtain ⟨f1, f2, e, r1, r2⟩ := h
    subst e
    exact ⟨f1, f2, rfl, RpT.frame k m n (fun a ha => f a (List.mem_append_left _ ha)) (st.imp id fun s => s x List.mem_cons_self) r1,
      RpTs.frame k m n (fun a ha => f a (List.mem_append_right _ ha)) (st.imp id fun s y hy => s y (List.mem_cons_of_mem _ hy)) r2⟩
theorem RpTs.congr {τ : List (V × T)} {fp : List Addr} (h : RpTs K H σ N τ fp) (n : ∀ a, N' a → N a) : RpTs K H σ N' τ fp :=
  RpTs.frame (M := fun _ => False) (fun _ _ e _ => e) (fun _ z => z.elim) (fun a z => .inl (n a z)) (fun _ _ z => z) (.inl fun _ z => z) h
theorem RpE.congr {ds : EnvD} {fp : List Addr} (h : RpE K H N ds σ fp) (n : ∀ a, N' a → N a) : RpE K H N' ds σ fp :=
  RpE.frame (M := fun _ => False) (fun _ _ e _ => e) (fun _ z => z.elim) (fun a z => .inl (n a z)) (fun _ _ z => z) h
theorem RpO.mut : ∀ {d : Option D} {v : Option V} {fp : List Addr}, RpO K H N d v fp → ∀ a ∈ fp, Mut (H a)
  | none, _, _, h, a, ha => by rw [show _ = [] from h] at ha; cases ha
  | some d, some v, _, h, a, ha => Rp.mut d h a ha
  | some d, none, _, h, a, ha => h.elim
theorem RpE.mut : ∀ {ds : EnvD} {σ : St} {fp : List Addr}, RpE K H N ds σ fp → ∀ a ∈ fp, Mut (H a)
  | [], _, _, h, a, ha => by rw [h.2] at ha; cases ha
  | d :: ds, _, _, h, a, ha => by
    obtain ⟨v, σ', f1, f2, e1, e2, r1, r2⟩ := h
    rw [e2] at ha
    rcases List.mem_append.mp ha with ha | ha
    · exact RpO.mut r1 a ha
    · exact RpE.mut r2 a ha
theorem RpT.mut : ∀ {x : T} {v : V} {fp : List Addr}, RpT K H σ N x v fp → ∀ a ∈ fp, Mut (H a)
  | .tmp d, _, _, h, a, ha => Rp.mut d h a ha
  | .bor d, _, _, h, a, ha => by rw [h.1] at ha; cases ha
  | .pl j p, _, _, h, a, ha => by rw [h.1] at ha; cases ha
theorem RpTs.mut : ∀ {τ : List (V × T)} {fp : List Addr}, RpTs K H σ N τ fp → ∀ a ∈ fp, Mut (H a)
  | [], _, h, a, ha => by rw [show _ = [] from h] at ha; cases ha
  | x :: τ, _, h, a, ha => by
    obtain ⟨f1, f2, e, r1, r2⟩ := h
    rw [e] at ha
    rcases List.mem_append.mp ha with ha | ha
    · exact RpT.mut r1 a ha
    · exact RpTs.mut r2 a ha
theorem RpTs.split : ∀ {as τ : List (V × T)} {fp : List Addr}, RpTs K H σ N (as ++ τ) fp → ∃ f1 f2, fp = f1 ++ f2 ∧ RpTs K H σ N as f1 ∧ RpTs K H σ N τ f2
  | [], τ, fp, h => ⟨[], fp, rfl, rfl, h⟩
  | x :: as, τ, fp, h => by
    obtain ⟨f1, f2, e, r1, r2⟩ := h
    obtain ⟨g1, g2, e', q1, q2⟩ := RpTs.split (as := as) r2
    exact ⟨f1 ++ g1, g2, by rw [e, e', List.append_assoc], ⟨f1, g1, rfl, r1, q1⟩, q2⟩
theorem RpTs.join : ∀ {as τ : List (V × T)} {f1 f2 : List Addr}, RpTs K H σ N as f1 → RpTs K H σ N τ f2 → RpTs K H σ N (as ++ τ) (f1 ++ f2)
  | [], τ, f1, f2, h, h' => by rw [show f1 = [] from h]; exact h'
  | x :: as, τ, f1, f2, h, h' => by
    obtain ⟨g1, g2, e, r1, r2⟩ := h
    rw [e]
    exact ⟨g1, g2 ++ f2, by rw [List.append_assoc], r1, RpTs.join r2 h'⟩
theorem RpTs.one {x : T} {v : V} {fp : List Addr} (h : RpT K H σ N x v fp) : RpTs K H σ N [(v, x)] fp := ⟨fp, [], by simp, h, rfl⟩
theorem RpTs.of1 {x : T} {v : V} {fp : List Addr} (h : RpTs K H σ N [(v, x)] fp) : RpT K H σ N x v fp := by
  obtain ⟨f1, f2, e, r, q⟩ := h
  have q' : f2 = [] := q
  subst q'
  rw [e, List.append_nil]; exact r
theorem RpE.len : ∀ {ds : EnvD} {σ : St} {fp : List Addr}, RpE K H N ds σ fp → ds.length = σ.length
  | [], _, _, h => by rw [h.1]; rfl
  | d :: ds, _, _, h => by
    obtain ⟨v, σ', f1, f2, e1, e2, r1, r2⟩ := h
    rw [e1, List.length_cons, List.length_cons, RpE.len r2]
theorem RpE.get : ∀ {ds : EnvD} {σ : St} {fp : List Addr} {i : Nat} {d : Option D}, RpE K H N ds σ fp → ds[i]? = some d → ∃ v f1 fm f2, σ[i]? = some v ∧ fp = f1 ++ fm ++ f2 ∧ RpO K H N d v fm ∧
    ∀ {d' : Option D} {v' : Option V} {fm' : List Addr}, RpO K H N d' v' fm' → RpE K H N (ds.set i d') (σ.set i v') (f1 ++ fm' ++ f2)
  | [], _, _, i, d, h, e => by simp at e
  | d :: ds, _, _, 0, d', h, e => by
    obtain ⟨v, σ', f1, f2, e1, e2, r1, r2⟩ := h
    simp at e; subst e; subst e1; subst e2
    exact ⟨v, [], f1, f2, rfl, rfl, r1, fun {d' v' fm'} r => ⟨v', σ', fm', f2, rfl, by simp, r, r2⟩⟩
  | d :: ds, _, _, i + 1, d', h, e => by
    obtain ⟨v, σ', f1, f2, e1, e2, r1, r2⟩ := h
    subst e1; subst e2
    obtain ⟨u, g1, gm, g2, q1, q2, q3, q4⟩ := RpE.get (i := i) (d := d') r2 (by simpa using e)
    refine ⟨u, f1 ++ g1, gm, g2, by simpa using q1, by rw [q2]; simp [List.append_assoc], q3, fun {d' v' fm'} r => ?_⟩
    exact ⟨v, _, f1, g1 ++ fm' ++ g2, rfl, by simp [List.append_assoc], r1, q4 r⟩
end

structure Okk (K : PySem.W.Frag) (A : Anc) (τ : List (V × T)) (σ : St) (env : EnvD) (H : Hp) (f1 f2 : List Addr) : Prop where
  ts : RpTs K H σ (A.nn (f1 ++ f2)) τ f1
  en : RpE K H (A.nn (f1 ++ f2)) env σ f2
  nd : (f1 ++ f2).Nodup
  un : ∀ a ∈ f1 ++ f2, ¬ A.U a ∧ (A.F a ∨ A.H a = none)
  keep : ∀ a o, A.H a = some o → ¬ A.F a → H a = some o
  anc : ∀ a, A.U a → A.H a ≠ none ∧ ¬ A.F a
  fix : ∀ q ∈ A.fx, σ[q.1]? = some (some q.2)
/-- THE STATE: the temporaries τ, the frame σ, env, at H -/
def Ok (K : PySem.W.Frag) (A : Anc) (τ : List (V × T)) (σ : St) (env : EnvD) (H : Hp) : Prop := ∃ f1 f2, Okk K A τ σ env H f1 f2

section
variable {K : PySem.W.Frag} {A : Anc} {H H' : Hp} {M : Addr → Prop} {σ : St} {env : EnvD} {as as' τ : List (V × T)} {f1 f2 fa f0 : List Addr}
theorem Okk.there (ok : Okk K A τ σ env H f1 f2) : ∀ a, A.nn (f1 ++ f2) a → H a ≠ none := fun a h => by
  rcases h with h | h
  · obtain ⟨n, nf⟩ := ok.anc a h
    cases q : A.H a with
    | none => exact absurd q n
    | some o => rw [ok.keep a o q nf]; exact fun z => nomatch z
  · rcases List.mem_append.mp h with h | h
    · exact Mut.there (RpTs.mut ok.ts a h)
    · exact Mut.there (RpE.mut ok.en a h)
theorem Okk.fresh (ok : Okk K A τ σ env H f1 f2) {a : Addr} (h : H a = none) : ¬ A.U a ∧ (A.F a ∨ A.H a = none) := by
  refine ⟨fun u => ok.there a (.inl u) h, ?_⟩
  by_cases hf : A.F a
  · exact .inl hf
  · refine .inr ?_
    cases q : A.H a with
    | none => rfl
    | some o => rw [ok.keep a o q hf] at h; cases h
/-- ONE TURN: the temporaries as become as', what they own may be changed -/
theorem Okk.turn (ok : Okk K A (as ++ τ) σ env H (fa ++ f0) f2) (ra : RpTs K H σ (A.nn (fa ++ f0 ++ f2)) as fa) (r0 : RpTs K H σ (A.nn (fa ++ f0 ++ f2)) τ f0)
    (k : ∀ a o, H a = some o → ¬ M a → H' a = some o) (m : ∀ a, M a → a ∈ fa) (st : (∀ a, ¬ M a) ∨ stays τ) {fa' : List Addr} (nd' : fa'.Nodup) (fr : ∀ a ∈ fa', a ∈ fa ∨ H a = none)
    (r : RpTs K H' σ (A.nn (fa' ++ f0 ++ f2)) as' fa') : Okk K A (as' ++ τ) σ env H' (fa' ++ f0) f2 := by
  have n : ∀ a, A.nn (fa' ++ f0 ++ f2) a → A.nn (fa ++ f0 ++ f2) a ∨ H a = none := fun a h => by
    rcases h with h | h
    · exact .inl (.inl h)
    · rw [List.append_assoc] at h
      rcases List.mem_append.mp h with h | h
      · rcases fr a h with h | h
        · exact .inl (.inr (by rw [List.append_assoc]; exact List.mem_append_left _ h))
        · exact .inr h
      · exact .inl (.inr (by rw [List.append_assoc]; exact List.mem_append_right _ h))
  have mm : ∀ a, M a → Mut (H a) ∧ A.nn (fa ++ f0 ++ f2) a := fun a h => ⟨RpTs.mut ra a (m a h), .inr (List.mem_append_left _ (List.mem_append_left _ (m a h)))⟩
  have nd := ok.nd
  rw [List.append_assoc] at nd
  have dj := (List.nodup_append.mp nd).2.2
  have d0 : ∀ a ∈ f0, ¬ M a := fun a ha hm => dj a (m a hm) a (List.mem_append_left _ ha) rfl
  have d2 : ∀ a ∈ f2, ¬ M a := fun a ha hm => dj a (m a hm) a (List.mem_append_right _ ha) rfl
  refine ⟨RpTs.join r (RpTs.frame k mm n d0 st r0), RpE.frame k mm n d2 ok.en, ?_, fun a ha => ?_, fun a o e nf => ?_, ok.anc, ok.fix⟩
  · rw [List.append_assoc]
    refine List.nodup_append.mpr ⟨nd', (List.nodup_append.mp nd).2.1, fun a ha b hb e => ?_⟩
    subst e
    rcases fr a ha with h | h
    · exact dj a h a hb rfl
    · exact ok.there a (.inr (by rw [List.append_assoc]; exact List.mem_append_right _ hb)) h
  · rw [List.append_assoc] at ha
    rcases List.mem_append.mp ha with ha | ha
    · rcases fr a ha with h | h
      · exact ok.un a (by rw [List.append_assoc]; exact List.mem_append_left _ h)
      · exact ok.fresh h
    · exact ok.un a (by rw [List.append_assoc]; exact List.mem_append_right _ ha)
  · refine k a o (ok.keep a o e nf) fun hm => ?_
    rcases (ok.un a (by rw [List.append_assoc]; exact List.mem_append_left _ (m a hm))).2 with z | z
    · exact nf z
    · rw [e] at z; cases z
theorem Ok.cut (ok : Ok K A (as ++ τ) σ env H) : ∃ fa f0 f2, Okk K A (as ++ τ) σ env H (fa ++ f0) f2 ∧ RpTs K H σ (A.nn (fa ++ f0 ++ f2)) as fa ∧ RpTs K H σ (A.nn (fa ++ f0 ++ f2)) τ f0 := by
  obtain ⟨f1, f2, o⟩ := ok
  obtain ⟨fa, f0, e, r1, r2⟩ := RpTs.split o.ts
  subst e
  exact ⟨fa, f0, f2, o, r1, r2⟩
theorem Okk.ndA (ok : Okk K A (as ++ τ) σ env H (fa ++ f0) f2) : fa.Nodup := by
  have nd := ok.nd
  rw [List.append_assoc] at nd
  exact (List.nodup_append.mp nd).1
/-- temporaries are dropped -/
theorem Ok.drop (ok : Ok K A (as ++ τ) σ env H) : Ok K A τ σ env H := by
  obtain ⟨fa, f0, f2, o, ra, r0⟩ := ok.cut
  have := Okk.turn (M := fun _ => False) (as' := []) (fa' := []) (H' := H) o ra r0 (fun _ _ e _ => e) (fun _ z => z.elim) (.inl fun _ z => z) List.nodup_nil (fun _ z => nomatch z) rfl
  exact ⟨_, _, this⟩
/-- a value that owns nothing is laid on top -/
theorem Ok.push {x : T} {v : V} (ok : Ok K A τ σ env H) (h : ∀ f, (∀ a, A.nn f a → H a ≠ none) → RpT K H σ (A.nn f) x v []) : Ok K A ((v, x) :: τ) σ env H := by
  obtain ⟨f1, f2, o⟩ := ok
  have := Okk.turn (M := fun _ => False) (as := []) (as' := [(v, x)]) (fa := []) (fa' := []) (H' := H) (f0 := f1) o rfl o.ts (fun _ _ e _ => e) (fun _ z => z.elim) (.inl fun _ z => z) List.nodup_nil (fun _ z => nomatch z) (RpTs.one (h _ o.there))
  exact ⟨_, _, this⟩
theorem Ok.pushD {d : D} {v : V} (ok : Ok K A τ σ env H) (h : ∀ N, Rp K H N d v []) : Ok K A ((v, .tmp d) :: τ) σ env H := ok.push fun _ _ => h _
/-- nothing has changed but that there is more -/
theorem Ok.ext (ok : Ok K A τ σ env H) (k : Ext H H') : Ok K A τ σ env H' := by
  obtain ⟨f1, f2, o⟩ := ok
  have := Okk.turn (M := fun _ => False) (as := []) (as' := []) (fa := []) (fa' := []) (H' := H') (f0 := f1) o rfl o.ts (fun a o e _ => k a o e) (fun _ z => z.elim) (.inl fun _ z => z) List.nodup_nil (fun _ z => nomatch z) rfl
  exact ⟨_, _, this⟩
theorem RpTs.perm {K : PySem.W.Frag} {H : Hp} {σ : St} {N : Addr → Prop} {τ τ' : List (V × T)} (p : τ.Perm τ') : ∀ {f : List Addr}, RpTs K H σ N τ f → ∃ f', f.Perm f' ∧ RpTs K H σ N τ' f' := by
  induction p with
  | nil => intro f h; exact ⟨f, .refl _, h⟩
  | cons x _ ih =>
    intro f h
    obtain ⟨f1, f2, e, r1, r2⟩ := h
    obtain ⟨f', p, q⟩ := ih r2
    exact ⟨f1 ++ f', by rw [e]; exact p.append_left f1, f1, f', rfl, r1, q⟩
  | swap x y l =>
    intro f h
    obtain ⟨f1, f2, e, r1, g1, g2, e', r2, r3⟩ := h
    refine ⟨g1 ++ (f1 ++ g2), ?_, g1, f1 ++ g2, rfl, r2, f1, g2, rfl, r1, r3⟩
    rw [e, e', ← List.append_assoc, ← List.append_assoc]
    exact (List.perm_append_comm).append_right g2
  | trans _ _ ih1 ih2 =>
    intro f h
    obtain ⟨f', p1, h'⟩ := ih1 h
    obtain ⟨f'', p2, h''⟩ := ih2 h'
    exact ⟨f'', p1.trans p2, h''⟩
theorem Ok.perm {τ' : List (V × T)} (ok : Ok K A τ σ env H) (p : τ.Perm τ') : Ok K A τ' σ env H := by
  obtain ⟨f1, f2, o⟩ := ok
  obtain ⟨f1', q, r⟩ := RpTs.perm p o.ts
  have pp : (f1 ++ f2).Perm (f1' ++ f2) := q.append_right f2
  have n : ∀ a, A.nn (f1' ++ f2) a → A.nn (f1 ++ f2) a := fun a h => h.imp id fun h => pp.mem_iff.mpr h
  exact ⟨f1', f2, r.congr n, o.en.congr n, pp.nodup_iff.mp o.nd, fun a ha => o.un a (pp.mem_iff.mpr ha), o.keep, o.anc, o.fix⟩
end
end Pd

namespace Pd
open PySem L2
theorem list_set_self {α : Type} : ∀ {l : List α} {i : Nat} {x : α}, l[i]? = some x → l.set i x = l
  | [], i, x, h => by simp at h
  | a :: l, 0, x, h => by simp at h; subst h; rfl
  | a :: l, i + 1, x, h => by rw [List.set_cons_succ, list_set_self (by simpa using h)]
theorem subs_puts : ∀ {p : List Stp} {d e e' : D}, d.subs p = some e → (d.puts p e').subs p = some e'
  | [], d, e, e', h => by simp [D.puts, D.subs]
  | s :: p, d, e, e', h => by
    rw [D.subs] at h
    cases q : d.sub s with
    | none => rw [q] at h; cases h
    | some c =>
      rw [q] at h
      have ih := subs_puts (p := p) (e' := e') (show c.subs p = some e from h)
      rw [D.puts, q]
      have k : (d.put1 s (c.puts p e')).sub s = some (c.puts p e') := by
        have go : ∀ {xs : List D} {i : Nat}, xs[i]? = some c → (xs.set i (c.puts p e'))[i]? = some (c.puts p e') := fun {xs i} hx => by
          rw [List.getElem?_set_self (List.getElem?_eq_some_iff.mp hx).1]
        cases d with
        | tup xs =>
          cases s with
          | ix n => exact go (show xs[n]? = some c from q)
          | _ => cases q
        | lst o xs =>
          cases s with
          | ix n => exact go (show xs[n]? = some c from q)
          | _ => cases q
        | dic o kt ks xs =>
          cases s with
          | key kk =>
            obtain ⟨i, i1, i2⟩ := lk_of (show lk ks xs kk = some c from q)
            show (D.dic o kt ks (match lkI ks kk with | some i => xs.set i (c.puts p e') | none => xs)).sub (.key kk) = _
            rw [i1]
            exact (lk_at i1).trans (go i2)
          | _ => cases q
        | obj C ns xs =>
          cases s with
          | fld f =>
            obtain ⟨i, i1, i2⟩ := lk_of (show lk ns xs f = some c from q)
            show (D.obj C ns (match lkI ns f with | some i => xs.set i (c.puts p e') | none => xs)).sub (.fld f) = _
            rw [i1]
            exact (lk_at i1).trans (go i2)
          | _ => cases q
        | _ => cases s <;> cases q
      show ((d.put1 s (c.puts p e')).sub s).bind (fun e => e.subs p) = some e'
      rw [k]
      exact ih
theorem set_mk {α : Type} : ∀ (ks : List α) (xs : List D) (i : Nat) (a b : D), (xs.set i a).set i b = xs.set i b := fun _ xs i a b => by rw [List.set_set]
theorem put1_put1 {d : D} {s : Stp} {a b c : D} (h : d.sub s = some c) : (d.put1 s a).put1 s b = d.put1 s b := by
  cases d with
  | tup xs => cases s <;> first | rfl | (show D.tup _ = D.tup _; rw [List.set_set])
  | lst o xs => cases s <;> first | rfl | (show D.lst o _ = D.lst o _; rw [List.set_set])
  | dic o kt ks xs =>
    cases s with
    | key kk =>
      obtain ⟨i, i1, i2⟩ := lk_of (show lk ks xs kk = some c from h)
      show D.dic o kt ks (match lkI ks kk with | some i => (match lkI ks kk with | some i => xs.set i a | none => xs).set i b | none => _) = D.dic o kt ks (match lkI ks kk with | some i => xs.set i b | none => xs)
      rw [i1]
      show D.dic o kt ks ((xs.set i a).set i b) = D.dic o kt ks (xs.set i b)
      rw [List.set_set]
    | _ => rfl
  | obj C ns xs =>
    cases s with
    | fld f =>
      obtain ⟨i, i1, i2⟩ := lk_of (show lk ns xs f = some c from h)
      show D.obj C ns (match lkI ns f with | some i => (match lkI ns f with | some i => xs.set i a | none => xs).set i b | none => _) = D.obj C ns (match lkI ns f with | some i => xs.set i b | none => xs)
      rw [i1]
      show D.obj C ns ((xs.set i a).set i b) = D.obj C ns (xs.set i b)
      rw [List.set_set]
    | _ => rfl
  | _ => cases s <;> rfl
theorem puts_puts : ∀ {p : List Stp} {d a b c : D}, d.subs p = some c → (d.puts p a).puts p b = d.puts p b
  | [], d, a, b, c, h => by simp [D.puts]
  | s :: p, d, a, b, c, h => by
    rw [D.subs] at h
    cases q : d.sub s with
    | none => rw [q] at h; cases h
    | some x =>
      rw [q] at h
      have h' : x.subs p = some c := h
      have k : (d.puts (s :: p) a).subs (s :: p) = some a := subs_puts (e := c) (by rw [D.subs, q]; exact h')
      have k1 : (d.put1 s (x.puts p a)).sub s = some (x.puts p a) := by
        have := subs_puts (p := [s]) (d := d) (e := x) (e' := x.puts p a) (by rw [D.subs, q]; rfl)
        rw [D.puts, q] at this
        simp only [D.puts, D.subs] at this
        cases z : (d.put1 s (x.puts p a)).sub s with
        | none => rw [z] at this; cases this
        | some y => rw [z] at this; exact this
      have e1 : d.puts (s :: p) a = d.put1 s (x.puts p a) := by rw [D.puts, q]
      have e2 : d.puts (s :: p) b = d.put1 s (x.puts p b) := by rw [D.puts, q]
      rw [e1, e2, D.puts, k1]
      show (d.put1 s (x.puts p a)).put1 s ((x.puts p a).puts p b) = _
      rw [put1_put1 q, puts_puts h']
theorem isSh_raw (v : V) : isSh (.raw v) = true := rfl
section
variable {K : PySem.W.Frag} {A : Anc} {H H' : Hp} {M : Addr → Prop} {σ : St} {env : EnvD} {as as' τ : List (V × T)} {f1 f2 fa f0 : List Addr}
/-- the part at a place becomes a temporary; a mark is left -/
theorem Ok.out {j : Nat} {p : List Stp} {d e : D} {v w : V} (ok : Ok K A τ σ env H) (hd : env[j]? = some (some d)) (hs : d.subs p = some e) (ho : owp d p = true)
    (hw : σ[j]? = some (some w)) (hv : VAt H w p v) : Ok K A ((v, .tmp e) :: τ) σ (env.set j (some (d.puts p (.raw v)))) H := by
  obtain ⟨f1, f2, o⟩ := ok
  obtain ⟨v0, g1, gm, g2, q1, q2, q3, q4⟩ := RpE.get o.en hd
  rw [hw] at q1
  have e0 : v0 = some w := (Option.some.inj q1).symm
  subst e0
  have r : Rp K H (A.nn (f1 ++ f2)) d w gm := q3
  obtain ⟨u, h1, hm, h2, p1, p2, p3, p4⟩ := Rp.parts r hs (.inr ho)
  have eu := VAt.inj p1 hv
  subst eu
  have ndm : gm.Nodup := by
    have z := (List.nodup_append.mp o.nd).2.1
    rw [q2] at z
    exact (List.nodup_append.mp (List.nodup_append.mp z).1).2.1
  have nr := p4 (H' := H) (N' := A.nn (f1 ++ f2)) (M := fun _ => False) (e' := .raw u) (fm' := []) ho ⟨fun _ _ e _ => e, fun _ z => z.elim, fun _ z => .inl z⟩ (fun _ z => z.elim) ndm ⟨rfl, rfl⟩
  have ne := q4 (d' := some (d.puts p (.raw u))) (v' := some w) nr
  rw [list_set_self hw] at ne
  have pp : (f1 ++ f2).Perm ((hm ++ f1) ++ (g1 ++ (h1 ++ [] ++ h2) ++ g2)) := by
    rw [q2, p2]
    refine List.perm_iff_count.mpr fun a => ?_
    simp only [List.count_append, List.count_nil]
    omega
  have n : ∀ a, A.nn ((hm ++ f1) ++ (g1 ++ (h1 ++ [] ++ h2) ++ g2)) a → A.nn (f1 ++ f2) a := fun a h => h.imp id fun h => pp.mem_iff.mpr h
  refine ⟨hm ++ f1, _, ⟨hm, f1, rfl, ?_, o.ts.congr n⟩, ne.congr n, pp.nodup_iff.mp o.nd, fun a ha => o.un a (pp.mem_iff.mpr ha), o.keep, o.anc, o.fix⟩
  exact Rp.grow p3 (Ext.refl H) fun a h => .inl (n a h)
theorem owp_puts : ∀ {p : List Stp} {d : D} {e c : D}, d.subs p = some c → owp (d.puts p e) p = owp d p
  | [], d, e, c, h => rfl
  | s :: p, d, e, c, h => by
    rw [D.subs] at h
    cases q : d.sub s with
    | none => rw [q] at h; cases h
    | some x =>
      rw [q] at h
      have h' : x.subs p = some c := h
      have e1 : d.puts (s :: p) e = d.put1 s (x.puts p e) := by rw [D.puts, q]
      have k1 : (d.put1 s (x.puts p e)).sub s = some (x.puts p e) := by
        have := subs_puts (p := [s]) (d := d) (e := x) (e' := x.puts p e) (by rw [D.subs, q]; rfl)
        rw [D.puts, q] at this
        simp only [D.puts, D.subs] at this
        cases z : (d.put1 s (x.puts p e)).sub s with
        | none => rw [z] at this; cases this
        | some y => rw [z] at this; exact this
      have k2 : ow (d.put1 s (x.puts p e)) = ow d := by cases d <;> cases s <;> rfl
      rw [e1, owp, owp, k1, k2, q]
      show (ow d && owp (x.puts p e) p) = (ow d && owp x p)
      rw [owp_puts h']
/-- a temporary is laid where the mark stands -/
theorem Ok.inn {j : Nat} {p : List Stp} {d e : D} {v : V} (ok : Ok K A ((v, .tmp e) :: τ) σ env H) (hd : env[j]? = some (some d)) (hs : d.subs p = some (.raw v)) (ho : owp d p = true) :
    Ok K A τ σ (env.set j (some (d.puts p e))) H := by
  obtain ⟨f1', f2, o⟩ := ok
  obtain ⟨fe, f1, e1, re, r1⟩ := o.ts
  subst e1
  obtain ⟨v0, g1, gm, g2, q1, q2, q3, q4⟩ := RpE.get o.en hd
  cases v0 with
  | none => exact (show False from q3).elim
  | some w =>
    have r : Rp K H (A.nn (fe ++ f1 ++ f2)) d w gm := q3
    have ndm : gm.Nodup := by
      have z := (List.nodup_append.mp o.nd).2.1
      rw [q2] at z
      exact (List.nodup_append.mp (List.nodup_append.mp z).1).2.1
    obtain ⟨u, h1, hm, h2, _, p1, p3, p2⟩ := Rp.parts r hs (.inr ho)
    obtain ⟨eu, em⟩ : v = u ∧ hm = [] := ⟨p3.1.symm, p3.2⟩
    subst eu; subst em
    have nr := p2 (H' := H) (N' := A.nn (fe ++ f1 ++ f2)) (M := fun _ => False) (e' := e) (fm' := fe) ho ⟨fun _ _ e _ => e, fun _ z => z.elim, fun _ z => .inl z⟩ (fun _ z => z.elim) ndm (show Rp K H _ e v fe from re)
    have ne := q4 (d' := some (d.puts p e)) (v' := some w) nr
    rw [list_set_self q1] at ne
    have pp : (fe ++ f1 ++ f2).Perm (f1 ++ (g1 ++ (h1 ++ fe ++ h2) ++ g2)) := by
      rw [q2, p1]
      refine List.perm_iff_count.mpr fun a => ?_
      simp only [List.count_append, List.count_nil]
      omega
    have n : ∀ a, A.nn (f1 ++ (g1 ++ (h1 ++ fe ++ h2) ++ g2)) a → A.nn (fe ++ f1 ++ f2) a := fun a h => h.imp id fun h => pp.mem_iff.mpr h
    exact ⟨f1, _, r1.congr n, ne.congr n, pp.nodup_iff.mp o.nd, fun a ha => o.un a (pp.mem_iff.mpr ha), o.keep, o.anc, o.fix⟩
/-- .. behind the part that was taken out there -/
theorem Ok.back {j : Nat} {p : List Stp} {d e e' : D} {v : V} (ok : Ok K A ((v, .tmp e') :: τ) σ (env.set j (some (d.puts p (.raw v)))) H) (hd : env[j]? = some (some d)) (hs : d.subs p = some e) (ho : owp d p = true) :
    Ok K A τ σ (env.set j (some (d.puts p e'))) H := by
  have hj := (List.getElem?_eq_some_iff.mp hd).1
  have h := Ok.inn ok (j := j) (p := p) (d := d.puts p (.raw v)) (by rw [List.getElem?_set_self hj]) (subs_puts hs) ((owp_puts hs).trans ho)
  rw [List.set_set, puts_puts hs] at h
  exact h
/-- the value at a place, read as it is -/
theorem Ok.look {j : Nat} {p : List Stp} {d e : D} {v w : V} (ok : Ok K A τ σ env H) (hd : env[j]? = some (some d)) (hs : d.subs p = some e) (ho : isSh e = false ∨ owp d p = true)
    (hw : σ[j]? = some (some w)) (hv : VAt H w p v) : ∃ N fp, Rp K H N e v fp ∧ (∀ a ∈ fp, N a) ∧ ∀ a, N a → H a ≠ none := by
  obtain ⟨f1, f2, o⟩ := ok
  obtain ⟨v0, g1, gm, g2, q1, q2, q3, q4⟩ := RpE.get o.en hd
  rw [hw] at q1
  have e0 : v0 = some w := (Option.some.inj q1).symm
  subst e0
  have r : Rp K H (A.nn (f1 ++ f2)) d w gm := q3
  obtain ⟨u, h1, hm, h2, p1, p2, p3, p4⟩ := Rp.parts r hs ho
  have eu := VAt.inj p1 hv
  subst eu
  refine ⟨_, _, p3, fun a ha => .inr (List.mem_append_right _ ?_), o.there⟩
  rw [q2, p2]
  exact List.mem_append_left _ (List.mem_append_right _ (List.mem_append_left _ (List.mem_append_right _ ha)))
/-- what is shared may be read twice -/
theorem Ok.dup {d : D} {v : V} (ok : Ok K A ((v, .tmp d) :: τ) σ env H) (s : isSh d = true) : Ok K A ((v, .tmp d) :: (v, .tmp d) :: τ) σ env H := by
  obtain ⟨f1', f2, o⟩ := ok
  obtain ⟨fe, f1, e1, re, r1⟩ := o.ts
  have z : fe = [] := Rp.sh d s re
  subst z
  exact ⟨f1', f2, ⟨[], f1', rfl, re, o.ts⟩, o.en, o.nd, o.un, o.keep, o.anc, o.fix⟩
/-- frozen -/
theorem Ok.freeze {d : D} {v : V} (ok : Ok K A ((v, .tmp d) :: τ) σ env H) (s : noOb d = true) : Ok K A ((v, .tmp (fz d)) :: τ) σ env H := by
  obtain ⟨fa, f0, f2, o, ra, r0⟩ := Ok.cut (as := [(v, .tmp d)]) ok
  refine ⟨[] ++ f0, f2, Okk.turn (M := fun _ => False) (as := [(v, .tmp d)]) (as' := [(v, .tmp (fz d))]) (fa' := []) (H' := H) o ra r0 (fun _ _ e _ => e) (fun _ z => z.elim) (.inl fun _ z => z) List.nodup_nil (fun _ z => nomatch z) (RpTs.one ?_)⟩
  have r := RpTs.of1 ra
  have nd := o.nd
  rw [List.append_assoc] at nd
  have n1 : ∀ a, A.nn ([] ++ f0 ++ f2) a → A.nn (fa ++ f0 ++ f2) a := fun a h => h.imp id fun h => by
    rw [List.append_assoc]
    exact List.mem_append_right _ (by simpa using h)
  have n2 : ∀ a ∈ fa, ¬ A.nn ([] ++ f0 ++ f2) a := fun a ha h => by
    rcases h with h | h
    · exact (o.un a (by rw [List.append_assoc]; exact List.mem_append_left _ ha)).1 h
    · exact (List.nodup_append.mp nd).2.2 a ha a (by simpa using h) rfl
  exact Rp.fz n1 d s n2 (show Rp K H _ d v fa from r)
end
end Pd

namespace Pd
open PySem L2
/-- a temporary as content: whether it is borrowed, and what it is -/
def T.vw (env : EnvD) : T → Option (Bool × D)
  | .tmp d => if noOb d = true then some (false, fz d) else none
  | .bor d => some (true, d)
  | .pl j p => match env[j]? with
    | some (some d) => if owp d p = true then (match d.subs p with
      | some e => if isSh e = true then some (false, e) else if noOb e = true then some (true, fz e) else none
      | none => none) else none
    | _ => none
def vws (env : EnvD) : List T → (Bool → List D → Prop) → Prop
  | [], k => k false []
  | x :: xs, k => match x.vw env with
    | some (b, d) => vws env xs fun b' ds => k (b || b') (d :: ds)
    | none => False
/-- a temporary as what is stored: what is owned is frozen -/
def T.tk (env : EnvD) : T → Option (D × EnvD)
  | .tmp d => some (d, env)
  | .bor d => if noAl d = true then some (d, env) else none
  | .pl j p => match env[j]? with
    | some (some d) => if owp d p = true then (match d.subs p with
      | some e => if isSh e = true then some (e, env) else if noOb e = true then some (fz e, env.set j (some (d.puts p (fz e)))) else none
      | none => none) else none
    | _ => none
def tks (env : EnvD) : List T → (List D → EnvD → Prop) → Prop
  | [], k => k [] env
  | x :: xs, k => match x.tk env with
    | some (d, env1) => tks env1 xs fun ds e => k (d :: ds) e
    | none => False
def ntmp (b : Bool) (d : D) : T := if b = true then .bor d else .tmp d
/-- what a reckoned result is: borrowed, if it may show what was borrowed -/
def resT (b : Bool) (d : D) : T := if b = true then (if noAl d = true then .tmp d else .bor (fz d)) else .tmp d

section
variable {K : PySem.W.Frag} {A : Anc} {H H' : Hp} {M N : Addr → Prop} {σ : St} {env env' : EnvD} {as as' τ : List (V × T)} {f1 f2 fa f0 : List Addr} {v : V} {x : T} {d : D} {b : Bool}
theorem Okk.look {j : Nat} {p : List Stp} {d e : D} {v w : V} (o : Okk K A τ σ env H f1 f2) (hd : env[j]? = some (some d)) (hs : d.subs p = some e) (ho : owp d p = true)
    (hw : σ[j]? = some (some w)) (hv : VAt H w p v) : ∃ fp, Rp K H (A.nn (f1 ++ f2)) e v fp ∧ ∀ a ∈ fp, a ∈ f2 := by
  obtain ⟨v0, g1, gm, g2, q1, q2, q3, q4⟩ := RpE.get o.en hd
  rw [hw] at q1
  have e0 : v0 = some w := (Option.some.inj q1).symm
  subst e0
  have r : Rp K H (A.nn (f1 ++ f2)) d w gm := q3
  obtain ⟨u, h1, hm, h2, p1, p2, p3, p4⟩ := Rp.parts r hs (.inr ho)
  have eu := VAt.inj p1 hv
  subst eu
  refine ⟨_, p3, fun a ha => ?_⟩
  rw [q2, p2]
  exact List.mem_append_left _ (List.mem_append_right _ (List.mem_append_left _ (List.mem_append_right _ ha)))
/-- the top one is something else that owns nothing -/
theorem Ok.alt {x' : T} (ok : Ok K A ((v, x) :: τ) σ env H) (h : ∀ f1 f2 fp, Okk K A ((v, x) :: τ) σ env H f1 f2 → RpT K H σ (A.nn (f1 ++ f2)) x v fp → fp = [] ∧ RpT K H σ (A.nn (f1 ++ f2)) x' v []) : Ok K A ((v, x') :: τ) σ env H := by
  obtain ⟨fa, f0, f2, o, ra, r0⟩ := Ok.cut (as := [(v, x)]) ok
  obtain ⟨e, r⟩ := h _ _ _ o (RpTs.of1 ra)
  subst e
  exact ⟨[] ++ f0, f2, Okk.turn (M := fun _ => False) (as := [(v, x)]) (as' := [(v, x')]) (fa' := []) (H' := H) o ra r0 (fun _ _ e _ => e) (fun _ z => z.elim) (.inl fun _ z => z) List.nodup_nil (fun _ z => nomatch z) (RpTs.one r)⟩
theorem nrm1 (ok : Ok K A ((v, x) :: τ) σ env H) (h : x.vw env = some (b, d)) : Ok K A ((v, ntmp b d) :: τ) σ env H ∧ isSh d = true := by
  cases x with
  | tmp c =>
    simp only [T.vw] at h
    split at h
    · rename_i hn
      cases h
      exact ⟨ok.freeze hn, by rw [fz_isSh]; exact hn⟩
    · cases h
  | bor c =>
    cases h
    refine ⟨ok, ?_⟩
    obtain ⟨fa, f0, f2, o, ra, r0⟩ := Ok.cut (as := [(v, .bor d)]) ok
    exact (RpTs.of1 ra).2.1
  | pl j p =>
    simp only [T.vw] at h
    split at h
    · rename_i dd hd
      split at h
      · rename_i ho
        split at h
        · rename_i e hs
          split at h
          · rename_i hsh
            cases h
            refine ⟨ok.alt fun f1 f2 fp o r => ?_, hsh⟩
            obtain ⟨e, w, hw, hv⟩ := r
            obtain ⟨g, rr, _⟩ := o.look hd hs ho hw hv
            have z := Rp.sh _ hsh rr
            subst z
            exact ⟨e, rr⟩
          · split at h
            · rename_i hsh hn
              cases h
              refine ⟨ok.alt fun f1 f2 fp o r => ?_, by rw [fz_isSh]; exact hn⟩
              obtain ⟨e, w, hw, hv⟩ := r
              obtain ⟨g, rr, _⟩ := o.look hd hs ho hw hv
              exact ⟨e, rfl, by rw [fz_isSh]; exact hn, Rp.fz (fun _ z => z.elim) _ hn (fun _ _ z => z) rr⟩
            · cases h
        · cases h
      · cases h
    · cases h
theorem tk1 (ok : Ok K A ((v, x) :: τ) σ env H) (h : x.tk env = some (d, env')) : Ok K A ((v, .tmp d) :: τ) σ env' H := by
  cases x with
  | tmp c => cases h; exact ok
  | bor c =>
    simp only [T.tk] at h
    split at h
    · rename_i hn
      cases h
      exact ok.alt fun f1 f2 fp o r => ⟨r.1, Rp.noAl _ hn r.2.2⟩
    · cases h
  | pl j p =>
    simp only [T.tk] at h
    split at h
    · rename_i dd hd
      split at h
      · rename_i ho
        split at h
        · rename_i e hs
          split at h
          · rename_i hsh
            cases h
            refine ok.alt fun f1 f2 fp o r => ?_
            obtain ⟨e, w, hw, hv⟩ := r
            obtain ⟨g, rr, _⟩ := o.look hd hs ho hw hv
            have z := Rp.sh _ hsh rr
            subst z
            exact ⟨e, rr⟩
          · split at h
            · rename_i hsh hn
              cases h
              obtain ⟨w, hw, hv⟩ : ∃ w, σ[j]? = some (some w) ∧ VAt H w p v := by
                obtain ⟨fa, f0, f2, o, ra, r0⟩ := Ok.cut (as := [(v, .pl j p)]) ok
                exact (RpTs.of1 ra).2
              have ok1 := Ok.out (Ok.drop (as := [(v, .pl j p)]) ok) hd hs ho hw hv
              have ok2 := Ok.dup (ok1.freeze hn) (by rw [fz_isSh]; exact hn)
              have ok3 := Ok.back ok2 hd hs ho
              exact ok3
            · cases h
        · cases h
      · cases h
    · cases h
theorem nrms : ∀ {as τ : List (V × T)} {k : Bool → List D → Prop}, Ok K A (as ++ τ) σ env H → vws env (as.map (·.2)) k →
    ∃ bds : List (Bool × D), bds.length = as.length ∧ k (bds.any (·.1)) (bds.map (·.2)) ∧ (∀ q ∈ bds, isSh q.2 = true) ∧ Ok K A ((as.map (·.1)).zip (bds.map fun q => ntmp q.1 q.2) ++ τ) σ env H
  | [], τ, k, ok, h => ⟨[], rfl, h, (by intro q hq; cases hq), ok⟩
  | (v, x) :: as, τ, k, ok, h => by
    rw [List.map_cons, vws] at h
    split at h
    · rename_i b d hv
      obtain ⟨ok1, sh⟩ := nrm1 ok hv
      have ok2 : Ok K A (as ++ ((v, ntmp b d) :: τ)) σ env H := ok1.perm List.perm_middle.symm
      obtain ⟨bds, l, hk, hsh, ok3⟩ := nrms (k := fun b' ds => k (b || b') (d :: ds)) ok2 h
      refine ⟨(b, d) :: bds, by rw [List.length_cons, List.length_cons, l], hk, fun q hq => ?_, ?_⟩
      · rcases List.mem_cons.mp hq with rfl | hq
        · exact sh
        · exact hsh q hq
      · exact ok3.perm List.perm_middle
    · exact h.elim
theorem tks_ok : ∀ {as τ : List (V × T)} {env : EnvD} {k : List D → EnvD → Prop}, Ok K A (as ++ τ) σ env H → tks env (as.map (·.2)) k →
    ∃ ds env', k ds env' ∧ ds.length = as.length ∧ Ok K A ((as.map (·.1)).zip (ds.map .tmp) ++ τ) σ env' H
  | [], τ, env, k, ok, h => ⟨[], env, h, rfl, ok⟩
  | (v, x) :: as, τ, env, k, ok, h => by
    rw [List.map_cons, tks] at h
    split at h
    · rename_i d env1 hv
      have ok1 := tk1 ok hv
      have ok2 : Ok K A (as ++ ((v, .tmp d) :: τ)) σ env1 H := ok1.perm List.perm_middle.symm
      obtain ⟨ds, env', hk, l, ok3⟩ := tks_ok (k := fun ds e => k (d :: ds) e) ok2 h
      exact ⟨d :: ds, env', hk, by rw [List.length_cons, List.length_cons, l], ok3.perm List.perm_middle⟩
    · exact h.elim
theorem RpTs.rps : ∀ {ds : List D} {vs : List V} {fp : List Addr}, ds.length = vs.length → RpTs K H σ N (vs.zip (ds.map .tmp)) fp → Rps K H N ds vs fp
  | [], [], fp, _, h => ⟨rfl, h⟩
  | [], _ :: _, fp, e, h => by cases e
  | _ :: _, [], fp, e, h => by cases e
  | d :: ds, v :: vs, fp, e, h => by
    obtain ⟨g1, g2, e', r1, r2⟩ := h
    exact ⟨v, vs, g1, g2, rfl, e', r1, RpTs.rps (by simpa using e) r2⟩
theorem RpTs.rpsN : ∀ {bds : List (Bool × D)} {vs : List V} {fp : List Addr}, bds.length = vs.length → (∀ q ∈ bds, isSh q.2 = true) → RpTs K H σ N (vs.zip (bds.map fun q => ntmp q.1 q.2)) fp →
    fp = [] ∧ Rps K H (fun a => (bds.any (·.1)) = false ∧ N a) (bds.map (·.2)) vs []
  | [], [], fp, _, _, h => ⟨h, rfl, rfl⟩
  | [], _ :: _, fp, e, _, h => by cases e
  | _ :: _, [], fp, e, _, h => by cases e
  | (b, d) :: bds, v :: vs, fp, e, s, h => by
    obtain ⟨g1, g2, e', r1, r2⟩ := h
    obtain ⟨z2, rr⟩ := RpTs.rpsN (by simpa using e) (fun q hq => s q (List.mem_cons_of_mem _ hq)) r2
    have sd := s (b, d) List.mem_cons_self
    have go : g1 = [] ∧ Rp K H (fun a => (((b, d) :: bds).any (·.1)) = false ∧ N a) d v [] := by
      cases b with
      | true =>
        obtain ⟨z, _, r⟩ : RpT K H σ N (.bor d) v g1 := r1
        exact ⟨z, Rp.grow r (Ext.refl H) fun a h => by simp at h⟩
      | false =>
        have r : Rp K H N d v g1 := r1
        have z := Rp.sh _ sd r
        subst z
        exact ⟨rfl, Rp.grow r (Ext.refl H) fun a h => .inl h.2⟩
    refine ⟨by rw [e', go.1, z2]; rfl, v, vs, [], [], rfl, rfl, go.2, Rps.grow rr (Ext.refl H) fun a h => .inl ⟨?_, h.2⟩⟩
    have := h.1
    simp only [List.any_cons, Bool.or_eq_false_iff] at this
    exact this.2
/-- args as content: what a built-in rule is handed -/
theorem Ok.args {k : Bool → List D → Prop} (ok : Ok K A (as ++ τ) σ env H) (h : vws env (as.map (·.2)) k) :
    ∃ b ds f0 f2, k b ds ∧ isShs ds = true ∧ Okk K A τ σ env H f0 f2 ∧ Rps K H (fun a => b = false ∧ A.nn (f0 ++ f2) a) ds (as.map (·.1)) [] := by
  obtain ⟨bds, l, hk, hs, ok1⟩ := nrms ok h
  obtain ⟨fa, f0, f2, o, ra, r0⟩ := Ok.cut ok1
  obtain ⟨z, rr⟩ := RpTs.rpsN (by simpa using l) hs ra
  subst z
  refine ⟨_, _, f0, f2, hk, ?_, ⟨r0, o.en, o.nd, o.un, o.keep, o.anc, o.fix⟩, rr⟩
  rw [isShs_all, List.all_eq_true]
  intro d hd
  obtain ⟨q, hq, e⟩ := List.mem_map.mp hd
  rw [← e]; exact hs q hq
/-- what a pure rule asks, of contents -/
abbrev Fn := List D → (D → Prop) → Prop
/-- what a rule's answer has to show -/
def AnsQ (K : PySem.W.Frag) (H : Hp) (N : Addr → Prop) (Qd : D → Prop) (Q : VK) : Prop :=
  ∀ d v H' fp, Qd d → Ext H H' → Rp K H' (fun a => N a ∨ a ∈ fp) d v fp → (∀ a ∈ fp, H a = none) → fp.Nodup → noOb d = true → Q v H'
/-- the rule r gives what f says: the result is made of what is handed in and of new objects -/
def Snd (K : PySem.W.Frag) (r : List V → Hp → VK → Prop) (f : Fn) : Prop :=
  ∀ (H : Hp) (N : Addr → Prop) (vs : List V) (ds : List D) (Qd : D → Prop) (Q : VK), Rps K H N ds vs [] → isShs ds = true → (∀ a, N a → H a ≠ none) → f ds Qd → AnsQ K H N Qd Q → r vs H Q
/-- .. lifted -/
theorem Ok.fn {r : List V → Hp → VK → Prop} {f : Fn} {k : T → Prop} {Q : VK} (ok : Ok K A (as ++ τ) σ env H) (s : Snd K r f) (h : vws env (as.map (·.2)) fun b ds => f ds fun d => k (resT b d))
    (hQ : ∀ v x H', Ok K A ((v, x) :: τ) σ env H' → k x → Q v H') : r (as.map (·.1)) H Q := by
  obtain ⟨b, ds, f0, f2, hf, hs, o, rr⟩ := ok.args h
  refine s H _ _ ds _ Q rr hs (fun a ha => o.there a ha.2) hf fun d v H' fp hk ex rd fr nd nob => hQ v _ H' ?_ hk
  cases b with
  | false =>
    refine ⟨fp ++ f0, f2, Okk.turn (M := fun _ => False) (as := []) (as' := [(v, .tmp d)]) (fa := []) (fa' := fp) (f0 := f0) o rfl o.ts (fun a o e _ => ex a o e) (fun _ z => z.elim) (.inl fun _ z => z) nd (fun a ha => .inr (fr a ha)) (RpTs.one ?_)⟩
    refine Rp.grow rd (Ext.refl H') fun a h => ?_
    rcases h with h | h
    · exact .inl (.inl ⟨rfl, .inl h⟩)
    · rw [List.append_assoc] at h
      rcases List.mem_append.mp h with h | h
      · exact .inl (.inr h)
      · exact .inl (.inl ⟨rfl, .inr h⟩)
  | true =>
    unfold resT
    rw [if_pos rfl]
    split
    · rename_i hn
      refine ⟨fp ++ f0, f2, Okk.turn (M := fun _ => False) (as := []) (as' := [(v, .tmp d)]) (fa := []) (fa' := fp) (f0 := f0) o rfl o.ts (fun a o e _ => ex a o e) (fun _ z => z.elim) (.inl fun _ z => z) nd (fun a ha => .inr (fr a ha)) (RpTs.one ?_)⟩
      exact Rp.noAl d hn rd
    · refine ⟨[] ++ f0, f2, Okk.turn (M := fun _ => False) (as := []) (as' := [(v, .bor (fz d))]) (fa := []) (fa' := []) (f0 := f0) o rfl o.ts (fun a o e _ => ex a o e) (fun _ z => z.elim) (.inl fun _ z => z) List.nodup_nil (fun a ha => nomatch ha) (RpTs.one ?_)⟩
      exact ⟨rfl, by rw [fz_isSh]; exact nob, Rp.fz (fun _ z => z.elim) d nob (fun _ _ z => z) rd⟩
end
end Pd

namespace Pd
open PySem L2
/-- an exception of the program: its class's name, what it is told at -/
structure Exn where
  nm : Str
  d : D
/-- what is no thing of the heap -/
def flat : D → Option V
  | .non => some .non
  | .bl b => some (.bl b)
  | .int i => some (.int i)
  | .str x => some (.str x)
  | _ => none
/-- the own things of an error -/
def errFs (nm : Str) (v : V) : List (Str × V) := [(("name" : Str), .str nm), ("at", v)]
def ExAt (K : PySem.W.Frag) (H : Hp) (x : Exn) (cls : Value) (dd : Option Addr) : Prop :=
  ∃ C v a, PySem.W.nsIn K mainGlobals x.nm = some (some (.ref C)) ∧ cls = .ref C ∧ flat x.d = some v ∧ dd = some a ∧ H a = some (.xd (errFs x.nm v))
abbrev WD := Exn → EnvD → Prop
abbrev TD := EnvD → (T → EnvD → Prop) → WD → Prop
abbrev TDs := EnvD → (List T → EnvD → Prop) → WD → Prop
abbrev TTD := EnvD → (Bool → EnvD → Prop) → WD → Prop
/-- what the wish of an exception asks -/
def HW (K : PySem.W.Frag) (W0 : L2.WX) (A : Anc) (τ : List (V × T)) (σ : St) (W : WD) : Prop :=
  ∀ env' H' x cls d, Ok K A τ σ env' H' → ExAt K H' x cls d → W x env' → W0 cls d σ H'
theorem HW.pop {K : PySem.W.Frag} {W0 : L2.WX} {A : Anc} {as τ : List (V × T)} {σ : St} {W : WD} (h : HW K W0 A τ σ W) : HW K W0 A (as ++ τ) σ W :=
  fun env' H' x cls d ok e w => h env' H' x cls d ok.drop e w
/-- an expression over D; m: it may change what stands -/
structure PD (X : Cx) (m : Bool) (e : Expr) (td : TD) : Prop where
  ex : ∀ (W0 : L2.WX), Takes X W0 → ∃ t : TE, PE X e t ∧ ∀ (A : Anc) (τ : List (V × T)) (σ : St) (env : EnvD) (H : Hp) (Q : T → EnvD → Prop) (W : WD) (R : VK),
    Ok X.K A τ σ env H → (m = true → stays τ) → HW X.K W0 A τ σ W → td env Q W → (∀ v H' x env', Ok X.K A ((v, x) :: τ) σ env' H' → Q x env' → R v H') → t σ H R
structure PDs (X : Cx) (m : Bool) (es : List Expr) (td : TDs) : Prop where
  ex : ∀ (W0 : L2.WX), Takes X W0 → ∃ t : TA, PA X es t ∧ ∀ (A : Anc) (τ : List (V × T)) (σ : St) (env : EnvD) (H : Hp) (Q : List T → EnvD → Prop) (W : WD) (R : List V → Hp → Prop),
    Ok X.K A τ σ env H → (m = true → stays τ) → HW X.K W0 A τ σ W → td env Q W → (∀ as H' env', Ok X.K A (as ++ τ) σ env' H' → Q (as.map (·.2)) env' → R (as.map (·.1)) H') → t σ H R
structure PTD (X : Cx) (m : Bool) (e : Expr) (tt : TTD) : Prop where
  ex : ∀ (W0 : L2.WX), Takes X W0 → ∃ t : TT, PT X e t ∧ ∀ (A : Anc) (τ : List (V × T)) (σ : St) (env : EnvD) (H : Hp) (Q : Bool → EnvD → Prop) (W : WD) (R : Bool → Hp → Prop),
    Ok X.K A τ σ env H → (m = true → stays τ) → HW X.K W0 A τ σ W → tt env Q W → (∀ b H' env', Ok X.K A τ σ env' H' → Q b env' → R b H') → t σ H R
structure PWD (X : Cx) (m : Bool) (e : Expr) (tt : TTD) : Prop where
  ex : ∀ (W0 : L2.WX), Takes X W0 → ∃ t : TT, PW X e t ∧ ∀ (A : Anc) (τ : List (V × T)) (σ : St) (env : EnvD) (H : Hp) (Q : Bool → EnvD → Prop) (W : WD) (R : Bool → Hp → Prop),
    Ok X.K A τ σ env H → (m = true → stays τ) → HW X.K W0 A τ σ W → tt env Q W → (∀ b H' env', Ok X.K A τ σ env' H' → Q b env' → R b H') → t σ H R

/-! ### the readings -/
def dVar (i : Nat) : TD := fun env Q _ => match env[i]? with
  | some (some _) => Q (.pl i []) env
  | _ => False
def dC (d : D) : TD := fun env Q _ => Q (.tmp d) env
def dNil : TDs := fun env Q _ => Q [] env
def dCons (m2 : Bool) (ta : TD) (tr : TDs) : TDs := fun env Q W => ta env (fun x e1 => (m2 = true → x.stay = true) ∧ tr e1 (fun xs e2 => Q (x :: xs) e2) W) W
/-- a pure rule of the arguments -/
def dFn (f : Fn) (ta : TDs) : TD := fun env Q W => ta env (fun xs e => vws e xs fun b ds => f ds fun d => Q (resT b d) e) W
def d2 (m2 : Bool) (ta tb : TD) : TDs := dCons m2 ta (dCons false tb dNil)
def d1 (ta : TD) : TDs := dCons false ta dNil
/-- a display: what is owned is taken in -/
def dLst (ta : TDs) : TD := fun env Q W => ta env (fun xs e => xs.length ≤ sizeLine ∧ tks e xs fun ds e' => Q (.tmp (.lst true ds)) e') W
def dTup (ta : TDs) : TD := fun env Q W => ta env (fun xs e => xs.length ≤ sizeLine ∧ tks e xs fun ds e' => Q (.tmp (.tup ds)) e') W
/-- a display to be looked at -/
def dLstV (ta : TDs) : TD := fun env Q W => ta env (fun xs e => xs.length ≤ sizeLine ∧ vws e xs fun b ds => Q (resT b (.lst true ds)) e) W
def dTupV (ta : TDs) : TD := fun env Q W => ta env (fun xs e => xs.length ≤ sizeLine ∧ vws e xs fun b ds => Q (resT b (.tup ds)) e) W

section
variable {X : Cx} {m m1 m2 : Bool} {a b c e : Expr} {es : List Expr} {ta tb tc td : TD} {ts tr : TDs} {pos : Pos}
theorem stays_cons {v : V} {x : T} {τ : List (V × T)} (h : x.stay = true) (s : stays τ) : stays ((v, x) :: τ) := fun y hy => by
  rcases List.mem_cons.mp hy with rfl | hy
  · exact h
  · exact s y hy
theorem PD.mono (h : PD X false e td) : PD X m e td := ⟨fun W0 tk => by
  obtain ⟨t, p, q⟩ := h.ex W0 tk
  exact ⟨t, p, fun A τ σ env H Q W R ok st => q A τ σ env H Q W R ok fun z => nomatch z⟩⟩
theorem RpE.at' {K : PySem.W.Frag} {H : Hp} {N : Addr → Prop} {env : EnvD} {σ : St} {fp : List Addr} {i : Nat} {d : D} (h : RpE K H N env σ fp) (e : env[i]? = some (some d)) : ∃ w, σ[i]? = some (some w) := by
  obtain ⟨v, f1, fm, f2, q1, q2, q3, _⟩ := h.get e
  cases v with
  | none => exact (show False from q3).elim
  | some w => exact ⟨w, q1⟩
theorem pd_var {i : Nat} {x : Str} (hN : X.N[i]? = some x := by rfl) (hv : Vis X.env.scope x := by first | exact Or.inl rfl | exact Or.inr (Or.inl rfl) | exact Or.inr (Or.inr rfl)) (hd : (x == ("__debug__" : Str)) = false := by decide)
    (hcd : (x == ("__classdict__" : Str)) = false := by decide) : PD X false (.Name x pos) (dVar i) := by
  refine ⟨fun W0 tk => ⟨tVar i, pe_var hN hv hd hcd, fun A τ σ env H Q W R ok _ _ h hR => ?_⟩⟩
  unfold dVar at h
  split at h
  · rename_i d he
    obtain ⟨f1, f2, o⟩ := id ok
    obtain ⟨w, hw⟩ := RpE.at' o.en he
    refine ⟨w, hw, hR w H (.pl i []) env (ok.push fun f _ => ⟨rfl, w, hw, rfl⟩) h⟩
  · exact h.elim
theorem pd_const {v : V} {d : D} (hp : PE X e (tC v)) (r : ∀ K H N, Rp K H N d v []) : PD X false e (dC d) :=
  ⟨fun W0 tk => ⟨tC v, hp, fun A τ σ env H Q W R ok _ _ h hR => hR v H (.tmp d) env (ok.pushD fun N => r X.K H N) h⟩⟩
theorem pd_int {i j} : PD X false (.Constant (.int i) j pos) (dC (.int i)) := pd_const pe_int fun _ _ _ => ⟨rfl, rfl⟩
theorem pd_bl {i j} : PD X false (.Constant (.bool i) j pos) (dC (.bl i)) := pd_const pe_bl fun _ _ _ => ⟨rfl, rfl⟩
theorem pd_non {j} : PD X false (.Constant .none j pos) (dC .non) := pd_const pe_non fun _ _ _ => ⟨rfl, rfl⟩
theorem pd_str {x j} : PD X false (.Constant (.str x) j pos) (dC (.str x)) := pd_const pe_str fun _ _ _ => ⟨rfl, rfl⟩
/-- a constant of the module -/
theorem pd_glob {x : Str} {v : V} {u : Value} {d : D} (hg : Gl X x) (hm : X.mg x = some u) (r : RelV v u) (hr : ∀ H N, Rp X.K H N d v []) (hd : (x == ("__debug__" : Str)) = false := by decide) : PD X false (.Name x pos) (dC d) :=
  ⟨fun W0 tk => ⟨tC v, pe_glob hg hm r hd, fun A τ σ env H Q W R ok _ _ h hR => hR v H (.tmp d) env (ok.pushD fun N => hr H N) h⟩⟩
theorem pds_nil : PDs X false [] dNil := ⟨fun W0 tk => ⟨tNil, pa_nil, fun A τ σ env H Q W R ok _ _ h hR => hR [] H env ok h⟩⟩
theorem pds_cons (ha : PD X m1 a ta) (hr : PDs X m2 es tr) (hs : starEach (a :: es) X.env = (false, eval a X.env) :: starEach es X.env := by rfl) : PDs X (m1 || m2) (a :: es) (dCons m2 ta tr) := by
  refine ⟨fun W0 tk => ?_⟩
  obtain ⟨t1, p1, h1⟩ := ha.ex W0 tk
  obtain ⟨t2, p2, h2⟩ := hr.ex W0 tk
  refine ⟨tCons t1 t2, pa_cons p1 p2 hs, fun A τ σ env H Q W R ok st hW h hR => ?_⟩
  refine h1 A τ σ env H _ W _ ok (fun z => st (by rw [z]; rfl)) hW h fun v1 H1 x1 e1 ok1 ⟨q0, q1⟩ => ?_
  refine h2 A ((v1, x1) :: τ) σ e1 H1 _ W _ ok1 (fun z => stays_cons (q0 z) (st (by rw [z, Bool.or_true]))) (HW.pop (as := [(v1, x1)]) hW) q1 fun as H2 e2 ok2 q2 => ?_
  exact hR ((v1, x1) :: as) H2 e2 (ok2.perm List.perm_middle) q2
theorem pds1 (ha : PD X m1 a ta) (hs : starEach [a] X.env = (false, eval a X.env) :: starEach [] X.env := by rfl) : PDs X m1 [a] (d1 ta) := by
  have h := pds_cons ha (pds_nil (X := X)) hs
  rwa [Bool.or_false] at h
/-- two expressions in a row -/
theorem two (ha : PD X m1 a ta) (hb : PD X m2 b tb) {W0 : L2.WX} (tk : Takes X W0) : ∃ t1 t2, PE X a t1 ∧ PE X b t2 ∧ ∀ (A : Anc) (τ : List (V × T)) (σ : St) (env : EnvD) (H : Hp) (Q : List T → EnvD → Prop) (W : WD) (R : V → V → Hp → Prop),
    Ok X.K A τ σ env H → ((m1 || m2) = true → stays τ) → HW X.K W0 A τ σ W → d2 m2 ta tb env Q W → (∀ v u H' x y env', Ok X.K A ([(v, x), (u, y)] ++ τ) σ env' H' → Q [x, y] env' → R v u H') → t1 σ H fun v H1 => t2 σ H1 fun u H2 => R v u H2 := by
  obtain ⟨t1, p1, h1⟩ := ha.ex W0 tk
  obtain ⟨t2, p2, h2⟩ := hb.ex W0 tk
  refine ⟨t1, t2, p1, p2, fun A τ σ env H Q W R ok st hW h hR => ?_⟩
  refine h1 A τ σ env H _ W _ ok (fun z => st (by rw [z]; rfl)) hW h fun v1 H1 x1 e1 ok1 ⟨q0, q1⟩ => ?_
  refine h2 A ((v1, x1) :: τ) σ e1 H1 _ W _ ok1 (fun z => stays_cons (q0 z) (st (by rw [z, Bool.or_true]))) (HW.pop (as := [(v1, x1)]) hW) q1 fun v2 H2 x2 e2 ok2 q2 => ?_
  exact hR v1 v2 H2 x1 x2 e2 (ok2.perm (List.Perm.swap _ _ _)) q2.2
def r2 (r : R2) : List V → Hp → VK → Prop := fun vs H Q => ∃ x y, vs = [x, y] ∧ r x y H Q
def r1 (r : V → Hp → VK → Prop) : List V → Hp → VK → Prop := fun vs H Q => ∃ x, vs = [x] ∧ r x H Q
theorem r2_at {r : R2} {x y : V} {H : Hp} {Q : VK} (h : r2 r [x, y] H Q) : r x y H Q := by
  obtain ⟨u, v, e, h⟩ := h
  cases e; exact h
theorem pd_op {op : Operator} {r : R2} {f : Fn} (ho : OpR X (binaryOp op) r) (s : Snd X.K (r2 r) f) (ha : PD X m1 a ta) (hb : PD X m2 b tb) : PD X (m1 || m2) (.BinOp a op b pos) (dFn f (d2 m2 ta tb)) := by
  refine ⟨fun W0 tk => ?_⟩
  obtain ⟨t1, t2, p1, p2, h⟩ := two ha hb tk
  refine ⟨tOp r t1 t2, pe_op ho p1 p2, fun A τ σ env H Q W R ok st hW hd hR => ?_⟩
  exact h A τ σ env H _ W _ ok st hW hd fun v u H' x y e ok' q => r2_at (ok'.fn (as := [(v, x), (u, y)]) (k := fun z => Q z e) s q fun w z H'' ok'' k => hR w H'' z e ok'' k)
theorem pd_un {op : UnaryOp} {r : V → Hp → VK → Prop} {f : Fn} (ho : UnR X (unaryOp op) r) (s : Snd X.K (r1 r) f) (ha : PD X m1 a ta) : PD X m1 (.UnaryOp op a pos) (dFn f (d1 ta)) := by
  refine ⟨fun W0 tk => ?_⟩
  obtain ⟨t1, p1, h1⟩ := ha.ex W0 tk
  refine ⟨tUn r t1, pe_un ho p1, fun A τ σ env H Q W R ok st hW hd hR => ?_⟩
  refine h1 A τ σ env H _ W _ ok st hW hd fun v1 H1 x1 e1 ok1 q1 => ?_
  obtain ⟨u, e, h⟩ := ok1.fn (as := [(v1, x1)]) (Q := R) (k := fun z => Q z e1) s q1.2 fun w z H'' ok'' k => hR w H'' z e1 ok'' k
  cases e; exact h
theorem pd_cmp {op : CmpOp} {r : R2} {f : Fn} (ho : OpR X (compareOp op) r) (s : Snd X.K (r2 r) f) (ha : PD X m1 a ta) (hb : PD X m2 b tb) (hm : behindInMarks op b = false) : PD X (m1 || m2) (.Compare a [op] [b] pos) (dFn f (d2 m2 ta tb)) := by
  refine ⟨fun W0 tk => ?_⟩
  obtain ⟨t1, t2, p1, p2, h⟩ := two ha hb tk
  refine ⟨tOp r t1 t2, pe_cmpR ho p1 p2 hm, fun A τ σ env H Q W R ok st hW hd hR => ?_⟩
  exact h A τ σ env H _ W _ ok st hW hd fun v u H' x y e ok' q => r2_at (ok'.fn (as := [(v, x), (u, y)]) (k := fun z => Q z e) s q fun w z H'' ok'' k => hR w H'' z e ok'' k)
/-- a built-in's call -/
theorem pd_callB {id : String} {x : Str} {r : List V → Hp → VK → Prop} {f : Fn} {p : Pos} (hc : CallR X (.builtin id) r) (s : Snd X.K r f) (hg : Gl X x) (hm : X.mg x = none) (hv : bootBuiltins x = some (.builtin id)) (ha : PDs X m (e :: es) ts)
    (hn : x ≠ "__name__" := by decide) (hdb : (x == ("__debug__" : Str)) = false := by decide)
    (he : starEach (e :: es) X.env = (false, eval e X.env) :: starEach es X.env := by rfl) (hpl : (backTo pos (starEach es X.env)).any (·.1) = false := by rfl) : PD X m (.Call (.Name x p) (e :: es) [] pos) (dFn f ts) := by
  refine ⟨fun W0 tk => ?_⟩
  obtain ⟨t1, p1, h1⟩ := ha.ex W0 tk
  refine ⟨tCB r t1, pe_callB hc hg hm hv p1 hn hdb he hpl, fun A τ σ env H Q W R ok st hW hd hR => ?_⟩
  exact h1 A τ σ env H _ W _ ok st hW hd fun as H1 e1 ok1 q1 => ok1.fn s q1 fun w z H'' ok'' k => hR w H'' z e1 ok'' k
theorem pd_callTy {T' : String} {x : Str} {r : List V → Hp → VK → Prop} {f : Fn} {p : Pos} (hc : CallR X (.type T') r) (s : Snd X.K r f) (hg : Gl X x) (hm : X.mg x = none) (hv : bootBuiltins x = some (.type T')) (ha : PDs X m (e :: es) ts)
    (hn : x ≠ "__name__" := by decide) (hdb : (x == ("__debug__" : Str)) = false := by decide)
    (he : starEach (e :: es) X.env = (false, eval e X.env) :: starEach es X.env := by rfl) (hpl : (backTo pos (starEach es X.env)).any (·.1) = false := by rfl) : PD X m (.Call (.Name x p) (e :: es) [] pos) (dFn f ts) := by
  refine ⟨fun W0 tk => ?_⟩
  obtain ⟨t1, p1, h1⟩ := ha.ex W0 tk
  refine ⟨tCB r t1, pe_callTy hc hg hm hv p1 hn hdb he hpl, fun A τ σ env H Q W R ok st hW hd hR => ?_⟩
  exact h1 A τ σ env H _ W _ ok st hW hd fun as H1 e1 ok1 q1 => ok1.fn s q1 fun w z H'' ok'' k => hR w H'' z e1 ok'' k
/-- displays -/
theorem Ok.mk {K : PySem.W.Frag} {A : Anc} {as τ : List (V × T)} {σ : St} {env : EnvD} {H : Hp} {o : HO} {p : Addr} {ds : List D} {vs : List V} {d : D} (ok : Ok K A (vs.zip (ds.map .tmp) ++ τ) σ env H) (l : ds.length = vs.length) (hp : H p = none)
    (g : List Addr) (hg : g = [] ∨ g = [p]) (h : ∀ N fp, Rps K (upd H p o) N ds vs fp → Rp K (upd H p o) N d (.ref p) (g ++ fp)) : Ok K A ((.ref p, .tmp d) :: τ) σ env (upd H p o) := by
  obtain ⟨fa, f0, f2, ok1, ra, r0⟩ := ok.cut
  have rr := RpTs.rps l ra
  have np : p ∉ fa := fun hm => Mut.there (RpTs.mut ra p hm) hp
  have gp : ∀ a ∈ g, a = p := fun a ha => by
    rcases hg with rfl | rfl
    · cases ha
    · simpa using ha
  have nn : ∀ a, A.nn ((g ++ fa) ++ f0 ++ f2) a → A.nn (fa ++ f0 ++ f2) a ∨ H a = none := fun a z => by
    rcases z with z | z
    · exact .inl (.inl z)
    · simp only [List.append_assoc] at z
      rcases List.mem_append.mp z with z | z
      · exact .inr (by rw [gp a z]; exact hp)
      · exact .inl (.inr (by simpa only [List.append_assoc] using z))
  have r := h _ _ (Rps.grow rr (Ext.upd hp) nn)
  refine ⟨(g ++ fa) ++ f0, f2, Okk.turn (M := fun _ => False) (as' := [(.ref p, .tmp d)]) (fa' := g ++ fa) ok1 ra r0 (fun a u e _ => Ext.upd hp a u e) (fun _ z => z.elim) (.inl fun _ z => z) ?_ (fun a ha => ?_) (RpTs.one r)⟩
  · refine List.nodup_append.mpr ⟨by rcases hg with rfl | rfl <;> simp, ok1.ndA, fun a ha b hb e => ?_⟩
    rw [gp a ha] at e
    rw [← e] at hb
    exact np hb
  · rcases List.mem_append.mp ha with ha | ha
    · exact .inr (by rw [gp a ha]; exact hp)
    · exact .inl ha
theorem pd_lst (ha : PDs X m es ts) : PD X m (.List es pos) (dLst ts) := by
  refine ⟨fun W0 tk => ?_⟩
  obtain ⟨t1, p1, h1⟩ := ha.ex W0 tk
  refine ⟨tLst t1, pe_lst p1, fun A τ σ env H Q W R ok st hW hd hR => ?_⟩
  refine h1 A τ σ env H _ W _ ok st hW hd fun as H1 e1 ok1 q1 => ⟨by have := q1.1; rwa [List.length_map] at this ⊢, fun p hp => ?_⟩
  obtain ⟨ds, e2, hk, l, ok2⟩ := tks_ok ok1 q1.2
  exact hR _ _ _ _ (Ok.mk (as := []) (o := .lst _) (d := .lst true ds) ok2 (by rw [l, List.length_map]) hp [p] (.inr rfl) fun N fp r => ⟨p, _, fp, rfl, rfl, upd_same, r⟩) hk
theorem pd_tup {k : Nat} (ha : PDs X m es ts) : PD X m (.Tuple es k pos) (dTup ts) := by
  refine ⟨fun W0 tk => ?_⟩
  obtain ⟨t1, p1, h1⟩ := ha.ex W0 tk
  refine ⟨tTup t1, pe_tup p1, fun A τ σ env H Q W R ok st hW hd hR => ?_⟩
  refine h1 A τ σ env H _ W _ ok st hW hd fun as H1 e1 ok1 q1 => ⟨by have := q1.1; rwa [List.length_map] at this ⊢, fun p hp => ?_⟩
  obtain ⟨ds, e2, hk, l, ok2⟩ := tks_ok ok1 q1.2
  exact hR _ _ _ _ (Ok.mk (as := []) (o := .tup _) (d := .tup ds) ok2 (by rw [l, List.length_map]) hp [] (.inl rfl) fun N fp r => ⟨p, _, rfl, upd_same, r⟩) hk
theorem snd_lst {K : PySem.W.Frag} : Snd K (fun vs H Q => ∀ p, H p = none → Q (.ref p) (upd H p (.lst vs))) (fun ds Q => Q (.lst true ds)) := by
  intro H N vs ds Qd Q r s there h hQ p hp
  refine hQ _ _ _ [p] h (Ext.upd hp) ⟨p, vs, [], rfl, rfl, upd_same, Rps.grow r (Ext.upd hp) fun a z => ?_⟩ (by simpa using hp) (by simp) (isShs_noObs ds s)
  rcases z with z | z
  · exact .inl z
  · exact .inr (by simp at z; rw [z]; exact hp)
theorem snd_tup {K : PySem.W.Frag} : Snd K (fun vs H Q => ∀ p, H p = none → Q (.ref p) (upd H p (.tup vs))) (fun ds Q => Q (.tup ds)) := by
  intro H N vs ds Qd Q r s there h hQ p hp
  refine hQ _ _ _ [] h (Ext.upd hp) ⟨p, vs, rfl, upd_same, Rps.grow r (Ext.upd hp) fun a z => ?_⟩ (by simp) (by simp) (isShs_noObs ds s)
  rcases z with z | z
  · exact .inl z
  · cases z
theorem pd_lstV (ha : PDs X m es ts) : PD X m (.List es pos) (dLstV ts) := by
  refine ⟨fun W0 tk => ?_⟩
  obtain ⟨t1, p1, h1⟩ := ha.ex W0 tk
  refine ⟨tLst t1, pe_lst p1, fun A τ σ env H Q W R ok st hW hd hR => ?_⟩
  refine h1 A τ σ env H _ W _ ok st hW hd fun as H1 e1 ok1 q1 => ⟨by have := q1.1; rwa [List.length_map] at this ⊢, fun p hp => ?_⟩
  exact ok1.fn snd_lst q1.2 (fun w z H'' ok'' k => hR w H'' z e1 ok'' k) p hp
theorem pd_tupV {k : Nat} (ha : PDs X m es ts) : PD X m (.Tuple es k pos) (dTupV ts) := by
  refine ⟨fun W0 tk => ?_⟩
  obtain ⟨t1, p1, h1⟩ := ha.ex W0 tk
  refine ⟨tTup t1, pe_tup p1, fun A τ σ env H Q W R ok st hW hd hR => ?_⟩
  refine h1 A τ σ env H _ W _ ok st hW hd fun as H1 e1 ok1 q1 => ⟨by have := q1.1; rwa [List.length_map] at this ⊢, fun p hp => ?_⟩
  exact ok1.fn snd_tup q1.2 (fun w z H'' ok'' k => hR w H'' z e1 ok'' k) p hp
end
end Pd

namespace Pd
open PySem L2

/-! ### tests -/
def dTest (td : TD) : TTD := fun env Q W => td env (fun x e => match x.vw e with | some (_, .bl b) => Q b e | _ => False) W
def truD : D → Option Bool
  | .non => some false
  | .bl b => some b
  | .int i => some (i != 0)
  | .str s => some ((s.length : Int) != 0)
  | .tup xs => some (!xs.isEmpty)
  | .lst _ xs => some (!xs.isEmpty)
  | .frl _ xs => some (!xs.isEmpty)
  | _ => none
def strOk : D → Prop
  | .str s => s.length ≤ sizeLine
  | _ => True
def dTru (td : TD) : TTD := fun env Q W => td env (fun x e => vws e [x] fun _ ds => match ds with | [d] => strOk d ∧ (match truD d with | some k => Q k e | none => False) | _ => False) W
def dNot (t : TTD) : TTD := fun env Q W => t env (fun c e => Q (!c) e) W
def dAnd (t u : TTD) : TTD := fun env Q W => t env (fun c e => if c = true then u e Q W else Q false e) W
def dOr (t u : TTD) : TTD := fun env Q W => t env (fun c e => if c = true then Q true e else u e Q W) W
def dIf (t : TTD) (ta tb : TD) : TD := fun env Q W => t env (fun c e => if c = true then ta e Q W else tb e Q W) W
/-- and, or, not as values: the left ones are bools -/
def dAndV (ta tb : TD) : TD := fun env Q W => ta env (fun x e => match x.vw e with | some (_, .bl c) => if c = true then tb e Q W else Q (.tmp (.bl false)) e | _ => False) W
def dOrV (ta tb : TD) : TD := fun env Q W => ta env (fun x e => match x.vw e with | some (_, .bl c) => if c = true then Q (.tmp (.bl true)) e else tb e Q W | _ => False) W
def dNotV (ta : TD) : TD := fun env Q W => ta env (fun x e => match x.vw e with | some (_, .bl c) => Q (.tmp (.bl (!c))) e | _ => False) W

section
variable {X : Cx} {m m1 m2 : Bool} {a b c e : Expr} {es : List Expr} {ta tb tc td : TD} {ts tr : TDs} {tA tB : TTD} {pos : Pos} {rest : List Expr}
theorem Ok.bl {K : PySem.W.Frag} {A : Anc} {τ : List (V × T)} {σ : St} {env : EnvD} {H : Hp} {v : V} {b : Bool} (ok : Ok K A ((v, .tmp (.bl b)) :: τ) σ env H) : v = .bl b := by
  obtain ⟨fa, f0, f2, o, ra, r0⟩ := Ok.cut (as := [(v, .tmp (.bl b))]) ok
  exact (RpTs.of1 ra).1
theorem Ok.vbl {K : PySem.W.Frag} {A : Anc} {τ : List (V × T)} {σ : St} {env : EnvD} {H : Hp} {v : V} {x : T} {bb b : Bool} (ok : Ok K A ((v, x) :: τ) σ env H) (h : x.vw env = some (bb, .bl b)) : v = .bl b := by
  obtain ⟨ok1, _⟩ := nrm1 ok h
  cases bb with
  | false => exact Ok.bl ok1
  | true =>
    obtain ⟨fa, f0, f2, o, ra, r0⟩ := Ok.cut (as := [(v, .bor (.bl b))]) ok1
    exact (RpTs.of1 ra).2.2.1
theorem tst {Q : Bool → EnvD → Prop} {x : T} {e : EnvD} (h : match x.vw e with | some (_, .bl b) => Q b e | _ => False) : ∃ bb b, x.vw e = some (bb, .bl b) ∧ Q b e := by
  split at h
  · rename_i bb b hv
    exact ⟨bb, b, hv, h⟩
  · exact h.elim
theorem pt_of_val (h : PD X m e td) (he : ∀ whole, isTrue e X.env whole = (do let v ← whole; standAt e.pos; holding [v] (truthy v)) := by intro _; rfl) : PTD X m e (dTest td) := by
  refine ⟨fun W0 tk => ?_⟩
  obtain ⟨t1, p1, h1⟩ := h.ex W0 tk
  refine ⟨tB t1, pt_val p1 he, fun A τ σ env H Q W R ok st hW hd hR => ?_⟩
  refine h1 A τ σ env H _ W _ ok st hW hd fun v1 H1 x1 e1 ok1 q1 => ?_
  obtain ⟨bb, b, hv, q⟩ := tst q1
  exact ⟨b, ok1.vbl hv, hR b H1 e1 (Ok.drop (as := [(v1, x1)]) ok1) q⟩
theorem pt_cmpD {op : CmpOp} {r : R2} {f : Fn} (ho : OpR X (compareOp op) r) (s : Snd X.K (Pd.r2 r) f) (ha : PD X m1 a ta) (hb : PD X m2 b tb) (hm : behindInMarks op b = false) : PTD X (m1 || m2) (.Compare a [op] [b] pos) (dTest (dFn f (d2 m2 ta tb))) := by
  refine ⟨fun W0 tk => ?_⟩
  obtain ⟨t1, t2, p1, p2, h⟩ := two ha hb tk
  refine ⟨tTest (tOp r t1 t2), pt_cmpR ho p1 p2 hm, fun A τ σ env H Q W R ok st hW hd hR => ?_⟩
  refine h A τ σ env H (fun xs e => vws e xs fun b ds => f ds fun d => match (resT b d).vw e with | some (_, .bl b) => Q b e | _ => False) W _ ok st hW hd fun v u H' x y e ok' q => r2_at (ok'.fn (as := [(v, x), (u, y)]) (k := fun z => match z.vw e with | some (_, .bl b) => Q b e | _ => False) s q fun w z H'' ok'' k => ?_)
  obtain ⟨bb, b, hv, q⟩ := tst (Q := Q) (e := e) k
  exact ⟨b, ok''.vbl hv, hR b H'' e (Ok.drop (as := [(w, z)]) ok'') q⟩
theorem truD_ok {K : PySem.W.Frag} {H : Hp} {N : Addr → Prop} {d : D} {v : V} {fp : List Addr} {k : Bool} (h : Rp K H N d v fp) (s : strOk d) (e : truD d = some k) : TruV K v H k := by
  cases d with
  | non => cases e; rw [h.1]; rfl
  | bl b => cases e; rw [h.1]; rfl
  | int i => cases e; rw [h.1]; rfl
  | str x => cases e; rw [h.1]; exact ⟨s, rfl⟩
  | raw u => cases e
  | tup xs =>
    cases e
    obtain ⟨a, vs, rfl, t, r⟩ := h
    refine .inr (.inl ⟨vs, t.sq, ?_⟩)
    have := r.length
    cases xs <;> cases vs <;> first | rfl | cases this
  | lst o xs =>
    cases e
    obtain ⟨a, vs, fp', rfl, _, l, r⟩ := h
    refine .inl ⟨vs, ?_, ?_⟩
    · cases o with
      | true => exact .inl (.inl l)
      | false => exact .inl (.inl l.2)
    · have := r.length
      cases xs <;> cases vs <;> first | rfl | cases this
  | frl t xs =>
    cases e
    obtain ⟨_, a, vs, rfl, l, r⟩ := h
    have e : (!xs.isEmpty) = !vs.isEmpty := by
      have := r.length
      cases xs <;> cases vs <;> first | rfl | cases this
    cases t with
    | false => exact .inl ⟨vs, l.sq, e⟩
    | true => exact .inr (.inl ⟨vs, l.sqT, e⟩)
  | dic o kt ks xs => cases e
  | obj C ns xs => cases e
theorem pt_tru (h : PD X m e td) (he : ∀ whole, isTrue e X.env whole = (do let v ← whole; standAt e.pos; holding [v] (truthy v)) := by intro _; rfl) : PTD X m e (dTru td) := by
  refine ⟨fun W0 tk => ?_⟩
  obtain ⟨t1, p1, h1⟩ := h.ex W0 tk
  refine ⟨_, pt_truth p1 he, fun A τ σ env H Q W R ok st hW hd hR => ?_⟩
  refine h1 A τ σ env H _ W _ ok st hW hd fun v1 H1 x1 e1 ok1 q1 => ?_
  obtain ⟨b, ds, f0, f2, hf, hs, o, rr⟩ := Ok.args (as := [(v1, x1)]) ok1 q1
  have l := rr.length
  match ds, l with
  | [d], _ =>
    obtain ⟨u, vs', g1, g2, e1', e2', r1, r2⟩ := rr
    cases e1'
    obtain ⟨so, hq⟩ := hf
    cases hk : truD d with
    | none => rw [hk] at hq; exact hq.elim
    | some k =>
      rw [hk] at hq
      exact ⟨k, truD_ok r1 so hk, hR k H1 e1 (Ok.drop (as := [(v1, x1)]) ok1) hq⟩
theorem ptd_not (h : PTD X m a tA) : PTD X m (.UnaryOp .Not a pos) (dNot tA) := by
  refine ⟨fun W0 tk => ?_⟩
  obtain ⟨t1, p1, h1⟩ := h.ex W0 tk
  exact ⟨_, pt_not p1, fun A τ σ env H Q W R ok st hW hd hR => h1 A τ σ env H _ W _ ok st hW hd fun c H1 e1 ok1 q1 => hR (!c) H1 e1 ok1 q1⟩
theorem PWD.pt (h : PWD X m e tA) : PTD X m e tA := ⟨fun W0 tk => by
  obtain ⟨t1, p1, h1⟩ := h.ex W0 tk
  exact ⟨t1, p1.pt, h1⟩⟩
theorem pwd_and1 (h : PTD X m a tA) : PWD X m (.BoolOp .And [a] pos) tA := ⟨fun W0 tk => by
  obtain ⟨t1, p1, h1⟩ := h.ex W0 tk
  exact ⟨t1, pw_and1 p1, h1⟩⟩
theorem pwd_or1 (h : PTD X m a tA) : PWD X m (.BoolOp .Or [a] pos) tA := ⟨fun W0 tk => by
  obtain ⟨t1, p1, h1⟩ := h.ex W0 tk
  exact ⟨t1, pw_or1 p1, h1⟩⟩
theorem pwd_and (ha : PTD X m1 a tA) (hb : PWD X m2 (.BoolOp .And (b :: rest) pos) tB) : PWD X (m1 || m2) (.BoolOp .And (a :: b :: rest) pos) (dAnd tA tB) := by
  refine ⟨fun W0 tk => ?_⟩
  obtain ⟨t1, p1, h1⟩ := ha.ex W0 tk
  obtain ⟨t2, p2, h2⟩ := hb.ex W0 tk
  refine ⟨_, pw_and p1 p2, fun A τ σ env H Q W R ok st hW hd hR => ?_⟩
  refine h1 A τ σ env H _ W _ ok (fun z => st (by rw [z]; rfl)) hW hd fun c H1 e1 ok1 q1 => ?_
  cases c with
  | true => exact h2 A τ σ e1 H1 Q W R ok1 (fun z => st (by rw [z, Bool.or_true])) hW q1 hR
  | false => exact hR false H1 e1 ok1 q1
theorem pwd_or (ha : PTD X m1 a tA) (hb : PWD X m2 (.BoolOp .Or (b :: rest) pos) tB) : PWD X (m1 || m2) (.BoolOp .Or (a :: b :: rest) pos) (dOr tA tB) := by
  refine ⟨fun W0 tk => ?_⟩
  obtain ⟨t1, p1, h1⟩ := ha.ex W0 tk
  obtain ⟨t2, p2, h2⟩ := hb.ex W0 tk
  refine ⟨_, pw_or p1 p2, fun A τ σ env H Q W R ok st hW hd hR => ?_⟩
  refine h1 A τ σ env H _ W _ ok (fun z => st (by rw [z]; rfl)) hW hd fun c H1 e1 ok1 q1 => ?_
  cases c with
  | false => exact h2 A τ σ e1 H1 Q W R ok1 (fun z => st (by rw [z, Bool.or_true])) hW q1 hR
  | true => exact hR true H1 e1 ok1 q1
theorem pd_ifExp (hc : PTD X m c tA) (ha : PD X m1 a ta) (hb : PD X m2 b tb) : PD X (m || (m1 || m2)) (.IfExp c a b pos) (dIf tA ta tb) := by
  refine ⟨fun W0 tk => ?_⟩
  obtain ⟨t0, p0, h0⟩ := hc.ex W0 tk
  obtain ⟨t1, p1, h1⟩ := ha.ex W0 tk
  obtain ⟨t2, p2, h2⟩ := hb.ex W0 tk
  refine ⟨_, L2.pe_ifExp p0 p1 p2, fun A τ σ env H Q W R ok st hW hd hR => ?_⟩
  refine h0 A τ σ env H _ W _ ok (fun z => st (by rw [z]; rfl)) hW hd fun k H1 e1 ok1 q1 => ?_
  cases k with
  | true => exact h1 A τ σ e1 H1 Q W R ok1 (fun z => st (by rw [z]; simp)) hW q1 hR
  | false => exact h2 A τ σ e1 H1 Q W R ok1 (fun z => st (by rw [z]; simp)) hW q1 hR
theorem pd_one {op} (h : PD X m a ta) : PD X m (.BoolOp op [a] pos) ta := ⟨fun W0 tk => by
  obtain ⟨t1, p1, h1⟩ := h.ex W0 tk
  exact ⟨t1, pe_one p1, h1⟩⟩
theorem tstV {Q : Bool → Prop} {x : T} {e : EnvD} (h : match x.vw e with | some (_, .bl b) => Q b | _ => False) : ∃ bb b, x.vw e = some (bb, .bl b) ∧ Q b := by
  split at h
  · rename_i bb b hv
    exact ⟨bb, b, hv, h⟩
  · exact h.elim
theorem pd_and (ha : PD X m1 a ta) (hb : PD X m2 (.BoolOp .And (b :: rest) pos) tb) : PD X (m1 || m2) (.BoolOp .And (a :: b :: rest) pos) (dAndV ta tb) := by
  refine ⟨fun W0 tk => ?_⟩
  obtain ⟨t1, p1, h1⟩ := ha.ex W0 tk
  obtain ⟨t2, p2, h2⟩ := hb.ex W0 tk
  refine ⟨_, L2.pe_and p1 p2, fun A τ σ env H Q W R ok st hW hd hR => ?_⟩
  refine h1 A τ σ env H _ W _ ok (fun z => st (by rw [z]; rfl)) hW hd fun v1 H1 x1 e1 ok1 q1 => ?_
  obtain ⟨bb, c, hv, q⟩ := tstV (Q := fun c => if c = true then tb e1 Q W else Q (.tmp (.bl false)) e1) q1
  refine ⟨c, ok1.vbl hv, ?_⟩
  have ok2 := Ok.drop (as := [(v1, x1)]) ok1
  cases c with
  | true => exact h2 A τ σ e1 H1 Q W R ok2 (fun z => st (by rw [z, Bool.or_true])) hW q hR
  | false => exact hR (.bl false) H1 _ e1 (ok2.pushD (d := .bl _) fun N => ⟨rfl, rfl⟩) q
theorem pd_or (ha : PD X m1 a ta) (hb : PD X m2 (.BoolOp .Or (b :: rest) pos) tb) : PD X (m1 || m2) (.BoolOp .Or (a :: b :: rest) pos) (dOrV ta tb) := by
  refine ⟨fun W0 tk => ?_⟩
  obtain ⟨t1, p1, h1⟩ := ha.ex W0 tk
  obtain ⟨t2, p2, h2⟩ := hb.ex W0 tk
  refine ⟨_, L2.pe_or p1 p2, fun A τ σ env H Q W R ok st hW hd hR => ?_⟩
  refine h1 A τ σ env H _ W _ ok (fun z => st (by rw [z]; rfl)) hW hd fun v1 H1 x1 e1 ok1 q1 => ?_
  obtain ⟨bb, c, hv, q⟩ := tstV (Q := fun c => if c = true then Q (.tmp (.bl true)) e1 else tb e1 Q W) q1
  refine ⟨c, ok1.vbl hv, ?_⟩
  have ok2 := Ok.drop (as := [(v1, x1)]) ok1
  cases c with
  | false => exact h2 A τ σ e1 H1 Q W R ok2 (fun z => st (by rw [z, Bool.or_true])) hW q hR
  | true => exact hR (.bl true) H1 _ e1 (ok2.pushD (d := .bl _) fun N => ⟨rfl, rfl⟩) q
theorem pd_not (ha : PD X m1 a ta) : PD X m1 (.UnaryOp .Not a pos) (dNotV ta) := by
  refine ⟨fun W0 tk => ?_⟩
  obtain ⟨t1, p1, h1⟩ := ha.ex W0 tk
  refine ⟨_, L2.pe_not p1, fun A τ σ env H Q W R ok st hW hd hR => ?_⟩
  refine h1 A τ σ env H _ W _ ok st hW hd fun v1 H1 x1 e1 ok1 q1 => ?_
  obtain ⟨bb, c, hv, q⟩ := tstV (Q := fun c => Q (.tmp (.bl (!c))) e1) q1
  exact ⟨c, ok1.vbl hv, hR (.bl (!c)) H1 _ e1 ((Ok.drop (as := [(v1, x1)]) ok1).pushD (d := .bl _) fun N => ⟨rfl, rfl⟩) q⟩
/-! ### a < b < c -/
def dChain (f f' : Fn) (ta tb tc : TD) : TD := fun env Q W => ta env (fun x e1 => tb e1 (fun y e2 => vws e2 [x, y] fun _ ds => f ds fun d =>
  match d with
  | .bl true => tc e2 (fun z e3 => vws e3 [y, z] fun b ds' => f' ds' fun d' => Q (resT b d') e3) W
  | .bl false => Q (.tmp (.bl false)) e2
  | _ => False) W) W
theorem Ok.fnx {K : PySem.W.Frag} {A : Anc} {H : Hp} {σ : St} {env : EnvD} {as τ : List (V × T)} {r : List V → Hp → VK → Prop} {f : Fn} {k : D → Prop} {Q : VK} (ok : Ok K A (as ++ τ) σ env H) (s : Snd K r f) (h : vws env (as.map (·.2)) fun _ ds => f ds k)
    (hQ : ∀ v d H' N fp, Ext H H' → Rp K H' N d v fp → Ok K A (as ++ τ) σ env H' → k d → Q v H') : r (as.map (·.1)) H Q := by
  obtain ⟨b, ds, f0, f2, hf, hs, o, rr⟩ := ok.args h
  exact s H _ _ ds _ Q rr hs (fun a ha => o.there a ha.2) hf fun d v H' fp hk ex rd fr nd nob => hQ v d H' _ fp ex rd (ok.ext ex) hk
theorem pd_chain {op op' : CmpOp} {r r' : R2} {f f' : Fn} (ho : OpR X (compareOp op) r) (ho' : OpR X (compareOp op') r') (s : Snd X.K (Pd.r2 r) f) (s' : Snd X.K (Pd.r2 r') f') (ha : PD X m a ta) (hb : PD X false b tb) (hc : PD X false c tc)
    (hm : lastMarks [op, op'] [b, c] = false := by with_unfolding_all rfl) : PD X m (.Compare a [op, op'] [b, c] pos) (dChain f f' ta tb tc) := by
  refine ⟨fun W0 tk => ?_⟩
  obtain ⟨t1, p1, h1⟩ := ha.ex W0 tk
  obtain ⟨t2, p2, h2⟩ := hb.ex W0 tk
  obtain ⟨t3, p3, h3⟩ := hc.ex W0 tk
  refine ⟨_, pe_chain ho ho' p1 p2 p3 hm, fun A τ σ env H Q W R ok st hW hd hR => ?_⟩
  refine h1 A τ σ env H _ W _ ok st hW hd fun v1 H1 x1 e1 ok1 q1 => ?_
  refine h2 A ((v1, x1) :: τ) σ e1 H1 _ W _ ok1 (fun z => nomatch z) (HW.pop (as := [(v1, x1)]) hW) q1 fun v2 H2 x2 e2 ok2 q2 => ?_
  refine r2_at (Ok.fnx (as := [(v1, x1), (v2, x2)]) (ok2.perm (List.Perm.swap _ _ _)) s q2 fun w d H3 N fp ex rd ok3 q3 => ?_)
  cases d with
  | bl k =>
    refine ⟨k, rd.1, ?_⟩
    cases k with
    | true =>
      rw [if_pos rfl]
      have ok4 : Ok X.K A ((v2, x2) :: τ) σ e2 H3 := Ok.drop (as := [(v1, x1)]) ok3
      refine h3 A ((v2, x2) :: τ) σ e2 H3 _ W _ ok4 (fun z => nomatch z) (HW.pop (as := [(v2, x2)]) hW) q3 fun v4 H4 x4 e4 ok5 q4 => ?_
      exact r2_at (Ok.fn (as := [(v2, x2), (v4, x4)]) (k := fun z => Q z e4) (ok5.perm (List.Perm.swap _ _ _)) s' q4 fun w z H'' ok'' k => hR w H'' z e4 ok'' k)
    | false =>
      rw [if_neg Bool.false_ne_true]
      exact hR (.bl false) H3 _ e2 ((Ok.drop (as := [(v1, x1), (v2, x2)]) ok3).pushD (d := .bl _) fun N => ⟨rfl, rfl⟩) q3
  | _ => exact q3.elim
theorem pt_chainD {op op' : CmpOp} {r r' : R2} {f f' : Fn} (ho : OpR X (compareOp op) r) (ho' : OpR X (compareOp op') r') (s : Snd X.K (Pd.r2 r) f) (s' : Snd X.K (Pd.r2 r') f') (ha : PD X m a ta) (hb : PD X false b tb) (hc : PD X false c tc)
    (hm : lastMarks [op, op'] [b, c] = false := by with_unfolding_all rfl) : PTD X m (.Compare a [op, op'] [b, c] pos) (dTest (dChain f f' ta tb tc)) := by
  refine ⟨fun W0 tk => ?_⟩
  obtain ⟨t1, p1, h1⟩ := ha.ex W0 tk
  obtain ⟨t2, p2, h2⟩ := hb.ex W0 tk
  obtain ⟨t3, p3, h3⟩ := hc.ex W0 tk
  refine ⟨_, pt_chain ho ho' p1 p2 p3 hm, fun A τ σ env H Q W R ok st hW hd hR => ?_⟩
  refine h1 A τ σ env H _ W _ ok st hW hd fun v1 H1 x1 e1 ok1 q1 => ?_
  refine h2 A ((v1, x1) :: τ) σ e1 H1 _ W _ ok1 (fun z => nomatch z) (HW.pop (as := [(v1, x1)]) hW) q1 fun v2 H2 x2 e2 ok2 q2 => ?_
  refine r2_at (Ok.fnx (as := [(v1, x1), (v2, x2)]) (ok2.perm (List.Perm.swap _ _ _)) s q2 fun w d H3 N fp ex rd ok3 q3 => ?_)
  cases d with
  | bl k =>
    refine ⟨k, rd.1, ?_⟩
    cases k with
    | true =>
      rw [if_pos rfl]
      have ok4 : Ok X.K A ((v2, x2) :: τ) σ e2 H3 := Ok.drop (as := [(v1, x1)]) ok3
      refine h3 A ((v2, x2) :: τ) σ e2 H3 _ W _ ok4 (fun z => nomatch z) (HW.pop (as := [(v2, x2)]) hW) q3 fun v4 H4 x4 e4 ok5 q4 => ?_
      refine r2_at (Ok.fn (as := [(v2, x2), (v4, x4)]) (k := fun z => match z.vw e4 with | some (_, .bl b) => Q b e4 | _ => False) (ok5.perm (List.Perm.swap _ _ _)) s' q4 fun w z H'' ok'' k => ?_)
      obtain ⟨bb, b, hv, q⟩ := tst (Q := Q) (e := e4) k
      exact ⟨b, ok''.vbl hv, hR b H'' e4 (Ok.drop (as := [(w, z)]) ok'') q⟩
    | false =>
      rw [if_neg Bool.false_ne_true]
      exact ⟨false, rfl, hR false H3 e2 (Ok.drop (as := [(v1, x1), (v2, x2)]) ok3) q3⟩
  | _ => exact q3.elim
end
end Pd

namespace Pd
open PySem L2

structure EndsD where
  nx : EnvD → Prop
  rt : T → EnvD → Prop
  bk : EnvD → Prop := fun _ => False
  ct : EnvD → Prop := fun _ => False
abbrev TSD := EndsD → EnvD → WD → Prop
def tmps (τ : List (V × T)) : Prop := ∀ x ∈ τ, ∃ d, x.2 = .tmp d
theorem tmps.st {τ : List (V × T)} (h : tmps τ) : stays τ := fun x hx => by
  obtain ⟨d, e⟩ := h x hx
  rw [e]; rfl
theorem tmps.cons {τ : List (V × T)} {v : V} {d : D} (h : tmps τ) : tmps ((v, .tmp d) :: τ) := fun x hx => by
  rcases List.mem_cons.mp hx with rfl | hx
  · exact ⟨d, rfl⟩
  · exact h x hx
/-- the ends of a statement over D against those over the heap -/
structure EE (K : PySem.W.Frag) (A : Anc) (τ : List (V × T)) (De : EndsD) (E : Ends) : Prop where
  nx : ∀ σ env H, Ok K A τ σ env H → De.nx env → E.nx σ H
  rt : ∀ v x σ env H, Ok K A ((v, x) :: τ) σ env H → De.rt x env → E.rt v H
  bk : ∀ σ env H, Ok K A τ σ env H → De.bk env → E.bk σ H
  ct : ∀ σ env H, Ok K A τ σ env H → De.ct env → E.ct σ H
structure PSD (X : Cx) (io : List Nat) (st : Stmt) (ts : TSD) : Prop where
  ex : ∀ (W0 : L2.WX), Takes X W0 → ∃ t : TS, PS X st t ∧ ∀ (A : Anc) (τ : List (V × T)) (σ : St) (env : EnvD) (H : Hp) (De : EndsD) (W : WD) (E : Ends),
    Ok X.K A τ σ env H → tmps τ → (∀ q ∈ A.fx, q.1 ∈ io) → (∀ σ, HW X.K W0 A τ σ W) → ts De env W → EE X.K A τ De E → t E σ H
structure PSsD (X : Cx) (io : List Nat) (st : List Stmt) (ts : TSD) : Prop where
  ex : ∀ (W0 : L2.WX), Takes X W0 → ∃ t : TS, PSs X st t ∧ ∀ (A : Anc) (τ : List (V × T)) (σ : St) (env : EnvD) (H : Hp) (De : EndsD) (W : WD) (E : Ends),
    Ok X.K A τ σ env H → tmps τ → (∀ q ∈ A.fx, q.1 ∈ io) → (∀ σ, HW X.K W0 A τ σ W) → ts De env W → EE X.K A τ De E → t E σ H
def sNext : TSD := fun De env _ => De.nx env
def sSeq (t u : TSD) : TSD := fun De env W => t { De with nx := fun e => u De e W } env W
def sBreak : TSD := fun De env _ => De.bk env
def sCont : TSD := fun De env _ => De.ct env
def sDrop (td : TD) : TSD := fun De env W => td env (fun _ e => De.nx e) W
def sRet (td : TD) : TSD := fun De env W => td env (fun x e => De.rt x e) W
def sRetN : TSD := fun De env _ => De.rt (.tmp .non) env
def sIf (c : TTD) (t u : TSD) : TSD := fun De env W => c env (fun b e => if b = true then t De e W else u De e W) W
abbrev TGD := D → EnvD → (EnvD → Prop) → Prop
/-- what is stored is taken -/
def sAsg (td : TD) (g : TGD) : TSD := fun De env W => td env (fun x e => match x.tk e with | some (d, e') => g d e' De.nx | none => False) W
def gNm (i : Nat) : TGD := fun d env Q => Q (env.set i (some d))
def gTupD (gs : List TGD) : TGD := fun d env Q => match d with
  | .tup ds => ds.length = gs.length ∧ go gs ds env Q
  | .frl true ds => ds.length = gs.length ∧ go gs ds env Q
  | _ => False
where go : List TGD → List D → EnvD → (EnvD → Prop) → Prop
  | [], [], env, Q => Q env
  | g :: gs, d :: ds, env, Q => g d env fun e => go gs ds e Q
  | _, _, _, _ => False

section
variable {X : Cx} {io : List Nat} {m : Bool} {st : Stmt} {rest sts : List Stmt} {t u : TSD} {e c : Expr} {td : TD} {tt : TTD} {pos : Pos}
theorem pssd_nil : PSsD X io [] sNext := ⟨fun W0 tk => ⟨_, pss_nil, fun A τ σ env H De W E ok _ _ _ h EE => EE.nx σ env H ok h⟩⟩
theorem pssd_cons (h1 : PSD X io st t) (h2 : PSsD X io rest u) : PSsD X io (st :: rest) (sSeq t u) := ⟨fun W0 tk => by
  obtain ⟨t1, p1, q1⟩ := h1.ex W0 tk
  obtain ⟨t2, p2, q2⟩ := h2.ex W0 tk
  refine ⟨_, pss_cons p1 p2, fun A τ σ env H De W E ok tm fx hW h ee => ?_⟩
  exact q1 A τ σ env H _ W _ ok tm fx hW h ⟨fun σ' env' H' ok' h' => q2 A τ σ' env' H' De W E ok' tm fx hW h' ee, ee.rt, ee.bk, ee.ct⟩⟩
theorem pssd_one (h1 : PSD X io st t) : PSsD X io [st] t := ⟨fun W0 tk => by
  obtain ⟨t1, p1, q1⟩ := h1.ex W0 tk
  exact ⟨_, pss_one p1, q1⟩⟩
theorem psd_pass : PSD X io (.Pass pos) sNext := ⟨fun W0 tk => ⟨_, ps_pass, fun A τ σ env H De W E ok _ _ _ h EE => EE.nx σ env H ok h⟩⟩
theorem psd_break : PSD X io (.Break pos) sBreak := ⟨fun W0 tk => ⟨_, ps_break, fun A τ σ env H De W E ok _ _ _ h EE => EE.bk σ env H ok h⟩⟩
theorem psd_continue : PSD X io (.Continue pos) sCont := ⟨fun W0 tk => ⟨_, ps_continue, fun A τ σ env H De W E ok _ _ _ h EE => EE.ct σ env H ok h⟩⟩
theorem psd_expr (h : PD X m e td) (hs : swapsWith e none pos.line X.env = pure false := by rfl) : PSD X io (.Expr e pos) (sDrop td) := ⟨fun W0 tk => by
  obtain ⟨t1, p1, q1⟩ := h.ex W0 tk
  exact ⟨_, ps_expr p1 hs, fun A τ σ env H De W E ok tm fx hW h ee => q1 A τ σ env H _ W _ ok (fun _ => tm.st) (hW σ) h fun v H' x env' ok' q => ee.nx σ env' H' (Ok.drop (as := [(v, x)]) ok') q⟩⟩
theorem psd_ret (h : PD X m e td) : PSD X io (.Return (some e) pos) (sRet td) := ⟨fun W0 tk => by
  obtain ⟨t1, p1, q1⟩ := h.ex W0 tk
  exact ⟨_, ps_ret p1, fun A τ σ env H De W E ok tm fx hW h ee => q1 A τ σ env H _ W _ ok (fun _ => tm.st) (hW σ) h fun v H' x env' ok' q => ee.rt v x σ env' H' ok' q⟩⟩
theorem psd_retN : PSD X io (.Return none pos) sRetN := ⟨fun W0 tk => ⟨_, ps_retN, fun A τ σ env H De W E ok _ _ _ h EE => EE.rt .non _ σ env H (ok.pushD (d := .non) fun N => ⟨rfl, rfl⟩) h⟩⟩
theorem psd_if (hc : PTD X m c tt) (ha : PSsD X io rest t) (hb : PSsD X io sts u) : PSD X io (.If c rest sts pos) (sIf tt t u) := ⟨fun W0 tk => by
  obtain ⟨t0, p0, q0⟩ := hc.ex W0 tk
  obtain ⟨t1, p1, q1⟩ := ha.ex W0 tk
  obtain ⟨t2, p2, q2⟩ := hb.ex W0 tk
  refine ⟨_, ps_if p0 p1 p2, fun A τ σ env H De W E ok tm fx hW h ee => ?_⟩
  refine q0 A τ σ env H _ W _ ok (fun _ => tm.st) (hW σ) h fun b H' env' ok' q => ?_
  cases b with
  | true => exact q1 A τ σ env' H' De W E ok' tm fx hW q ee
  | false => exact q2 A τ σ env' H' De W E ok' tm fx hW q ee⟩
theorem psd_never : PSD X io st (fun _ _ _ => False) := ⟨fun W0 tk => ⟨_, ps_never, fun A τ σ env H De W E ok _ _ _ h EE => h⟩⟩

/-! ### targets -/
structure PGD (X : Cx) (io : List Nat) (tg : Expr) (g : TGD) : Prop where
  ex : ∃ t : TG, PG X tg t ∧ ∀ (A : Anc) (τ : List (V × T)) (σ : St) (env : EnvD) (H : Hp) (v : V) (d : D) (Q : EnvD → Prop) (R : St → Hp → Prop),
    Ok X.K A ((v, .tmp d) :: τ) σ env H → tmps τ → (∀ q ∈ A.fx, q.1 ∈ io) → g d env Q → (∀ σ' env' H', Ok X.K A τ σ' env' H' → Q env' → R σ' H') → t v σ H R
structure PGsD (X : Cx) (io : List Nat) (tg : List Expr) (gs : List TGD) : Prop where
  ex : ∃ t : TGs, PGs X tg t ∧ ∀ (A : Anc) (τ : List (V × T)) (σ : St) (env : EnvD) (H : Hp) (vs : List V) (ds : List D) (Q : EnvD → Prop) (R : St → Hp → Prop), ds.length = vs.length →
    Ok X.K A (vs.zip (ds.map .tmp) ++ τ) σ env H → tmps τ → (∀ q ∈ A.fx, q.1 ∈ io) → gTupD.go gs ds env Q → (∀ σ' env' H', Ok X.K A τ σ' env' H' → Q env' → R σ' H') → t vs σ H R
theorem RpTs.sig {K : PySem.W.Frag} {H : Hp} {σ σ' : St} {N : Addr → Prop} : ∀ {τ : List (V × T)} {f : List Addr}, tmps τ → RpTs K H σ N τ f → RpTs K H σ' N τ f
  | [], f, _, h => h
  | (v, x) :: τ, f, tm, h => by
    obtain ⟨f1, f2, e, r1, r2⟩ := h
    obtain ⟨d, ed⟩ := tm (v, x) List.mem_cons_self
    have ed' : x = .tmp d := ed
    subst ed'
    exact ⟨f1, f2, e, r1, RpTs.sig (fun y hy => tm y (List.mem_cons_of_mem _ hy)) r2⟩
theorem set_oob {α : Type} : ∀ {l : List α} {i : Nat} {x : α}, l.length ≤ i → l.set i x = l
  | [], i, x, _ => rfl
  | a :: l, 0, x, h => by simp at h
  | a :: l, i + 1, x, h => by rw [List.set_cons_succ, set_oob (by simpa using h)]
/-- a slot is stored -/
theorem Ok.set {K : PySem.W.Frag} {A : Anc} {τ : List (V × T)} {σ : St} {env : EnvD} {H : Hp} {v : V} {d : D} {i : Nat} (ok : Ok K A ((v, .tmp d) :: τ) σ env H) (tm : tmps τ) (hi : ∀ q ∈ A.fx, q.1 ≠ i) :
    Ok K A τ (σ.set i (some v)) (env.set i (some d)) H := by
  have hl : env.length = σ.length := by
    obtain ⟨f1, f2, o⟩ := id ok
    exact o.en.len
  by_cases h : i < env.length
  · obtain ⟨f1', f2, o⟩ := ok
    obtain ⟨fd, f1, e1, rd, r1⟩ := o.ts
    subst e1
    obtain ⟨u, g1, gm, g2, q1, q2, q3, q4⟩ := RpE.get o.en (List.getElem?_eq_getElem h)
    have ne := q4 (d' := some d) (v' := some v) (fm' := fd) rd
    have sub : ∀ a, a ∈ f1 ++ (g1 ++ fd ++ g2) → a ∈ fd ++ f1 ++ f2 := fun a ha => by
      rw [q2]
      simp only [List.mem_append] at ha ⊢
      rcases ha with ha | (ha | ha) | ha
      · exact .inl (.inr ha)
      · exact .inr (.inl (.inl ha))
      · exact .inl (.inl ha)
      · exact .inr (.inr ha)
    have n : ∀ a, A.nn (f1 ++ (g1 ++ fd ++ g2)) a → A.nn (fd ++ f1 ++ f2) a := fun a h => h.imp id (sub a)
    refine ⟨f1, g1 ++ fd ++ g2, RpTs.sig tm (r1.congr n), ne.congr n, ?_, fun a ha => o.un a (sub a ha), o.keep, o.anc, fun q hq => ?_⟩
    · have nd := o.nd
      rw [q2] at nd
      have z : (fd ++ f1 ++ (g1 ++ gm ++ g2)).Perm (gm ++ (f1 ++ (g1 ++ fd ++ g2))) := by
        refine List.perm_iff_count.mpr fun a => ?_
        simp only [List.count_append]
        omega
      exact (List.nodup_append.mp (z.nodup_iff.mp nd)).2.1
    · rw [List.getElem?_set_ne (Ne.symm (hi q hq))]
      exact o.fix q hq
  · have h' := Nat.le_of_not_lt h
    rw [set_oob h', set_oob (hl ▸ h')]
    exact Ok.drop (as := [(v, .tmp d)]) ok
theorem pgd_name {i : Nat} {x : Str} (hN : X.N.Nodup) (hi : X.N[i]? = some x) (hx : Loc X.env.scope x) (hio : i ∉ io := by decide) (hf : X.fn x = true ∨ X.env.scope.names.lookup x = some .local := by first | exact .inl rfl | exact .inr rfl | assumption) : PGD X io (.Name x pos) (gNm i) :=
  ⟨_, pg_name hN hi hx hf, fun A τ σ env H v d Q R ok tm fx h hR => hR _ _ H (ok.set tm fun q hq e => hio (e ▸ fx q hq)) h⟩
theorem pgsd_nil : PGsD X io [] [] := ⟨_, pgs_nil, fun A τ σ env H vs ds Q R l ok tm fx h hR => by
  cases ds with
  | nil =>
    cases vs with
    | nil => exact ⟨rfl, hR σ env H ok h⟩
    | cons _ _ => cases l
  | cons _ _ => exact h.elim⟩
theorem pgsd_cons {es : List Expr} {g : TGD} {gs : List TGD} (h1 : PGD X io e g) (h2 : PGsD X io es gs) (hs : (assignEach (e :: es) X.env).map (·.2) = assign e X.env :: (assignEach es X.env).map (·.2) := by rfl) : PGsD X io (e :: es) (g :: gs) := by
  obtain ⟨t1, p1, q1⟩ := h1.ex
  obtain ⟨t2, p2, q2⟩ := h2.ex
  refine ⟨_, pgs_cons p1 p2 hs, fun A τ σ env H vs ds Q R l ok tm fx h hR => ?_⟩
  cases ds with
  | nil => exact h.elim
  | cons d ds =>
    cases vs with
    | nil => cases l
    | cons v vs =>
      refine ⟨v, vs, rfl, ?_⟩
      have tm' : tmps (vs.zip (ds.map T.tmp) ++ τ) := fun x hx => by
        rcases List.mem_append.mp hx with hx | hx
        · have := (List.of_mem_zip hx).2
          obtain ⟨d', _, e⟩ := List.mem_map.mp this
          exact ⟨d', e.symm⟩
        · exact tm x hx
      exact q1 A _ σ env H v d _ _ ok tm' fx h fun σ' env' H' ok' h' => q2 A τ σ' env' H' vs ds Q R (by simpa using l) ok' tm fx h' hR
theorem RpTs.of {K : PySem.W.Frag} {H : Hp} {σ : St} {N : Addr → Prop} : ∀ {ds : List D} {vs : List V} {fp : List Addr}, Rps K H N ds vs fp → RpTs K H σ N (vs.zip (ds.map .tmp)) fp
  | [], _, _, h => by obtain ⟨rfl, rfl⟩ := h; rfl
  | d :: ds, _, _, h => by
    obtain ⟨u, vs', f1, f2, rfl, rfl, r1, r2⟩ := h
    exact ⟨f1, f2, rfl, r1, RpTs.of r2⟩
/-- a temporary tuple is opened -/
theorem Ok.tup {K : PySem.W.Frag} {A : Anc} {τ : List (V × T)} {σ : St} {env : EnvD} {H : Hp} {v : V} {ds : List D} (ok : Ok K A ((v, .tmp (.tup ds)) :: τ) σ env H) :
    ∃ a vs, v = .ref a ∧ SqT K H a vs ∧ ds.length = vs.length ∧ Ok K A (vs.zip (ds.map .tmp) ++ τ) σ env H := by
  obtain ⟨fa, f0, f2, o, ra, r0⟩ := Ok.cut (as := [(v, .tmp (.tup ds))]) ok
  obtain ⟨a, vs, ev, ta, rr⟩ := RpTs.of1 ra
  refine ⟨a, vs, ev, ta.sq, rr.length, fa ++ f0, f2, ?_⟩
  exact Okk.turn (M := fun _ => False) (as := [(v, .tmp (.tup ds))]) (as' := vs.zip (ds.map .tmp)) (fa' := fa) (H' := H) o ra r0 (fun _ _ e _ => e) (fun _ z => z.elim) (.inl fun _ z => z) o.ndA (fun _ z => .inl z) (RpTs.of rr)
theorem Ok.ktup {K : PySem.W.Frag} {A : Anc} {τ : List (V × T)} {σ : St} {env : EnvD} {H : Hp} {v : V} {ds : List D} (ok : Ok K A ((v, .tmp (.frl true ds)) :: τ) σ env H) :
    ∃ a vs, v = .ref a ∧ SqT K H a vs ∧ ds.length = vs.length ∧ Ok K A (vs.zip (ds.map .tmp) ++ τ) σ env H := by
  obtain ⟨fa, f0, f2, o, ra, r0⟩ := Ok.cut (as := [(v, .tmp (.frl true ds))]) ok
  obtain ⟨e0, a, vs, ev, ta, rr⟩ := RpTs.of1 ra
  subst e0
  refine ⟨a, vs, ev, ta.sqT, rr.length, [] ++ f0, f2, ?_⟩
  exact Okk.turn (M := fun _ => False) (as := [(v, .tmp (.frl true ds))]) (as' := vs.zip (ds.map .tmp)) (fa' := []) (H' := H) o ra r0 (fun _ _ e _ => e) (fun _ z => z.elim) (.inl fun _ z => z) o.ndA (fun _ z => .inl z) (RpTs.of rr)
theorem pgd_tup {es : List Expr} {k n : Nat} {gs : List TGD} (hc : X.calm = true) (h : PGsD X io es gs) (hl : gs.length = n) (hn : (assignEach es X.env).length = n := by rfl) (hst : (assignEach es X.env).findIdx? (·.1) = none := by rfl) : PGD X io (.Tuple es k pos) (gTupD gs) := by
  obtain ⟨t, p, q⟩ := h.ex
  refine ⟨_, pg_tup hc p hn hst, fun A τ σ env H v d Q R ok tm fx h hR => ?_⟩
  cases d with
  | tup ds =>
    obtain ⟨a, vs, ev, sq, l, ok'⟩ := ok.tup
    exact ⟨a, vs, ev, sq, by rw [← l, h.1, hl], q A τ σ env H vs ds Q R l ok' tm fx h.2 hR⟩
  | frl t ds =>
    cases t with
    | false => exact (show False from h).elim
    | true =>
      have h : ds.length = gs.length ∧ gTupD.go gs ds env Q := h
      obtain ⟨a, vs, ev, sq, l, ok'⟩ := ok.ktup
      exact ⟨a, vs, ev, sq, by rw [← l, h.1, hl], q A τ σ env H vs ds Q R l ok' tm fx h.2 hR⟩
  | _ => exact (show False from h).elim
theorem psd_asg {tg : Expr} {g : TGD} (he : PD X m e td) (hg : PGD X io tg g) (hs : swapsWithSole [tg] e pos.line X.env = pure false := by rfl) (hw : swappedStores [tg] e X.env = pure none := by rfl)
    (h1 : (assignEach [tg] X.env).map (·.2) = [assign tg X.env] := by rfl) : PSD X io (.Assign [tg] e pos) (sAsg td g) := ⟨fun W0 tk => by
  obtain ⟨t1, p1, q1⟩ := he.ex W0 tk
  obtain ⟨t2, p2, q2⟩ := hg.ex
  refine ⟨_, ps_asg p1 p2 hs hw h1, fun A τ σ env H De W E ok tm fx hW h ee => ?_⟩
  refine q1 A τ σ env H _ W _ ok (fun _ => tm.st) (hW σ) h fun v H' x env' ok' q => ?_
  split at q
  · rename_i d e' hv
    exact q2 A τ σ e' H' v d _ _ (tk1 ok' hv) tm fx q fun σ' env' H' ok' h' => ee.nx σ' env' H' ok' h'
  · exact q.elim⟩
theorem psd_set {i : Nat} {x : Str} {pos' : Pos} (hN : X.N.Nodup) (hi : X.N[i]? = some x) (hx : Loc X.env.scope x) (he : PD X m e td) (hio : i ∉ io := by decide) (hs : swapsWith e (some (.Name x pos')) pos.line X.env = pure false := by rfl)
    (hf : X.fn x = true ∨ X.env.scope.names.lookup x = some .local := by first | exact .inl rfl | exact .inr rfl | assumption) : PSD X io (.Assign [.Name x pos'] e pos) (sAsg td (gNm i)) := ⟨fun W0 tk => by
  obtain ⟨t1, p1, q1⟩ := he.ex W0 tk
  refine ⟨_, ps_set hN hi hx p1 hs hf, fun A τ σ env H De W E ok tm fx hW h ee => ?_⟩
  refine q1 A τ σ env H _ W _ ok (fun _ => tm.st) (hW σ) h fun v H' y env' ok' q => ?_
  split at q
  · rename_i d e' hv
    exact ee.nx _ _ H' (Ok.set (i := i) (tk1 ok' hv) tm fun q hq e => hio (by rw [← e]; exact fx q hq)) q
  · exact q.elim⟩
/-- a, b = x, y -/
def sPar (i j : Nat) (ta : TDs) : TSD := fun De env W => ta env (fun xs e => tks e xs fun ds e' => match ds with | [d1, d2] => De.nx ((e'.set i (some d1)).set j (some d2)) | _ => False) W
theorem psd_par {i j : Nat} {x y : Str} {a b : Expr} {ta : TDs} {px py pt : Pos} {kt k2 pt2} (hc : X.calm = true) (hN : X.N.Nodup) (hi : X.N[i]? = some x) (hj : X.N[j]? = some y) (hij : i ≠ j)
    (hx : X.env.scope.names.lookup x = some .local) (hy : X.env.scope.names.lookup y = some .local) (ha : PDs X m [a, b] ta)
    (hw : swappedStores [.Tuple [.Name x px, .Name y py] kt pt] (.Tuple [a, b] k2 pt2) X.env = pure (some [x, y])) (hio : i ∉ io := by decide) (hjo : j ∉ io := by decide)
    (hs : swapsWithSole [.Tuple [.Name x px, .Name y py] kt pt] (.Tuple [a, b] k2 pt2) pos.line X.env = pure false := by rfl) :
    PSD X io (.Assign [.Tuple [.Name x px, .Name y py] kt pt] (.Tuple [a, b] k2 pt2) pos) (sPar i j ta) := ⟨fun W0 tk => by
  obtain ⟨t1, p1, q1⟩ := ha.ex W0 tk
  refine ⟨_, ps_par hc hN hi hj hij hx hy p1 hw hs, fun A τ σ env H De W E ok tm fx hW h ee => ?_⟩
  refine q1 A τ σ env H _ W _ ok (fun _ => tm.st) (hW σ) h fun as H' env' ok' q => ?_
  obtain ⟨ds, e2, hk, l, ok2⟩ := tks_ok ok' q
  match ds, as, l, hk, ok2 with
  | [d1, d2], [(v1, x1), (v2, x2)], _, hk, ok2 =>
    refine ⟨v1, v2, rfl, ee.nx _ _ H' ?_ hk⟩
    exact ((show Ok X.K A ((v1, .tmp d1) :: (v2, .tmp d2) :: τ) σ e2 H' from ok2).set (i := i) tm.cons fun q hq e => hio (e ▸ fx q hq)).set (i := j) tm fun q hq e => hjo (e ▸ fx q hq)⟩
/-! ### while -/
/-- so many turns are enough -/
def whD (c : TTD) (tb : TSD) (De : EndsD) (W : WD) : Nat → EnvD → Prop
  | 0, _ => False
  | n + 1, env => c env (fun b e => if b = true then tb { De with nx := whD c tb De W n, ct := whD c tb De W n, bk := De.nx } e W else De.nx e) W
def sWhile (c : TTD) (tb : TSD) : TSD := fun De env W => ∃ n, whD c tb De W n env
theorem psd_while {body : List Stmt} {tb : TSD} (hp : PassesOwn (model X.prog X.w) X.A X.env X.xe) (hc : PTD X m c tt) (hb : PSsD X io body tb) : PSD X io (.While c body [] pos) (sWhile tt tb) := ⟨fun W0 tk => by
  obtain ⟨t0, p0, q0⟩ := hc.ex W0 tk
  obtain ⟨t1, p1, q1⟩ := hb.ex W0 tk
  refine ⟨_, ps_while hp p0 p1, fun A τ σ env H De W E ok tm fx hW ⟨n, h⟩ ee => ?_⟩
  refine ⟨fun n σ H => ∃ env, Ok X.K A τ σ env H ∧ whD tt tb De W n env, ⟨n, env, ok, h⟩, fun n σ H ⟨env, ok, h⟩ => ?_⟩
  cases n with
  | zero => exact h.elim
  | succ n =>
    refine q0 A τ σ env H _ W _ ok (fun _ => tm.st) (hW σ) h fun b H' env' ok' q => ?_
    cases b with
    | true =>
      rw [if_pos rfl] at q ⊢
      refine ⟨fun σ' H' => ∃ env, Ok X.K A τ σ' env H' ∧ whD tt tb De W n env, fun σ' H' z => ⟨n, Nat.lt_succ_self _, z⟩, ?_⟩
      exact q1 A τ σ env' H' _ W _ ok' tm fx hW q ⟨fun σ env H ok h => ⟨env, ok, h⟩, ee.rt, ee.nx, fun σ env H ok h => ⟨env, ok, h⟩⟩
    | false =>
      rw [if_neg Bool.false_ne_true] at q ⊢
      exact ee.nx σ env' H' ok' q⟩
/-! ### for -/
/-- what a value gives, walked -/
structure PIV (X : Cx) (tg : Expr) (r : V → Hp → (It → Hp → Prop) → Prop) : Prop where
  run : ∀ (pins : List (Addr × Obj)) (s : Shared) (σ : St) (H : Hp) (x : V) (v : Value) (R : It → Hp → Prop), Inv X pins σ H s → RelV x v → r x H R →
    wpAny (model X.prog X.w) X.A (pyIter v) (PIE X pins σ tg R) X.xe s
def rIt (K : PySem.W.Frag) : V → Hp → (It → Hp → Prop) → Prop := fun x H R => (∃ a xs, x = .ref a ∧ SqL K H a xs ∧ R (Itl K a) H) ∨ (∃ a xs, x = .ref a ∧ SqT K H a xs ∧ R (Itt K a) H) ∨ ∃ z, x = .str z ∧ R (Its z) H
theorem piv_any {tg : Expr} : PIV X tg (rIt X.K) := by
  refine ⟨fun pins s σ H x v R I r1 h => ?_⟩
  have k := fun (b : Addr) (hb : b ∈ [s.heap.objs.size]) => (show b = s.heap.objs.size by simpa using hb)
  rcases h with ⟨a, xs, rfl, hq, q⟩ | ⟨a, xs, rfl, hq, q⟩ | ⟨z, rfl, q⟩
  · cases r1
    obtain ⟨its, rv, p, hz⟩ := I.list hq
    refine wpAny_pyIter_list p.isList ?_
    refine ⟨s.heap.objs.size, [s.heap.objs.size], _, _, H, rfl, I.kept (t' := s.toks) fun b o e => Heap.get?_push_of_some _ e, turn_list a _, ⟨_, Heap.get?_push_size _ rfl, rfl, rfl⟩, fun b hb => ?_, q⟩
    have e := k b hb
    subst e
    exact I.fpOk (Nat.le_refl _) (I.hok.fresh (Nat.le_refl _))
  · cases r1
    obtain ⟨its, rv, p, hz⟩ := I.tuple hq
    refine wpAny_pyIter_tuple (show s.heap.IsTuple a its.toArray from p) ?_
    refine ⟨s.heap.objs.size, [s.heap.objs.size], _, _, H, rfl, I.kept (t' := s.toks) fun b o e => Heap.get?_push_of_some _ e, turn_tuple a _, ⟨_, Heap.get?_push_size _ rfl, rfl, rfl⟩, fun b hb => ?_, q⟩
    have e := k b hb
    subst e
    exact I.fpOk (Nat.le_refl _) (I.hok.fresh (Nat.le_refl _))
  · obtain ⟨t, rfl⟩ := r1
    cases ha : z.cps.all (· < 128)
    · exact wpAny_pyIter_wide ha (pi_one (tk := s.toks) I _ (turn_str _ z t "str_iterator" (.inr rfl)) ⟨_, Heap.get?_push_size _ rfl, rfl, rfl⟩ q)
    · exact wpAny_pyIter_ascii ha (pi_one (tk := s.toks) I _ (turn_str _ z t "str_ascii_iterator" (.inl rfl)) ⟨_, Heap.get?_push_size _ rfl, rfl, rfl⟩ q)
theorem pi_of {tg l : Expr} {tl : TE} {r : V → Hp → (It → Hp → Prop) → Prop} (h : PIV X tg r) (hl : PE X l tl) : PI X tg l (fun σ H R => tl σ H fun x H1 => r x H1 R) :=
  ⟨fun pins s σ H R I hh => thn (hl.run pins s σ H _ I hh) fun v s1 ⟨x, H1, I1, r1, q1⟩ => h.run pins s1 σ H1 x v R I1 r1 q1⟩
/-- the items of what is walked -/
def itemsD : D → Option (List D)
  | .tup xs => some xs
  | .lst _ xs => some xs
  | .frl _ xs => some xs
  | .str s => some (s.cps.toList.map fun c => .str ⟨#[c]⟩)
  | _ => none
def forD (g : TGD) (tb : TSD) (De : EndsD) (W : WD) : List D → EnvD → Prop
  | [], env => De.nx env
  | x :: xs, env => g x env fun e => tb { De with nx := forD g tb De W xs, ct := forD g tb De W xs, bk := De.nx } e W
def sFor (td : TD) (g : TGD) (tb : TSD) : TSD := fun De env W => td env (fun x e => match x.vw e with
  | some (false, d) => (match itemsD d with | some xs => forD g tb De W xs e | none => False)
  | _ => False) W
/-- a new ground: what stands now and isn't owned stays from here on -/
theorem Okk.anchor {K : PySem.W.Frag} {A : Anc} {τ : List (V × T)} {σ : St} {env : EnvD} {H : Hp} {f1 f2 : List Addr} (o : Okk K A τ σ env H f1 f2) :
    ∃ A' : Anc, A'.H = H ∧ (∀ a, A'.F a ↔ a ∈ f1 ++ f2) ∧ A'.fx = A.fx ∧ A'.U = A.U ∧ Ok K A' τ σ env H ∧ ∀ {τ2 : List (V × T)} {σ2 : St} {env2 : EnvD} {H2 : Hp}, Ok K A' τ2 σ2 env2 H2 → Ok K A τ2 σ2 env2 H2 := by
  refine ⟨⟨H, fun a => a ∈ f1 ++ f2, A.U, A.fx⟩, rfl, fun a => Iff.rfl, rfl, rfl, ⟨f1, f2, o.ts, o.en, o.nd, fun a ha => ⟨(o.un a ha).1, .inl ha⟩, fun a u e _ => e, fun a h => ⟨o.there a (.inl h), fun z => (o.un a z).1 h⟩, o.fix⟩, ?_⟩
  rintro τ2 σ2 env2 H2 ⟨g1, g2, q⟩
  refine ⟨g1, g2, q.ts, q.en, q.nd, fun a ha => ⟨(q.un a ha).1, ?_⟩, fun a u e nf => q.keep a u (o.keep a u e nf) fun z => ?_, o.anc, q.fix⟩
  · rcases (q.un a ha).2 with z | z
    · exact (o.un a z).2
    · exact (o.fresh z).2
  · rcases (o.un a z).2 with y | y
    · exact nf y
    · rw [e] at y; cases y
theorem shl {K : PySem.W.Frag} {H : Hp} {N : Addr → Prop} {o : Bool} {a : Addr} {xs : List V} (l : LAt H N o a xs) : SqL K H a xs := by
  cases o with
  | true => exact .inl (.inl l)
  | false => exact .inl (.inl l.2)
theorem Rps.get1 {K : PySem.W.Frag} {H : Hp} {N : Addr → Prop} {ds : List D} {vs : List V} {i : Nat} {d : D} {v : V} (h : Rps K H N ds vs []) (e : ds[i]? = some d) (e' : vs[i]? = some v) : Rp K H N d v [] := by
  obtain ⟨u, f1, fm, f2, q1, q2, q3⟩ := h.get e
  rw [e'] at q1
  cases q1
  have := congrArg List.length q2
  simp at this
  have z : fm = [] := List.eq_nil_of_length_eq_zero (by omega)
  rw [z] at q3
  exact q3
/-- the walk over a shared thing: in the loop the state is over the new ground -/
theorem items_walk {K : PySem.W.Frag} {A : Anc} {τ : List (V × T)} {σ : St} {env : EnvD} {H : Hp} {v : V} {d : D} {xs : List D} {f1 f2 : List Addr} (o : Okk K A τ σ env H f1 f2) (r : Rp K H (A.nn (f1 ++ f2)) d v []) (sh : isSh d = true) (hx : itemsD d = some xs) {R : It → Hp → Prop}
    {A' : Anc} (a1 : A'.H = H) (a2 : ∀ a, A'.F a → a ∈ f1 ++ f2) (a3 : ∀ a, A'.U a → A.nn (f1 ++ f2) a)
    (hR : ∀ (J : It) (n : Nat) (G : Hp → Prop) (Y : Nat → Hp → V → Hp → Prop), n = xs.length → Walk J n G Y → (∀ τ σ env H, Ok K A' τ σ env H → G H) →
      (∀ i τ σ env H w H' x, Ok K A' τ σ env H → Y i H w H' → xs[i]? = some x → H' = H ∧ Ok K A' ((w, .tmp x) :: τ) σ env H) → R J H) : rIt K v H R := by
  have mm : ∀ a, A'.F a → Mut (H a) ∧ A.nn (f1 ++ f2) a := fun a h => by
    have h' := a2 a h
    refine ⟨?_, .inr h'⟩
    rcases List.mem_append.mp h' with z | z
    · exact RpTs.mut o.ts a z
    · exact RpE.mut o.en a z
  have later : ∀ {τ : List (V × T)} {σ : St} {env : EnvD} {H2 : Hp} {x : D} {w : V}, Ok K A' τ σ env H2 → Rp K H (A.nn (f1 ++ f2)) x w [] → Ok K A' ((w, .tmp x) :: τ) σ env H2 := fun {τ σ env H2 x w} ok rx => by
    obtain ⟨g1, g2, q⟩ := ok
    refine ⟨g1, g2, ⟨[], g1, rfl, ?_, q.ts⟩, q.en, q.nd, q.un, q.keep, q.anc, q.fix⟩
    refine Rp.frame (M := A'.F) (fun a u e nf => q.keep a u (by rw [a1]; exact e) nf) mm (fun a h => ?_) x (fun _ z => nomatch z) rx
    rcases h with h | h
    · exact .inl (a3 a h)
    · rcases (q.un a h).2 with z | z
      · exact .inl (.inr (a2 a z))
      · exact .inr (by rw [← a1]; exact z)
  have stay : ∀ {τ : List (V × T)} {σ : St} {env : EnvD} {H2 : Hp} {a : Addr} {u : HO}, Ok K A' τ σ env H2 → ¬ A.nn (f1 ++ f2) a → Rd H a u → Rd H2 a u := fun {τ σ env H2 a u} ok na rd => by
    obtain ⟨g1, g2, q⟩ := ok
    exact Rd.keep rd fun u e => q.keep a u (by rw [a1]; exact e) fun z => na (.inr (a2 a z))
  cases d with
  | tup ys =>
    cases hx
    obtain ⟨a, vs, rfl, ta, rr⟩ := r
    refine .inr (.inl ⟨a, vs, rfl, ta.sq, hR _ vs.length _ _ rr.length.symm walk_tup (fun τ σ env H2 ok => ?_) fun i τ σ env H2 w H3 x ok hy hx => ?_⟩)
    · obtain ⟨g1, g2, q⟩ := ok
      refine .inl (.inl (q.keep a _ (by rw [a1]; exact ta) fun z => ?_))
      have z' := (mm a z).1
      rw [show H a = some (.tup vs) from ta] at z'; exact z'
    · obtain ⟨rfl, hw⟩ := hy
      exact ⟨rfl, later ok (rr.get1 hx hw)⟩
  | lst b ys =>
    cases hx
    cases b with
    | true => cases sh
    | false =>
      obtain ⟨a, vs, fp', rfl, ow, la, rr⟩ := r
      obtain ⟨_, rfl⟩ := ow
      refine .inl ⟨a, vs, rfl, shl la, hR _ vs.length _ _ rr.length.symm walk_list (fun τ σ env H2 ok => ?_) fun i τ σ env H2 w H3 x ok hy hx => ?_⟩
      · exact .inl (stay ok la.1 (.inl la.2))
      · obtain ⟨rfl, hw⟩ := hy
        exact ⟨rfl, later ok (rr.get1 hx hw)⟩
  | frl t ys =>
    cases hx
    obtain ⟨_, a, vs, rfl, la, rr⟩ := r
    have la' : ∀ {τ : List (V × T)} {σ : St} {env : EnvD} {H2 : Hp}, Ok K A' τ σ env H2 → FAt K H2 t a vs := fun {τ σ env H2} ok => by
      obtain ⟨g1, g2, q⟩ := ok
      refine la.keep fun o ho nm => q.keep a _ (by rw [a1]; exact ho) fun z => ?_
      have z' := (mm a z).1
      rw [ho] at z'; exact nm z'
    cases t with
    | false =>
      refine .inl ⟨a, vs, rfl, la.sq, hR _ vs.length _ _ rr.length.symm walk_list (fun τ σ env H2 ok => (la' ok).sq) fun i τ σ env H2 w H3 x ok hy hx => ?_⟩
      obtain ⟨rfl, hw⟩ := hy
      exact ⟨rfl, later ok (rr.get1 hx hw)⟩
    | true =>
      refine .inr (.inl ⟨a, vs, rfl, la.sqT, hR _ vs.length _ _ rr.length.symm walk_tup (fun τ σ env H2 ok => (la' ok).sqT) fun i τ σ env H2 w H3 x ok hy hx => ?_⟩)
      obtain ⟨rfl, hw⟩ := hy
      exact ⟨rfl, later ok (rr.get1 hx hw)⟩
  | str z =>
    cases hx
    obtain ⟨rfl, _⟩ := r
    refine .inr (.inr ⟨z, rfl, hR _ z.cps.size _ _ (by simp) walk_str (fun _ _ _ _ _ => trivial) fun i τ σ env H2 w H3 x ok hy hx => ?_⟩)
    obtain ⟨rfl, c, hc, rfl⟩ := hy
    have e : x = .str ⟨#[c]⟩ := by
      rw [List.getElem?_map] at hx
      have hc' : z.cps.toList[i]? = some c := by rw [Array.getElem?_toList]; exact hc
      rw [hc'] at hx
      exact (Option.some.inj hx).symm
    subst e
    exact ⟨rfl, ok.pushD fun N => ⟨rfl, rfl⟩⟩
  | _ => cases hx
theorem psd_for {iter tg : Expr} {body : List Stmt} {g : TGD} {tb : TSD} (hp : PassesOwn (model X.prog X.w) X.A X.env X.xe) (hc : X.calm = true) (hi : PD X m iter td) (hg : PGD X io tg g) (hb : PSsD X io body tb)
    (hs : ∀ x, foldedSetIterable iter X.env x = pure x := by intro _; rfl) : PSD X io (.For tg iter body [] pos) (sFor td g tb) := ⟨fun W0 tk => by
  obtain ⟨t0, p0, q0⟩ := hi.ex W0 tk
  obtain ⟨t2, p2, q2⟩ := hg.ex
  obtain ⟨t1, p1, q1⟩ := hb.ex W0 tk
  refine ⟨_, ps_for hp hc (pi_of piv_any p0) p2 p1 hs, fun A τ σ env H De W E ok tm fx hW h ee => ?_⟩
  refine q0 A τ σ env H _ W _ ok (fun _ => tm.st) (hW σ) h fun v H' x env' ok' q => ?_
  split at q
  · rename_i d hv
    cases hx : itemsD d with
    | none => rw [hx] at q; exact q.elim
    | some xs =>
      rw [hx] at q
      obtain ⟨ok1, sh⟩ := nrm1 ok' hv
      obtain ⟨fa, f0, f2, o1, ra, r0⟩ := Ok.cut (as := [(v, .tmp d)]) (show Ok X.K A ((v, .tmp d) :: τ) σ env' H' from ok1)
      have rd := RpTs.of1 ra
      have z : fa = [] := Rp.sh d sh rd
      subst z
      have o : Okk X.K A τ σ env' H' f0 f2 := ⟨r0, o1.en, o1.nd, o1.un, o1.keep, o1.anc, o1.fix⟩
      obtain ⟨A', a1, a2, a4, a3, okA, back⟩ := o.anchor
      refine items_walk o rd sh hx a1 (fun a h => (a2 a).mp h) (fun a h => .inl (by rw [← a3]; exact h)) fun J n G Y en w hG hY => ?_
      subst en
      refine for_it w (fun i σ H => ∃ env, Ok X.K A' τ σ env H ∧ forD g tb De W (xs.drop i) env) ⟨env', okA, q⟩ (fun i σ H _ ⟨env, ok, _⟩ => hG τ σ env H ok) ?_ ?_
      · rintro i y σ1 H1 H2 hi ⟨e1, ok3, h3⟩ hy
        obtain ⟨z, hz⟩ : ∃ z, xs[i]? = some z := ⟨_, List.getElem?_eq_getElem hi⟩
        obtain ⟨rfl, ok4⟩ := hY i τ σ1 e1 H1 y H2 z ok3 hy hz
        rw [List.drop_eq_getElem_cons hi] at h3
        have ez : xs[i] = z := by
          rw [List.getElem?_eq_getElem hi] at hz; exact Option.some.inj hz
        rw [ez] at h3
        have fx' : ∀ q ∈ A'.fx, q.1 ∈ io := by rw [a4]; exact fx
        refine q2 A' τ σ1 e1 H2 y z _ _ ok4 tm fx' h3 fun σ' env' H' ok5 h5 => ?_
        exact q1 A' τ σ' env' H' _ W _ ok5 tm fx' (fun σ env H x cls d ok => hW σ env H x cls d (back ok)) h5 ⟨fun σ env H ok h => ⟨env, ok, h⟩,
          fun w x σ env H ok h => ee.rt w x σ env H (back ok) h, fun σ env H ok h => ee.nx σ env H (back ok) h, fun σ env H ok h => ⟨env, ok, h⟩⟩
      · rintro σ1 H1 ⟨e1, ok3, h3⟩
        rw [List.drop_length] at h3
        exact ee.nx σ1 e1 H1 (back ok3) h3
  · exact q.elim⟩
/-- over a range -/
def rangeD (lo hi : Int) : List D := (List.range (hi - lo).toNat).map fun i : Nat => .int (lo + i)
def sForR1 (ta : TDs) (g : TGD) (tb : TSD) : TSD := fun De env W => ta env (fun xs e => vws e xs fun _ ds => match ds with
  | [.int j] => (-(2 ^ 62) ≤ j ∧ j < 2 ^ 62) ∧ forD g tb De W (rangeD 0 j) e
  | _ => False) W
def sForR2 (ta : TDs) (g : TGD) (tb : TSD) : TSD := fun De env W => ta env (fun xs e => vws e xs fun _ ds => match ds with
  | [.int i, .int j] => (-(2 ^ 62) ≤ i ∧ i < 2 ^ 62 ∧ -(2 ^ 62) ≤ j ∧ j < 2 ^ 62) ∧ forD g tb De W (rangeD i j) e
  | _ => False) W
theorem range_go {g : TGD} {tb : TSD} {t2 : TG} {t1 : TS} {W0 : L2.WX} {A : Anc} {τ : List (V × T)} {σ : St} {env : EnvD} {H : Hp} {De : EndsD} {W : WD} {E : Ends} {lo : Int} {n : Nat} (ok : Ok X.K A τ σ env H) (tm : tmps τ) (fx : ∀ q ∈ A.fx, q.1 ∈ io) (hW : ∀ σ, HW X.K W0 A τ σ W)
    (q2 : ∀ (A : Anc) (τ : List (V × T)) (σ : St) (env : EnvD) (H : Hp) (v : V) (d : D) (Q : EnvD → Prop) (R : St → Hp → Prop), Ok X.K A ((v, .tmp d) :: τ) σ env H → tmps τ → (∀ q ∈ A.fx, q.1 ∈ io) → g d env Q → (∀ σ' env' H', Ok X.K A τ σ' env' H' → Q env' → R σ' H') → t2 v σ H R)
    (q1 : ∀ (A : Anc) (τ : List (V × T)) (σ : St) (env : EnvD) (H : Hp) (De : EndsD) (W : WD) (E : Ends), Ok X.K A τ σ env H → tmps τ → (∀ q ∈ A.fx, q.1 ∈ io) → (∀ σ, HW X.K W0 A τ σ W) → tb De env W → EE X.K A τ De E → t1 E σ H)
    (h : forD g tb De W ((List.range n).map fun i : Nat => D.int (lo + i)) env) (ee : EE X.K A τ De E) :
    ∃ W : Nat → Nat → St → Hp → Prop, (∃ m, W 0 m σ H) ∧ ∀ i m σ H, W i m σ H →
      ((Itr lo n).stop i H ∧ E.nx σ H) ∨ ((Itr lo n).go i H ∧ ∃ N : St → Hp → Prop, (∀ σ' H', N σ' H' → ∃ m', m' < m ∧ W (i + 1) m' σ' H') ∧ ∀ x H', (Itr lo n).yld i H x H' → t2 x σ H' fun σ2 H2 => t1 { E with nx := N, ct := N, bk := E.nx } σ2 H2) := by
  refine for_range (fun i σ H => ∃ env, Ok X.K A τ σ env H ∧ forD g tb De W (((List.range n).map fun i : Nat => D.int (lo + i)).drop i) env) ⟨env, ok, h⟩ ?_ ?_
  · rintro i σ1 H1 hi ⟨e1, ok3, h3⟩
    have hi' : i < ((List.range n).map fun i : Nat => D.int (lo + i)).length := by simpa using hi
    rw [List.drop_eq_getElem_cons hi'] at h3
    have ez : ((List.range n).map fun i : Nat => D.int (lo + i))[i] = .int (lo + i) := by simp
    rw [ez] at h3
    refine q2 A τ σ1 e1 H1 (.int (lo + i)) _ _ _ (ok3.pushD (d := .int (lo + i)) fun N => ⟨rfl, rfl⟩) tm fx h3 fun σ' env' H' ok5 h5 => ?_
    exact q1 A τ σ' env' H' _ W _ ok5 tm fx hW h5 ⟨fun σ env H ok h => ⟨env, ok, h⟩, ee.rt, ee.nx, fun σ env H ok h => ⟨env, ok, h⟩⟩
  · rintro σ1 H1 ⟨e1, ok3, h3⟩
    have z : ((List.range n).map fun i : Nat => D.int (lo + i)).drop n = [] := List.drop_eq_nil_of_le (by simp)
    rw [z] at h3
    exact ee.nx σ1 e1 H1 ok3 h3
theorem psd_forR1 {tg a : Expr} {body : List Stmt} {g : TGD} {tb : TSD} {ta : TDs} {p cpos : Pos} (hp : PassesOwn (model X.prog X.w) X.A X.env X.xe) (hc : X.calm = true) (hgl : Gl X "range") (hm : X.mg "range" = none) (ha : PDs X m [a] ta) (hg : PGD X io tg g) (hb : PSsD X io body tb)
    (hst : starEach [a] X.env = [(false, eval a X.env)] := by rfl)
    (hs : ∀ x, foldedSetIterable (.Call (.Name "range" p) [a] [] cpos) X.env x = pure x := by intro _; rfl) : PSD X io (.For tg (.Call (.Name "range" p) [a] [] cpos) body [] pos) (sForR1 ta g tb) := ⟨fun W0 tk => by
  obtain ⟨t0, p0, q0⟩ := ha.ex W0 tk
  obtain ⟨t2, p2, q2⟩ := hg.ex
  obtain ⟨t1, p1, q1⟩ := hb.ex W0 tk
  refine ⟨_, ps_for hp hc (pi_range1 hgl hm p0 hst) p2 p1 hs, fun A τ σ env H De W E ok tm fx hW h ee => ?_⟩
  refine q0 A τ σ env H _ W _ ok (fun _ => tm.st) (hW σ) h fun as H' env' ok' q => ?_
  obtain ⟨b, ds, f0, f2, hf, hs, o, rr⟩ := ok'.args q
  have l := rr.length
  rw [List.length_map] at l
  split at hf
  · rename_i j
    match as, l, rr, ok' with
    | [(v, x)], _, rr, ok' =>
      obtain ⟨u, vs', g1, g2, e1', e2', r1, r2⟩ := rr
      cases e1'
      obtain ⟨⟨h1, h2⟩, hf⟩ := hf
      refine ⟨j, by rw [show v = .int j from r1.1]; rfl, h1, h2, range_go (W0 := W0) (n := j.toNat) (lo := 0) (Ok.drop (as := [(v, x)]) ok') tm fx hW q2 q1 ?_ ee⟩
      have z : rangeD 0 j = (List.range j.toNat).map fun i : Nat => D.int (0 + i) := by unfold rangeD; rw [Int.sub_zero]
      rw [← z]; exact hf
  · exact hf.elim⟩
theorem psd_forR2 {tg a b : Expr} {body : List Stmt} {g : TGD} {tb : TSD} {ta : TDs} {p cpos : Pos} (hp : PassesOwn (model X.prog X.w) X.A X.env X.xe) (hc : X.calm = true) (hgl : Gl X "range") (hm : X.mg "range" = none) (ha : PDs X m [a, b] ta) (hg : PGD X io tg g) (hb : PSsD X io body tb)
    (hst : starEach [a, b] X.env = [(false, eval a X.env), (false, eval b X.env)] := by rfl) (hst2 : starEach [b] X.env = [(false, eval b X.env)] := by rfl)
    (hs : ∀ x, foldedSetIterable (.Call (.Name "range" p) [a, b] [] cpos) X.env x = pure x := by intro _; rfl) : PSD X io (.For tg (.Call (.Name "range" p) [a, b] [] cpos) body [] pos) (sForR2 ta g tb) := ⟨fun W0 tk => by
  obtain ⟨t0, p0, q0⟩ := ha.ex W0 tk
  obtain ⟨t2, p2, q2⟩ := hg.ex
  obtain ⟨t1, p1, q1⟩ := hb.ex W0 tk
  refine ⟨_, ps_for hp hc (pi_range2 hgl hm p0 hst hst2) p2 p1 hs, fun A τ σ env H De W E ok tm fx hW h ee => ?_⟩
  refine q0 A τ σ env H _ W _ ok (fun _ => tm.st) (hW σ) h fun as H' env' ok' q => ?_
  obtain ⟨b, ds, f0, f2, hf, hs, o, rr⟩ := ok'.args q
  have l := rr.length
  rw [List.length_map] at l
  split at hf
  · rename_i i j
    match as, l, rr, ok' with
    | [(v, x), (v2, x2)], _, rr, ok' =>
      obtain ⟨u, vs', g1, g2, e1', e2', r1, u2, vs2, g3, g4, e3', e4', r2, r3⟩ := rr
      cases e1'
      cases e3'
      obtain ⟨h1, hf⟩ := hf
      exact ⟨i, j, by rw [show v = .int i from r1.1, show v2 = .int j from r2.1]; rfl, h1, range_go (W0 := W0) (n := (j - i).toNat) (lo := i) (Ok.drop (as := [(v, x), (v2, x2)]) ok') tm fx hW q2 q1 hf ee⟩
  · exact hf.elim⟩
end
end Pd

namespace Pd
open PySem L2 PyProof.Rows
abbrev St := L2.St

/-! ### what a def promises, over D: io are the parameters whose things it may change -/
abbrev SD := List D → (D → EnvD → Prop) → (Exn → EnvD → Prop) → Prop
def mask (io : List Nat) : Nat → Nat → EnvD → EnvD
  | _, 0, _ => []
  | k, n + 1, [] => none :: mask io (k + 1) n []
  | k, n + 1, d :: env => (if k ∈ io then d else none) :: mask io (k + 1) n env
def fxOf (io : List Nat) (vs : List V) : List (Nat × V) := io.filterMap fun i => vs[i]?.map fun v => (i, v)
def SpD (K : PySem.W.Frag) (io : List Nat) (S : SD) : Sp := fun vs H Q E => ∃ (A : Anc) (ds : List D) (R : D → EnvD → Prop) (RE : Exn → EnvD → Prop), ds.length = vs.length ∧ A.fx = fxOf io vs ∧
  Ok K A [] (vs.map some) (ds.map some) H ∧ S ds R RE ∧
  (∀ v H' x env', Ok K A [(v, .tmp x)] (vs.map some) (mask io 0 vs.length env') H' → R x (mask io 0 vs.length env') → Q v H') ∧
  (∀ H' ex cls d env', Ok K A [] (vs.map some) (mask io 0 vs.length env') H' → ExAt K H' ex cls d → RE ex (mask io 0 vs.length env') → E cls d H')

section
variable {K : PySem.W.Frag} {H : Hp} {N : Addr → Prop}
theorem RpE.mask {io : List Nat} : ∀ {vs : List V} {k : Nat} {env : EnvD} {σ : St} {f : List Addr}, RpE K H N env σ f → (∀ i ∈ io, ∀ j v, i = k + j → vs[j]? = some v → σ[j]? = some (some v)) →
    ∃ f', f'.Sublist f ∧ RpE K H N (Pd.mask io k vs.length env) (vs.map some) f'
  | [], k, env, σ, f, h, hx => ⟨[], List.nil_sublist _, rfl, rfl⟩
  | v :: vs, k, [], σ, f, h, hx => by
    obtain ⟨f', s, r⟩ := RpE.mask (io := io) (vs := vs) (k := k + 1) (env := []) (σ := []) (f := f) ⟨rfl, h.2⟩ fun i hi j w e hw => by
      have := hx i hi (j + 1) w (by omega) (by simpa using hw)
      rw [h.1] at this
      simp at this
    exact ⟨f', s, some v, vs.map some, [], f', rfl, rfl, rfl, r⟩
  | v :: vs, k, d :: env, σ, f, h, hx => by
    obtain ⟨u, σ', f1, f2, rfl, rfl, r1, r2⟩ := h
    obtain ⟨f', s, r⟩ := RpE.mask (io := io) (vs := vs) (k := k + 1) (env := env) r2 fun i hi j w e hw => by
      have := hx i hi (j + 1) w (by omega) (by simpa using hw)
      simpa using this
    by_cases hk : k ∈ io
    · have hu : u = some v := by
        have := hx k hk 0 v rfl rfl
        simpa using this
      subst hu
      refine ⟨f1 ++ f', List.Sublist.append (List.Sublist.refl _) s, some v, vs.map some, f1, f', rfl, rfl, ?_, r⟩
      rw [if_pos hk]
      exact r1
    · refine ⟨f', s.trans (List.sublist_append_right _ _), some v, vs.map some, [], f', rfl, rfl, ?_, r⟩
      rw [if_neg hk]
      exact rfl
theorem fxOf_mem {io : List Nat} {vs : List V} {q : Nat × V} : q ∈ fxOf io vs ↔ q.1 ∈ io ∧ vs[q.1]? = some q.2 := by
  unfold fxOf
  rw [List.mem_filterMap]
  constructor
  · rintro ⟨i, hi, e⟩
    cases h : vs[i]? with
    | none => rw [h] at e; cases e
    | some v => rw [h] at e; cases e; exact ⟨hi, h⟩
  · rintro ⟨hi, h⟩
    exact ⟨q.1, hi, by rw [h]; rfl⟩
/-- behind a body: of the frame just what was handed in to be changed -/
theorem Ok.masked {A : Anc} {τ : List (V × T)} {σ : St} {env : EnvD} {io : List Nat} {vs : List V} (ok : Ok K A τ σ env H) (tm : tmps τ) (hf : A.fx = fxOf io vs) : Ok K A τ (vs.map some) (mask io 0 vs.length env) H := by
  obtain ⟨f1, f2, o⟩ := ok
  obtain ⟨f', s, r⟩ := RpE.mask (io := io) (vs := vs) (k := 0) o.en fun i hi j v e hv => by
    have e' : i = j := by omega
    subst e'
    exact o.fix (i, v) (by rw [hf]; exact fxOf_mem.mpr ⟨hi, hv⟩)
  have sub : ∀ a, a ∈ f1 ++ f' → a ∈ f1 ++ f2 := fun a ha => (List.mem_append.mp ha).elim (fun h => List.mem_append_left _ h) fun h => List.mem_append_right _ (s.subset h)
  have n : ∀ a, A.nn (f1 ++ f') a → A.nn (f1 ++ f2) a := fun a h => h.imp id (sub a)
  refine ⟨f1, f', RpTs.sig tm (o.ts.congr n), r.congr n, (List.Sublist.append (List.Sublist.refl _) s).nodup o.nd, fun a ha => o.un a (sub a ha), o.keep, o.anc, fun q hq => ?_⟩
  rw [hf] at hq
  rw [List.getElem?_map, (fxOf_mem.mp hq).2]
  rfl
end

/-- a returned temporary -/
def T.mv (io : List Nat) (e : EnvD) : T → Option (D × EnvD)
  | .pl j [] => if j ∈ io then (T.pl j []).tk e else (match e[j]? with
    | some (some d) => some (d, e.set j none)
    | _ => none)
  | x => x.tk e
def retD (io : List Nat) (R : D → EnvD → Prop) (x : T) (e : EnvD) : Prop := match x.mv io e with
  | some (d, e') => R d e'
  | none => False
/-- a slot is forgotten -/
theorem Ok.forget {K : PySem.W.Frag} {A : Anc} {τ : List (V × T)} {σ : St} {env : EnvD} {H : Hp} {i : Nat} (ok : Ok K A τ σ env H) : Ok K A τ σ (env.set i none) H := by
  obtain ⟨f1, f2, o⟩ := ok
  by_cases h : i < env.length
  · obtain ⟨u, g1, gm, g2, q1, q2, q3, q4⟩ := RpE.get o.en (List.getElem?_eq_getElem h)
    have ne := q4 (d' := none) (v' := u) (fm' := []) rfl
    rw [list_set_self q1] at ne
    have sub : (f1 ++ (g1 ++ [] ++ g2)).Sublist (f1 ++ f2) := by
      rw [q2]
      refine List.Sublist.append (List.Sublist.refl _) ?_
      simp
    have n : ∀ a, A.nn (f1 ++ (g1 ++ [] ++ g2)) a → A.nn (f1 ++ f2) a := fun a h => h.imp id fun h => sub.subset h
    exact ⟨f1, g1 ++ [] ++ g2, o.ts.congr n, ne.congr n, sub.nodup o.nd, fun a ha => o.un a (sub.subset ha), o.keep, o.anc, o.fix⟩
  · rw [set_oob (Nat.le_of_not_lt h)]
    exact ⟨f1, f2, o⟩
/-- a temporary is taken for good: of a local of the def, with all that it owns -/
theorem mv1 {K : PySem.W.Frag} {A : Anc} {τ : List (V × T)} {σ : St} {env env' : EnvD} {H : Hp} {v : V} {x : T} {d : D} {io : List Nat} (ok : Ok K A ((v, x) :: τ) σ env H) (h : x.mv io env = some (d, env')) : Ok K A ((v, .tmp d) :: τ) σ env' H := by
  unfold T.mv at h
  split at h
  · rename_i j
    split at h
    · exact tk1 ok h
    · split at h
      · rename_i d' hd
        cases h
        obtain ⟨w, hw, hv⟩ : ∃ w, σ[j]? = some (some w) ∧ VAt H w [] v := by
          obtain ⟨fa, f0, f2, o, ra, r0⟩ := Ok.cut (as := [(v, .pl j [])]) ok
          exact (RpTs.of1 ra).2
        have ok1 := Ok.out (Ok.drop (as := [(v, .pl j [])]) ok) hd (p := []) rfl rfl hw hv
        have ok2 := Ok.forget (i := j) ok1
        rw [List.set_set] at ok2
        exact ok2
      · cases h
  · exact tk1 ok h
def endsOf (io : List Nat) (n : Nat) (R : D → EnvD → Prop) : EndsD := { nx := fun e => R .non (mask io 0 n e), rt := fun x e => retD io (fun d e' => R d (mask io 0 n e')) x e }
def exOf (io : List Nat) (n : Nat) (RE : Exn → EnvD → Prop) : WD := fun ex e => RE ex (mask io 0 n e)
def startD (n : Nat) (ds : List D) : EnvD := ds.map some ++ List.replicate (n - ds.length) none
section
variable {P : Program} {w : World} {K : PySem.W.Frag} {mg : Str → Option Value} {base : Heap}
theorem RpE.pad {H : Hp} {N : Addr → Prop} : ∀ {env : EnvD} {σ : St} {f : List Addr} (n : Nat), RpE K H N env σ f → RpE K H N (env ++ List.replicate n none) (σ ++ List.replicate n none) f
  | [], σ, f, n, h => by
    rw [h.1, h.2]
    induction n with
    | zero => exact ⟨rfl, rfl⟩
    | succ n ih => exact ⟨none, _, [], [], rfl, rfl, rfl, ih⟩
  | d :: env, σ, f, n, h => by
    obtain ⟨v, σ', f1, f2, rfl, rfl, r1, r2⟩ := h
    exact ⟨v, _, f1, f2, rfl, rfl, r1, RpE.pad n r2⟩
theorem Ok.pad {A : Anc} {τ : List (V × T)} {σ : St} {env : EnvD} {H : Hp} (ok : Ok K A τ σ env H) (tm : tmps τ) (n : Nat) : Ok K A τ (σ ++ List.replicate n none) (env ++ List.replicate n none) H := by
  obtain ⟨f1, f2, o⟩ := ok
  refine ⟨f1, f2, RpTs.sig tm o.ts, o.en.pad n, o.nd, o.un, o.keep, o.anc, fun q hq => ?_⟩
  rw [List.getElem?_append_left (List.getElem?_eq_some_iff.mp (o.fix q hq)).1]
  exact o.fix q hq
theorem tmps.nil : tmps [] := by intro x hx; cases hx
theorem takesF {X : Cx} : Takes X (fun _ _ _ _ => False) := L2.takes0
/-- from a body's reading to the promise -/
theorem body_ok {X : Cx} {W0 : L2.WX} {io : List Nat} {N : List Str} {vs : List V} {H : Hp} {Q : VK} {E : XK} {body : List Stmt} {tb : TSD} (hb : PSsD X io body tb) (tk : Takes X W0) (hW : ∀ cls d σ H, E cls d H → W0 cls d σ H)
    {A : Anc} {ds : List D} {R : D → EnvD → Prop} {RE : Exn → EnvD → Prop} (hl : ds.length = vs.length) (hf : A.fx = fxOf io vs) (ok : Ok X.K A [] (vs.map some) (ds.map some) H)
    (hR : ∀ v H' x env', Ok X.K A [(v, .tmp x)] (vs.map some) (mask io 0 vs.length env') H' → R x (mask io 0 vs.length env') → Q v H')
    (hRE : ∀ H' ex cls d env', Ok X.K A [] (vs.map some) (mask io 0 vs.length env') H' → ExAt X.K H' ex cls d → RE ex (mask io 0 vs.length env') → E cls d H')
    (hT : tb (endsOf io vs.length R) (startD N.length ds) (exOf io vs.length RE)) :
    ∃ t, PSs X body t ∧ t { nx := fun _ H' => Q .non H', rt := Q } (start N vs) H := by
  obtain ⟨t, p, q⟩ := hb.ex W0 tk
  refine ⟨t, p, ?_⟩
  have ok1 := ok.pad tmps.nil (N.length - vs.length)
  have e1 : vs.map some ++ List.replicate (N.length - vs.length) none = start N vs := rfl
  have e2 : ds.map some ++ List.replicate (N.length - vs.length) none = startD N.length ds := by unfold startD; rw [hl]
  rw [e1, e2] at ok1
  refine q A [] _ _ H _ _ _ ok1 tmps.nil (fun q hq => by rw [hf] at hq; exact (fxOf_mem.mp hq).1) (fun σ env' H' x cls d ok' e w => ?_) hT ⟨fun σ env' H' ok' h => ?_, fun v x σ env' H' ok' h => ?_, fun _ _ _ _ z => z.elim, fun _ _ _ _ z => z.elim⟩
  · exact hW _ _ _ _ (hRE H' x cls d env' (ok'.masked tmps.nil hf) e w)
  · have h' : R .non (mask io 0 vs.length env') := h
    exact hR .non H' .non env' ((ok'.pushD (d := .non) fun N => ⟨rfl, rfl⟩).masked tmps.nil.cons hf) h'
  · have h' : retD io (fun d e' => R d (mask io 0 vs.length e')) x env' := h
    unfold retD at h'
    split at h'
    · rename_i d e' hv
      exact hR v H' d e' ((mv1 ok' hv).masked tmps.nil.cons hf) h'
    · exact h'.elim
theorem SpD.len {io : List Nat} {S : SD} {n : Nat} (hS : ∀ ds R RE, S ds R RE → ds.length = n) : ∀ vs H Q E, SpD K io S vs H Q E → vs.length = n := by
  rintro vs H Q E ⟨A, ds, R, RE, hl, _, _, h, _⟩
  rw [← hl]; exact hS ds R RE h
/-- a def that raises nothing -/
theorem fnD {x qual : Str} {st : Stmt} {f : Addr} {fd : FuncData} {N ps : List Str} {k : Nat} {io : List Nat} {S : SD} {tb : TSD} (F : Fun K x qual st f fd) (sc : FnScope N ps (defScope st)) (hS : ∀ ds R RE, S ds R RE → ds.length = ps.length)
    (hb : ∀ (cdv : Value) (A : Around) (outer : List Env) (s : Shared) (H : Hp) (E : XK), Room k (A.deeper (envOfC qual (defScope st) s.heap.objs.size f cdv)) → PSsD (cxOf CX0 P w K mg base N qual (defScope st) f cdv A outer s H E).nox io (defBody st) tb)
    (pure : ∀ ds R RE, S ds R RE → tb (endsOf io ps.length R) (startD N.length ds) (fun _ _ => False)) : FnOk P w K mg base CX0 (k + 1) f fd ps (SpD K io S) := by
  refine F.ok sc (SpD.len hS) fun cdv A outer s H vs Q E hr h => ?_
  have hv := SpD.len hS vs H Q E h
  obtain ⟨A', ds, R, RE, hl, hf, ok, h1, h2, h3⟩ := h
  exact body_ok (E := fun _ _ _ => False) (RE := fun _ _ => False) (hb cdv A outer s H E hr) takesF (fun _ _ _ _ z => z) hl hf ok h2 (fun _ _ _ _ _ _ _ z => z.elim) (hv ▸ pure ds R RE h1)
/-- a def that may raise -/
theorem fnX {x qual : Str} {st : Stmt} {f : Addr} {fd : FuncData} {N ps : List Str} {k : Nat} {io : List Nat} {S : SD} {tb : TSD} (F : Fun K x qual st f fd) (sc : FnScope N ps (defScope st)) (hS : ∀ ds R RE, S ds R RE → ds.length = ps.length)
    (hb : ∀ (cdv : Value) (A : Around) (outer : List Env) (s : Shared) (H : Hp) (E : XK), Room k (A.deeper (envOfC qual (defScope st) s.heap.objs.size f cdv)) → PSsD (cxOf (L2.CX P w) P w K mg base N qual (defScope st) f cdv A outer s H E) io (defBody st) tb)
    (pure : ∀ ds R RE, S ds R RE → tb (endsOf io ps.length R) (startD N.length ds) (exOf io ps.length RE)) : FnOk P w K mg base (L2.CX P w) (k + 1) f fd ps (SpD K io S) := by
  refine F.okX sc (SpD.len hS) fun cdv A outer s H vs Q E hr h => ?_
  have hv := SpD.len hS vs H Q E h
  obtain ⟨A', ds, R, RE, hl, hf, ok, h1, h2, h3⟩ := h
  exact body_ok (hb cdv A outer s H E hr) (takes_of rfl rfl rfl rfl) (fun _ _ _ _ z => z) hl hf ok h2 h3 (hv ▸ pure ds R RE h1)
end

/-! ### calls -/
/-- an argument: looked at, or a place whose thing may be changed -/
inductive CA where
  | vw (d : D) | io (j : Nat) (p : List Stp) (d e : D)
def CA.d : CA → D
  | .vw d => d
  | .io _ _ _ e => e
def CA.t : CA → T
  | .vw d => .tmp d
  | .io j p _ _ => .pl j p
def CA.root : CA → Option Nat
  | .vw _ => none
  | .io j _ _ _ => some j
def cA (b : Bool) (env : EnvD) (x : T) : Option CA :=
  if b = true then (match x with
    | .pl j p => (match env[j]? with
      | some (some d) => if owp d p = true then (match d.subs p with | some e => some (.io j p d e) | none => none) else none
      | _ => none)
    | _ => none)
  else (match x.vw env with
    | some (false, d) => some (.vw d)
    | _ => none)
def cAs (io : List Nat) (env : EnvD) : Nat → List T → Option (List CA)
  | _, [] => some []
  | k, x :: xs => match cA (decide (k ∈ io)) env x with
    | some c => (match cAs io env (k + 1) xs with | some cs => some (c :: cs) | none => none)
    | none => none
/-- the places get what the def leaves -/
def cback : List CA → EnvD → EnvD → (EnvD → Prop) → Prop
  | [], _, e, Q => Q e
  | .vw _ :: cs, _ :: env', e, Q => cback cs env' e Q
  | .io j p d _ :: cs, some d' :: env', e, Q => cback cs env' (e.set j (some (d.puts p d'))) Q
  | _, _, _, _ => False
/-- f(..), f changes nothing -/
def dCall (S : SD) (ta : TDs) : TD := fun env Q W => ta env (fun xs e => vws e xs fun b ds => S ds (fun r _ => (b = true → noOb r = true) ∧ Q (resT b r) e) (fun ex _ => W ex e)) W
/-- f(..), f may change what stands at the places io -/
def dCallIO (io : List Nat) (S : SD) (ta : TDs) : TD := fun env Q W => ta env (fun xs e => match cAs io e 0 xs with
  | some cs => (cs.filterMap CA.root).Nodup ∧ S (cs.map CA.d) (fun r e' => cback cs e' e fun e2 => Q (.tmp r) e2) (fun ex e' => cback cs e' e fun e2 => W ex e2)
  | none => False) W

section
variable {K : PySem.W.Frag} {A : Anc} {H H' : Hp} {σ : St} {env : EnvD} {as τ : List (V × T)}
theorem RpE.of {N : Addr → Prop} : ∀ {ds : List D} {vs : List V} {f : List Addr}, Rps K H N ds vs f → RpE K H N (ds.map some) (vs.map some) f
  | [], _, _, h => by rw [h.1, h.2]; exact ⟨rfl, rfl⟩
  | d :: ds, _, _, h => by
    obtain ⟨v, vs', f1, f2, rfl, rfl, r1, r2⟩ := h
    exact ⟨some v, _, f1, f2, rfl, rfl, r1, RpE.of r2⟩
theorem RpE.mask0 {N : Addr → Prop} : ∀ {n k : Nat} {env : EnvD} {σ : St} {f : List Addr}, RpE K H N (Pd.mask [] k n env) σ f → f = []
  | 0, k, env, σ, f, h => h.2
  | n + 1, k, [], σ, f, h => by
    obtain ⟨v, σ', f1, f2, _, rfl, r1, r2⟩ := h
    rw [show f1 = [] from r1, RpE.mask0 r2]; rfl
  | n + 1, k, d :: env, σ, f, h => by
    obtain ⟨v, σ', f1, f2, _, rfl, r1, r2⟩ := h
    rw [if_neg (by simp)] at r1
    rw [show f1 = [] from r1, RpE.mask0 r2]; rfl
theorem Ok.call0 {W0 : L2.WX} {S : SD} {k : T → Prop} {W : WD} {Q : VK} (ok : Ok K A (as ++ τ) σ env H) (h : vws env (as.map (·.2)) fun b ds => S ds (fun r _ => (b = true → noOb r = true) ∧ k (resT b r)) (fun ex _ => W ex env)) (hW : HW K W0 A τ σ W)
    (hQ : ∀ v x H', Ok K A ((v, x) :: τ) σ env H' → k x → Q v H') : SpD K [] S (as.map (·.1)) H Q (fun cls d H' => W0 cls d σ H') := by
  obtain ⟨b, ds, f0, f2, hf, hs, o, rr⟩ := ok.args h
  refine ⟨⟨H, fun _ => False, fun a => b = false ∧ A.nn (f0 ++ f2) a, []⟩, ds, _, _, rr.length, rfl, ⟨[], [], rfl, RpE.of (Rps.grow rr (Ext.refl H) fun a z => ?_), List.nodup_nil, fun _ z => (nomatch z), fun a u e _ => e, fun a z => ⟨o.there a z.2, fun y => y⟩, fun _ z => (nomatch z)⟩, hf, fun v H' x env' okr hk => ?_, fun H' ex cls d env' okr e w => ?_⟩
  · rcases z with z | z
    · exact .inl z
    · cases z
  · obtain ⟨fr, g0, g2, o', rv, _⟩ := Ok.cut (as := [(v, .tmp x)]) okr
    have ez : g2 = [] := RpE.mask0 o'.en
    subst ez
    have ex : Ext H H' := fun a u e => o'.keep a u e fun y => y
    have fresh : ∀ a ∈ fr, H a = none := fun a ha => (o'.un a (by simp [ha])).2.elim (fun y => y.elim) id
    have nd := o'.ndA
    have hg0 : g0 = [] := by assumption
    subst hg0
    have rd : Rp K H' (fun a => (b = false ∧ A.nn (f0 ++ f2) a) ∨ a ∈ fr) x v fr := Rp.grow (RpTs.of1 rv) (Ext.refl H') fun a z => .inl (z.imp id fun z => by simpa using z)
    refine hQ v _ H' ?_ hk.2
    cases b with
    | false =>
      refine ⟨fr ++ f0, f2, Okk.turn (M := fun _ => False) (as := []) (as' := [(v, .tmp x)]) (fa := []) (fa' := fr) (f0 := f0) o rfl o.ts (fun a o e _ => ex a o e) (fun _ z => z.elim) (.inl fun _ z => z) nd (fun a ha => .inr (fresh a ha)) (RpTs.one ?_)⟩
      refine Rp.grow rd (Ext.refl H') fun a h => ?_
      rcases h with h | h
      · exact .inl (.inl ⟨rfl, .inl h⟩)
      · rw [List.append_assoc] at h
        rcases List.mem_append.mp h with h | h
        · exact .inl (.inr h)
        · exact .inl (.inl ⟨rfl, .inr h⟩)
    | true =>
      unfold resT
      rw [if_pos rfl]
      split
      · rename_i hn
        refine ⟨fr ++ f0, f2, Okk.turn (M := fun _ => False) (as := []) (as' := [(v, .tmp x)]) (fa := []) (fa' := fr) (f0 := f0) o rfl o.ts (fun a o e _ => ex a o e) (fun _ z => z.elim) (.inl fun _ z => z) nd (fun a ha => .inr (fresh a ha)) (RpTs.one ?_)⟩
        exact Rp.noAl x hn rd
      · refine ⟨[] ++ f0, f2, Okk.turn (M := fun _ => False) (as := []) (as' := [(v, .bor (fz x))]) (fa := []) (fa' := []) (f0 := f0) o rfl o.ts (fun a o e _ => ex a o e) (fun _ z => z.elim) (.inl fun _ z => z) List.nodup_nil (fun a ha => (nomatch ha)) (RpTs.one ?_)⟩
        exact ⟨rfl, by rw [fz_isSh]; exact hk.1 rfl, Rp.fz (fun _ z => z.elim) x (hk.1 rfl) (fun _ _ z => z) rd⟩
  · obtain ⟨g1, g2, o'⟩ := okr
    have ez : g2 = [] := RpE.mask0 o'.en
    have ex : Ext H H' := fun a u e => o'.keep a u e fun y => y
    exact hW env H' _ cls d (Ok.ext ⟨f0, f2, o⟩ ex) e w
end
end Pd

namespace Pd
open PySem L2 PyProof.Rows
section
variable {K : PySem.W.Frag} {A : Anc} {H H' : Hp} {σ : St} {env : EnvD} {as τ : List (V × T)}
/-- what a description of an argument says of the frame -/
def CA.good (env : EnvD) : CA → Prop
  | .vw _ => True
  | .io j p d e => env[j]? = some (some d) ∧ owp d p = true ∧ d.subs p = some e
theorem cA_ok {b : Bool} {x : T} {c : CA} {v : V} (h : cA b env x = some c) (ok : Ok K A ((v, x) :: τ) σ env H) : c.good env ∧ Ok K A ((v, c.t) :: τ) σ env H := by
  unfold cA at h
  split at h
  · split at h
    · rename_i j p
      split at h
      · rename_i d hd
        split at h
        · rename_i ho
          split at h
          · rename_i e hs
            cases h
            exact ⟨⟨hd, ho, hs⟩, ok⟩
          · cases h
        · cases h
      · cases h
    · cases h
  · split at h
    · rename_i d hv
      cases h
      exact ⟨trivial, (nrm1 ok hv).1⟩
    · cases h
theorem cAs_ok {io : List Nat} : ∀ {as τ : List (V × T)} {k : Nat} {cs : List CA}, cAs io env k (as.map (·.2)) = some cs → Ok K A (as ++ τ) σ env H →
    cs.length = as.length ∧ (∀ c ∈ cs, c.good env) ∧ Ok K A ((as.map (·.1)).zip (cs.map CA.t) ++ τ) σ env H
  | [], τ, k, cs, h, ok => by cases h; exact ⟨rfl, (by intro c hc; cases hc), ok⟩
  | (v, x) :: as, τ, k, cs, h, ok => by
    rw [List.map_cons, cAs] at h
    split at h
    · rename_i c hc
      split at h
      · rename_i cs' hcs
        cases h
        obtain ⟨g, ok1⟩ := cA_ok hc ok
        obtain ⟨l, gs, ok2⟩ := cAs_ok (τ := (v, c.t) :: τ) hcs (ok1.perm List.perm_middle.symm)
        exact ⟨by rw [List.length_cons, List.length_cons, l], fun c' hc' => (List.mem_cons.mp hc').elim (fun e => e ▸ g) (gs c'), ok2.perm List.perm_middle⟩
      · cases h
    · cases h
/-- marks where parts were taken out -/
def marks : List V → List CA → EnvD → EnvD
  | _, [], e => e
  | _ :: vs, .vw _ :: cs, e => marks vs cs e
  | v :: vs, .io j p d _ :: cs, e => (marks vs cs e).set j (some (d.puts p (.raw v)))
  | [], _ :: _, e => e
theorem marks_set {x : Option D} {j : Nat} : ∀ {vs : List V} {cs : List CA} {e : EnvD}, j ∉ cs.filterMap CA.root → marks vs cs (e.set j x) = (marks vs cs e).set j x
  | _, [], e, _ => by cases ‹List V› <;> rfl
  | [], c :: _, e, _ => by cases c <;> rfl
  | v :: vs, .vw d :: cs, e, h => marks_set (vs := vs) (cs := cs) h
  | v :: vs, .io i p d w :: cs, e, h => by
    have h' : j ≠ i ∧ j ∉ cs.filterMap CA.root := by
      rw [List.filterMap_cons] at h
      simpa [CA.root] using h
    show (marks vs cs (e.set j x)).set i _ = ((marks vs cs e).set i _).set j x
    rw [marks_set h'.2, List.set_comm _ _ h'.1]
theorem marks_get {j : Nat} : ∀ {vs : List V} {cs : List CA} {e : EnvD}, j ∉ cs.filterMap CA.root → (marks vs cs e)[j]? = e[j]?
  | _, [], e, _ => by cases ‹List V› <;> rfl
  | [], c :: _, e, _ => by cases c <;> rfl
  | v :: vs, .vw d :: cs, e, h => marks_get (vs := vs) (cs := cs) h
  | v :: vs, .io i p d w :: cs, e, h => by
    have h' : j ≠ i ∧ j ∉ cs.filterMap CA.root := by
      rw [List.filterMap_cons] at h
      simpa [CA.root] using h
    show ((marks vs cs e).set i _)[j]? = _
    rw [List.getElem?_set_ne (Ne.symm h'.1), marks_get h'.2]
theorem good_set {c : CA} {j : Nat} {x : Option D} (g : c.good env) (h : c.root ≠ some j) : c.good (env.set j x) := by
  cases c with
  | vw d => trivial
  | io i p d e =>
    refine ⟨?_, g.2⟩
    rw [List.getElem?_set_ne (fun z => h (by rw [z]; rfl))]
    exact g.1
theorem outs_ok : ∀ {vs : List V} {cs : List CA} {τ : List (V × T)} {env : EnvD}, cs.length = vs.length → (∀ c ∈ cs, c.good env) → (cs.filterMap CA.root).Nodup → Ok K A (vs.zip (cs.map CA.t) ++ τ) σ env H →
    Ok K A (vs.zip ((cs.map CA.d).map .tmp) ++ τ) σ (marks vs cs env) H
  | [], [], τ, env, l, g, nd, ok => ok
  | [], _ :: _, τ, env, l, g, nd, ok => by cases l
  | _ :: _, [], τ, env, l, g, nd, ok => by cases l
  | v :: vs, .vw d :: cs, τ, env, l, g, nd, ok => by
    have ok1 : Ok K A (vs.zip (cs.map CA.t) ++ ((v, .tmp d) :: τ)) σ env H := ok.perm List.perm_middle.symm
    exact (outs_ok (by simpa using l) (fun c hc => g c (List.mem_cons_of_mem _ hc)) nd ok1).perm List.perm_middle
  | v :: vs, .io j p d e :: cs, τ, env, l, g, nd, ok => by
    obtain ⟨g1, g2, g3⟩ := g _ List.mem_cons_self
    have nd' : j ∉ cs.filterMap CA.root ∧ (cs.filterMap CA.root).Nodup := by
      rw [List.filterMap_cons] at nd
      exact List.nodup_cons.mp nd
    have ok0 : Ok K A ((v, .pl j p) :: (vs.zip (cs.map CA.t) ++ τ)) σ env H := ok
    obtain ⟨w, hw, hv⟩ : ∃ w, σ[j]? = some (some w) ∧ VAt H w p v := by
      obtain ⟨fa, f0, f2, o, ra, r0⟩ := Ok.cut (as := [(v, .pl j p)]) ok0
      exact (RpTs.of1 ra).2
    have ok1 := Ok.out (Ok.drop (as := [(v, .pl j p)]) ok0) g1 g3 g2 hw hv
    have ok2 : Ok K A (vs.zip (cs.map CA.t) ++ ((v, .tmp e) :: τ)) σ (env.set j (some (d.puts p (.raw v)))) H := ok1.perm List.perm_middle.symm
    have ok3 := outs_ok (by simpa using l) (fun c hc => good_set (g c (List.mem_cons_of_mem _ hc)) fun z => nd'.1 (List.mem_filterMap.mpr ⟨c, hc, z⟩)) nd'.2 ok2
    rw [marks_set nd'.1] at ok3
    exact ok3.perm List.perm_middle
/-- the things that came back -/
def ioT : List V → List CA → EnvD → List (V × T)
  | v :: vs, .io _ _ _ _ :: cs, some d :: e => (v, .tmp d) :: ioT vs cs e
  | _ :: vs, _ :: cs, _ :: e => ioT vs cs e
  | _, _, _ => []
theorem back_ok {Q : EnvD → Prop} : ∀ {vs : List V} {cs : List CA} {e' env : EnvD} {τ : List (V × T)}, cs.length = vs.length → (∀ c ∈ cs, c.good env) → (cs.filterMap CA.root).Nodup → cback cs e' env Q → Ok K A (ioT vs cs e' ++ τ) σ (marks vs cs env) H → ∃ env2, Q env2 ∧ Ok K A τ σ env2 H
  | [], [], e', env, τ, l, g, nd, h, ok => by
    have : ioT [] [] e' = [] := by cases e' <;> rfl
    rw [this] at ok
    exact ⟨env, by cases e' <;> exact h, ok⟩
  | [], _ :: _, e', env, τ, l, g, nd, h, ok => by cases l
  | _ :: _, [], e', env, τ, l, g, nd, h, ok => by cases l
  | v :: vs, .vw d :: cs, [], env, τ, l, g, nd, h, ok => h.elim
  | v :: vs, .vw d :: cs, x :: e', env, τ, l, g, nd, h, ok => by
    have ok' : Ok K A (ioT vs cs e' ++ τ) σ (marks vs cs env) H := by cases x <;> exact ok
    exact back_ok (by simpa using l) (fun c hc => g c (List.mem_cons_of_mem _ hc)) nd (show cback cs e' env Q by cases x <;> exact h) ok'
  | v :: vs, .io j p d e :: cs, [], env, τ, l, g, nd, h, ok => h.elim
  | v :: vs, .io j p d e :: cs, none :: e', env, τ, l, g, nd, h, ok => h.elim
  | v :: vs, .io j p d e :: cs, some d' :: e', env, τ, l, g, nd, h, ok => by
    obtain ⟨g1, g2, g3⟩ := g _ List.mem_cons_self
    have nd' : j ∉ cs.filterMap CA.root ∧ (cs.filterMap CA.root).Nodup := by
      rw [List.filterMap_cons] at nd
      exact List.nodup_cons.mp nd
    have ok1 : Ok K A ((v, .tmp d') :: (ioT vs cs e' ++ τ)) σ ((marks vs cs env).set j (some (d.puts p (.raw v)))) H := ok
    have ok2 := Ok.back ok1 ((marks_get nd'.1).trans g1) g3 g2
    rw [← marks_set nd'.1] at ok2
    exact back_ok (env := env.set j (some (d.puts p d'))) (by simpa using l) (fun c hc => good_set (g c (List.mem_cons_of_mem _ hc)) fun z => nd'.1 (List.mem_filterMap.mpr ⟨c, hc, z⟩)) nd'.2 h ok2
theorem RpE.ioT {N : Addr → Prop} : ∀ {vs : List V} {cs : List CA} {e' : EnvD} {f : List Addr}, RpE K H N e' (vs.map some) f → ∃ f', f'.Sublist f ∧ RpTs K H σ N (ioT vs cs e') f'
  | [], cs, e', f, h => ⟨[], List.nil_sublist _, by cases cs <;> cases e' <;> rfl⟩
  | v :: vs, [], e', f, h => ⟨[], List.nil_sublist _, by cases e' <;> rfl⟩
  | v :: vs, c :: cs, [], f, h => ⟨[], List.nil_sublist _, by cases c <;> rfl⟩
  | v :: vs, c :: cs, x :: e', f, h => by
    obtain ⟨u, σ', f1, f2, e1, rfl, r1, r2⟩ := h
    have e1' : u = some v ∧ σ' = vs.map some := by
      rw [List.map_cons] at e1
      exact ⟨(List.cons.inj e1).1.symm, (List.cons.inj e1).2.symm⟩
    obtain ⟨rfl, rfl⟩ := e1'
    obtain ⟨f', s, r⟩ := RpE.ioT (cs := cs) r2
    have skip : ∃ f', f'.Sublist (f1 ++ f2) ∧ RpTs K H σ N (Pd.ioT vs cs e') f' := ⟨f', s.trans (List.sublist_append_right _ _), r⟩
    cases c with
    | vw d => cases x <;> exact skip
    | io j p d e =>
      cases x with
      | none => exact skip
      | some d' => exact ⟨f1 ++ f', List.Sublist.append (List.Sublist.refl _) s, f1, f', rfl, r1, r⟩
theorem Ok.callIO {W0 : L2.WX} {io : List Nat} {S : SD} {k : T → EnvD → Prop} {W : WD} {Q : VK} {cs : List CA} (ok : Ok K A (as ++ τ) σ env H) (st : stays τ) (hc : cAs io env 0 (as.map (·.2)) = some cs) (nd : (cs.filterMap CA.root).Nodup)
    (h : S (cs.map CA.d) (fun r e' => cback cs e' env fun e2 => k (.tmp r) e2) (fun ex e' => cback cs e' env fun e2 => W ex e2)) (hW : HW K W0 A τ σ W)
    (hQ : ∀ v x env' H', Ok K A ((v, x) :: τ) σ env' H' → k x env' → Q v H') : SpD K io S (as.map (·.1)) H Q (fun cls d H' => W0 cls d σ H') := by
  obtain ⟨l, gs, ok1⟩ := cAs_ok hc ok
  have l' : cs.length = (as.map (·.1)).length := by rw [l, List.length_map]
  have ok2 := outs_ok l' gs nd ok1
  obtain ⟨fa, f0, f2, o, ra, r0⟩ := Ok.cut ok2
  have rr := RpTs.rps (by rw [List.length_map]; exact l') ra
  have ld : (cs.map CA.d).length = (as.map (·.1)).length := by rw [List.length_map]; exact l'
  -- behind the call
  have mend : ∀ {H' : Hp} {env' : EnvD} {B : Anc} {τx : List (V × T)}, B.H = H → (∀ a, B.F a ↔ a ∈ fa) → (∀ a, B.U a ↔ A.nn (f0 ++ f2) a) → tmps τx → Ok K B τx ((as.map (·.1)).map some) env' H' → Ok K A (τx ++ (ioT (as.map (·.1)) cs env' ++ τ)) σ (marks (as.map (·.1)) cs env) H' := by
    intro H' env' B τx b1 b2 b3 tm ⟨g1, g2, q⟩
    obtain ⟨g2', sub, r2⟩ := RpE.ioT (σ := σ) (cs := cs) q.en
    have mem : ∀ a, a ∈ g1 ++ g2' → a ∈ g1 ++ g2 := fun a ha => (List.mem_append.mp ha).elim (fun h => List.mem_append_left _ h) fun h => List.mem_append_right _ (sub.subset h)
    have n : ∀ a, A.nn ((g1 ++ g2') ++ f0 ++ f2) a → B.nn (g1 ++ g2) a := fun a z => by
      rcases z with z | z
      · exact .inl ((b3 a).mpr (.inl z))
      · rw [List.append_assoc] at z
        rcases List.mem_append.mp z with z | z
        · exact .inr (mem a z)
        · exact .inl ((b3 a).mpr (.inr z))
    have rt : RpTs K H' σ (A.nn ((g1 ++ g2') ++ f0 ++ f2)) (τx ++ ioT (as.map (·.1)) cs env') (g1 ++ g2') := RpTs.join (RpTs.sig tm (q.ts.congr n)) (r2.congr n)
    have t := Okk.turn (M := B.F) (as' := τx ++ ioT (as.map (·.1)) cs env') (fa' := g1 ++ g2') (H' := H') o ra r0 (fun a u e nf => q.keep a u (by rw [b1]; exact e) nf) (fun a h => (b2 a).mp h) (.inr st)
      ((List.Sublist.append (List.Sublist.refl _) sub).nodup q.nd) (fun a ha => ((q.un a (mem a ha)).2).imp (fun z => (b2 a).mp z) fun z => by rw [← b1]; exact z) rt
    rw [List.append_assoc] at t
    exact ⟨_, _, t⟩
  refine ⟨⟨H, fun a => a ∈ fa, fun a => A.nn (f0 ++ f2) a, fxOf io (as.map (·.1))⟩, cs.map CA.d, _, _, ld, rfl, ⟨[], fa, rfl, RpE.of (Rps.grow rr (Ext.refl H) fun a z => .inl ?_), by simpa using o.ndA, fun a ha => ⟨fun z => ?_, .inl (by simpa using ha)⟩, fun a u e _ => e, fun a z => ⟨?_, fun y => ?_⟩, fun q hq => ?_⟩, h, fun v H' x env' okr hk => ?_, fun H' ex cls d env' okr e w => ?_⟩
  · rcases z with z | z
    · rcases z with z | z
      · exact .inl z
      · exact .inr (by rw [List.append_assoc]; exact List.mem_append_right _ z)
    · exact .inr (by rw [List.append_assoc]; exact List.mem_append_left _ (by simpa using z))
  · have ha' : a ∈ fa := by simpa using ha
    rcases z with z | z
    · exact (o.un a (by rw [List.append_assoc]; exact List.mem_append_left _ ha')).1 z
    · have := o.nd
      rw [List.append_assoc] at this
      exact (List.nodup_append.mp this).2.2 a ha' a z rfl
  · refine o.there a ?_
    rcases z with z | z
    · exact .inl z
    · exact .inr (by rw [List.append_assoc]; exact List.mem_append_right _ z)
  · rcases z with z | z
    · exact (o.un a (by rw [List.append_assoc]; exact List.mem_append_left _ y)).1 z
    · have := o.nd
      rw [List.append_assoc] at this
      exact (List.nodup_append.mp this).2.2 a y a z rfl
  · rw [List.getElem?_map, (fxOf_mem.mp hq).2]; rfl
  · have m1 := mend (τx := [(v, .tmp x)]) rfl (fun a => Iff.rfl) (fun a => Iff.rfl) tmps.nil.cons okr
    have m2 : Ok K A (ioT (as.map (·.1)) cs (mask io 0 (as.map (·.1)).length env') ++ ((v, .tmp x) :: τ)) σ (marks (as.map (·.1)) cs env) H' := (show Ok K A ((v, .tmp x) :: (ioT (as.map (·.1)) cs (mask io 0 (as.map (·.1)).length env') ++ τ)) σ (marks (as.map (·.1)) cs env) H' from m1).perm List.perm_middle.symm
    obtain ⟨env2, hq, ok3⟩ := back_ok l' gs nd hk m2
    exact hQ v _ env2 H' ok3 hq
  · have m1 := mend (τx := []) rfl (fun a => Iff.rfl) (fun a => Iff.rfl) tmps.nil okr
    obtain ⟨env2, hq, ok3⟩ := back_ok l' gs nd w m1
    exact hW env2 H' ex cls d ok3 e hq
end
end Pd

namespace Pd
open PySem L2 PyProof.Rows
section
variable {K : PySem.W.Frag} {H : Hp} {N : Addr → Prop}
theorem rps1 {x : D} {vs : List V} (h : Rps K H N [x] vs []) : ∃ v, vs = [v] ∧ Rp K H N x v [] := by
  obtain ⟨v, vs', f1, f2, rfl, e, r1, r2⟩ := h
  obtain ⟨rfl, rfl⟩ := r2
  have e' : f1 = [] := by simpa using e.symm
  subst e'
  exact ⟨v, rfl, r1⟩
theorem rps2 {x y : D} {vs : List V} (h : Rps K H N [x, y] vs []) : ∃ v w, vs = [v, w] ∧ Rp K H N x v [] ∧ Rp K H N y w [] := by
  obtain ⟨v, vs', f1, f2, rfl, e, r1, r2⟩ := h
  have e' : f1 = [] ∧ f2 = [] := List.append_eq_nil_iff.mp e.symm
  obtain ⟨rfl, rfl⟩ := e'
  obtain ⟨w, rfl, r⟩ := rps1 r2
  exact ⟨v, w, rfl, r1, r⟩
theorem rps3 {x y z : D} {vs : List V} (h : Rps K H N [x, y, z] vs []) : ∃ v w u, vs = [v, w, u] ∧ Rp K H N x v [] ∧ Rp K H N y w [] ∧ Rp K H N z u [] := by
  obtain ⟨v, vs', f1, f2, rfl, e, r1, r2⟩ := h
  have e' : f1 = [] ∧ f2 = [] := List.append_eq_nil_iff.mp e.symm
  obtain ⟨rfl, rfl⟩ := e'
  obtain ⟨w, u, rfl, r, r'⟩ := rps2 r2
  exact ⟨v, w, u, rfl, r1, r, r'⟩
theorem lstAt {o : Bool} {xs : List D} {v : V} (h : Rp K H N (.lst o xs) v []) : ∃ a vs, v = .ref a ∧ H a = some (.lst vs) ∧ Rps K H N xs vs [] := by
  obtain ⟨a, vs, fp', e, w, l, r⟩ := h
  cases o with
  | true => exact (nomatch (show [] = a :: fp' from w))
  | false =>
    obtain ⟨_, rfl⟩ := w
    exact ⟨a, vs, e, l.2, r⟩
theorem tupAt {xs : List D} {v : V} (h : Rp K H N (.tup xs) v []) : ∃ a vs, v = .ref a ∧ H a = some (.tup vs) ∧ Rps K H N xs vs [] := by
  obtain ⟨a, vs, e, l, r⟩ := h
  exact ⟨a, vs, e, l, r⟩
/-- anything like a list -/
def seqD : D → Option (List D)
  | .lst _ xs => some xs
  | .frl false xs => some xs
  | _ => none
def tupD : D → Option (List D)
  | .tup xs => some xs
  | .frl true xs => some xs
  | _ => none
theorem seqAt {d : D} {xs : List D} {v : V} (h : Rp K H N d v []) (e : seqD d = some xs) : ∃ a vs, v = .ref a ∧ SqL K H a vs ∧ Rps K H N xs vs [] := by
  cases d with
  | lst o ys =>
    cases e
    obtain ⟨a, vs, e, l, r⟩ := lstAt h
    exact ⟨a, vs, e, .inl (.inl l), r⟩
  | frl t ys =>
    cases t with
    | true => cases e
    | false =>
      cases e
      obtain ⟨_, a, vs, e, l, r⟩ := h
      exact ⟨a, vs, e, l.sq, r⟩
  | _ => cases e
theorem tupAtK {d : D} {xs : List D} {v : V} (h : Rp K H N d v []) (e : tupD d = some xs) : ∃ a vs, v = .ref a ∧ SqT K H a vs ∧ Rps K H N xs vs [] := by
  cases d with
  | tup ys =>
    cases e
    obtain ⟨a, vs, e, l, r⟩ := tupAt h
    exact ⟨a, vs, e, .inl (.inl l), r⟩
  | frl t ys =>
    cases t with
    | false => cases e
    | true =>
      cases e
      obtain ⟨_, a, vs, e, l, r⟩ := h
      exact ⟨a, vs, e, l.sqT, r⟩
  | _ => cases e
/-- a new list of things that stand -/
theorem newLst {xs : List D} {vs : List V} {p : Addr} (r : Rps K H N xs vs []) (hp : H p = none) : Rp K (upd H p (.lst vs)) (fun a => N a ∨ a ∈ [p]) (.lst true xs) (.ref p) [p] :=
  ⟨p, vs, [], rfl, rfl, upd_same, Rps.grow r (Ext.upd hp) fun a z => z.imp id fun z => by rw [List.mem_singleton.mp z]; exact hp⟩
theorem newTup {xs : List D} {vs : List V} {p : Addr} (r : Rps K H N xs vs []) (hp : H p = none) : Rp K (upd H p (.tup vs)) (fun a => N a ∨ a ∈ []) (.tup xs) (.ref p) [] :=
  ⟨p, vs, rfl, upd_same, Rps.grow r (Ext.upd hp) fun a z => z.imp id fun z => nomatch z⟩
end
section
variable {K : PySem.W.Frag} {H : Hp} {N : Addr → Prop} {Qd : D → Prop} {Q : VK}
theorem AnsQ.int (h : AnsQ K H N Qd Q) {i : Int} (q : Qd (.int i)) : Q (.int i) H := h _ _ _ [] q (Ext.refl H) ⟨rfl, rfl⟩ (by simp) (by simp) rfl
theorem AnsQ.bl (h : AnsQ K H N Qd Q) {i : Bool} (q : Qd (.bl i)) : Q (.bl i) H := h _ _ _ [] q (Ext.refl H) ⟨rfl, rfl⟩ (by simp) (by simp) rfl
theorem AnsQ.str (h : AnsQ K H N Qd Q) {i : Str} (q : Qd (.str i)) : Q (.str i) H := h _ _ _ [] q (Ext.refl H) ⟨rfl, rfl⟩ (by simp) (by simp) rfl
theorem AnsQ.non (h : AnsQ K H N Qd Q) (q : Qd .non) : Q .non H := h _ _ _ [] q (Ext.refl H) ⟨rfl, rfl⟩ (by simp) (by simp) rfl
theorem AnsQ.old (h : AnsQ K H N Qd Q) {d : D} {v : V} (q : Qd d) (r : Rp K H N d v []) (s : isSh d = true) : Q v H := h _ _ _ [] q (Ext.refl H) (Rp.grow r (Ext.refl H) fun a z => .inl (z.elim id fun z => nomatch z)) (by simp) (by simp) (isSh_noOb d s)
theorem AnsQ.lst (h : AnsQ K H N Qd Q) {xs : List D} {vs : List V} {p : Addr} (q : Qd (.lst true xs)) (r : Rps K H N xs vs []) (s : isShs xs = true) (hp : H p = none) : Q (.ref p) (upd H p (.lst vs)) :=
  h _ _ _ [p] q (Ext.upd hp) (newLst r hp) (by simpa using hp) (by simp) (isShs_noObs xs s)
theorem AnsQ.tup (h : AnsQ K H N Qd Q) {xs : List D} {vs : List V} {p : Addr} (q : Qd (.tup xs)) (r : Rps K H N xs vs []) (s : isShs xs = true) (hp : H p = none) : Q (.ref p) (upd H p (.tup vs)) :=
  h _ _ _ [] q (Ext.upd hp) (newTup r hp) (by simp) (by simp) (isShs_noObs xs s)
end
theorem isShs_append : ∀ {a b : List D}, isShs (a ++ b) = (isShs a && isShs b) := by
  intro a b
  rw [isShs_all, isShs_all, isShs_all, List.all_append]

/-! ### + - * // % ** and so on -/
def fAdd : Fn
  | [.int i, .int j], Q => Q (.int (i + j))
  | [.str i, .str j], Q => i.length + j.length ≤ sizeLine ∧ Q (.str (i ++ j))
  | [.lst _ xs, .lst _ ys], Q => xs.length + ys.length ≤ sizeLine ∧ Q (.lst true (xs ++ ys))
  | [.tup xs, .tup ys], Q => xs ≠ [] ∧ xs.length + ys.length ≤ sizeLine ∧ Q (.tup (xs ++ ys))
  | _, _ => False
def rAdd' (K : PySem.W.Frag) : R2 := fun x y H Q => (((∃ i j, x = .int i ∧ y = .int j ∧ Q (.int (i + j)) H) ∨ (∃ i j, x = .str i ∧ y = .str j ∧ i.length + j.length ≤ sizeLine ∧ Q (.str (i ++ j)) H)) ∨ rCat x y H Q) ∨ rCatT K x y H Q
theorem op_addA {X : Cx} : OpR X (binaryOp .Add) (rAdd' X.K) := OpR.or (OpR.or (OpR.or op_add op_add_str) op_cat) op_catT
theorem snd_add {K : PySem.W.Frag} : Snd K (r2 (rAdd' K)) fAdd := by
  intro H N vs ds Qd Q r s there h hQ
  unfold fAdd at h
  split at h
  · obtain ⟨v, w, rfl, r1, r2⟩ := rps2 r
    exact ⟨v, w, rfl, .inl (.inl (.inl ⟨_, _, r1.1, r2.1, hQ.int h⟩))⟩
  · obtain ⟨v, w, rfl, r1, r2⟩ := rps2 r
    exact ⟨v, w, rfl, .inl (.inl (.inr ⟨_, _, r1.1, r2.1, h.1, hQ.str h.2⟩))⟩
  · rename_i o xs o' ys
    obtain ⟨v, w, rfl, r1, r2⟩ := rps2 r
    obtain ⟨a, us, rfl, l1, q1⟩ := lstAt r1
    obtain ⟨b, ws, rfl, l2, q2⟩ := lstAt r2
    have s1 : isShs xs = true ∧ isShs ys = true := by
      simp only [isShs, isSh, Bool.and_eq_true] at s
      exact ⟨s.1.2, s.2.1.2⟩
    refine ⟨_, _, rfl, .inl (.inr ⟨a, b, us, ws, rfl, rfl, l1, l2, by rw [← q1.length, ← q2.length]; exact h.1, fun p hp => ?_⟩)⟩
    exact hQ.lst h.2 (Rps.append q1 q2) (by rw [isShs_append, s1.1, s1.2]; rfl) hp
  · rename_i xs ys
    obtain ⟨v, w, rfl, r1, r2⟩ := rps2 r
    obtain ⟨a, us, rfl, l1, q1⟩ := tupAt r1
    obtain ⟨b, ws, rfl, l2, q2⟩ := tupAt r2
    have s1 : isShs xs = true ∧ isShs ys = true := by
      simp only [isShs, isSh, Bool.and_eq_true] at s
      exact ⟨s.1, s.2.1⟩
    refine ⟨_, _, rfl, .inr ⟨a, b, us, ws, rfl, rfl, .inl (.inl l1), .inl (.inl l2), fun z => h.1 ?_, by rw [← q1.length, ← q2.length]; exact h.2.1, fun z => ?_, fun z p hp => ?_⟩⟩
    · have := q1.length
      rw [z] at this
      exact List.eq_nil_of_length_eq_zero this
    · have z' : ys = [] := by
        have := q2.length
        rw [z] at this
        exact List.eq_nil_of_length_eq_zero this
      subst z'
      rw [List.append_nil] at h
      exact hQ.old h.2.2 r1 s1.1
    · exact hQ.tup h.2.2 (Rps.append q1 q2) (by rw [isShs_append, s1.1, s1.2]; rfl) hp
  · exact h.elim
/-- ints in, an int out -/
def fII (C : Int → Int → Prop) (g : Int → Int → Int) : Fn
  | [.int i, .int j], Q => C i j ∧ Q (.int (g i j))
  | _, _ => False
theorem snd_ii {K : PySem.W.Frag} {C : Int → Int → Prop} {g : Int → Int → Int} : Snd K (r2 (rI C fun i j => .int (g i j))) (fII C g) := by
  intro H N vs ds Qd Q r s there h hQ
  unfold fII at h
  split at h
  · obtain ⟨v, w, rfl, r1, r2⟩ := rps2 r
    exact ⟨v, w, rfl, _, _, r1.1, r2.1, h.1, hQ.int h.2⟩
  · exact h.elim
def fII0 (g : Int → Int → Int) : Fn
  | [.int i, .int j], Q => Q (.int (g i j))
  | _, _ => False
theorem snd_ii0 {K : PySem.W.Frag} {g : Int → Int → Int} : Snd K (r2 (rI0 fun i j => .int (g i j))) (fII0 g) := by
  intro H N vs ds Qd Q r s there h hQ
  unfold fII0 at h
  split at h
  · obtain ⟨v, w, rfl, r1, r2⟩ := rps2 r
    exact ⟨v, w, rfl, _, _, r1.1, r2.1, hQ.int h⟩
  · exact h.elim
abbrev fSub : Fn := fII0 fun i j => i - j
abbrev fFdiv : Fn := fII CDivW fun i j => i / j
abbrev fMod : Fn := fII (fun _ j => 0 < j) fun i j => i % j
abbrev fPow : Fn := fII CPow fun i j => i ^ j.toNat
abbrev fShl : Fn := fII CPow fun i j => i * 2 ^ j.toNat
abbrev fShr : Fn := fII (fun _ j => 0 ≤ j) fun i j => i / 2 ^ j.toNat
abbrev fAnd : Fn := fII0 fun i j => Builtin.bitAnd i j
abbrev fOr : Fn := fII0 fun i j => Builtin.bitOr i j
abbrev fXor : Fn := fII0 fun i j => Builtin.bitXor i j
/-- * : ints, a list by an int -/
def fMul : Fn
  | [.int i, .int j], Q => CMulW i j ∧ Q (.int (i * j))
  | [.lst _ xs, .int k], Q => (-(2 ^ 63) ≤ k ∧ k < 2 ^ 63) ∧ xs.length * k.toNat ≤ sizeLine ∧ Q (.lst true (List.replicate k.toNat xs).flatten)
  | _, _ => False
def rMul' : R2 := fun x y H Q => rI CMulW (fun i j => .int (i * j)) x y H Q ∨ rRep x y H Q
theorem op_mulA {X : Cx} : OpR X (binaryOp .Mult) rMul' := OpR.or op_mulW op_rep
theorem Rps.rep {K : PySem.W.Frag} {H : Hp} {N : Addr → Prop} {xs : List D} {vs : List V} (r : Rps K H N xs vs []) : ∀ n : Nat, Rps K H N (List.replicate n xs).flatten (List.replicate n vs).flatten []
  | 0 => ⟨rfl, rfl⟩
  | n + 1 => by
    rw [List.replicate_succ, List.replicate_succ, List.flatten_cons, List.flatten_cons]
    exact Rps.append (f1 := []) (f2 := []) r (Rps.rep r n)
theorem isShs_rep {xs : List D} (h : isShs xs = true) : ∀ n : Nat, isShs (List.replicate n xs).flatten = true
  | 0 => rfl
  | n + 1 => by rw [List.replicate_succ, List.flatten_cons, isShs_append, h, isShs_rep h n]; rfl
theorem snd_mul {K : PySem.W.Frag} : Snd K (r2 rMul') fMul := by
  intro H N vs ds Qd Q r s there h hQ
  unfold fMul at h
  split at h
  · obtain ⟨v, w, rfl, r1, r2⟩ := rps2 r
    exact ⟨v, w, rfl, .inl ⟨_, _, r1.1, r2.1, h.1, hQ.int h.2⟩⟩
  · rename_i o xs k
    obtain ⟨v, w, rfl, r1, r2⟩ := rps2 r
    obtain ⟨a, us, rfl, l1, q1⟩ := lstAt r1
    have s1 : isShs xs = true := by
      simp only [isShs, isSh, Bool.and_eq_true] at s
      exact s.1.2
    refine ⟨_, _, rfl, .inr ⟨a, k, us, rfl, r2.1, l1, h.1.1, h.1.2, by rw [← q1.length]; exact h.2.1, fun p hp => ?_⟩⟩
    exact hQ.lst h.2.2 (q1.rep _) (isShs_rep s1 _) hp
  · exact h.elim
def fI (g : Int → Int) : Fn
  | [.int i], Q => Q (.int (g i))
  | _, _ => False
theorem snd_i {K : PySem.W.Frag} {g : Int → Int} : Snd K (r1 (rU fun i => .int (g i))) (fI g) := by
  intro H N vs ds Qd Q r s there h hQ
  unfold fI at h
  split at h
  · obtain ⟨v, rfl, r1⟩ := rps1 r
    exact ⟨v, rfl, _, r1.1, hQ.int h⟩
  · exact h.elim
/-! ### comparisons -/
def fIB (g : Int → Int → Bool) : Fn
  | [.int i, .int j], Q => Q (.bl (g i j))
  | _, _ => False
theorem snd_ib {K : PySem.W.Frag} {g : Int → Int → Bool} : Snd K (r2 (rI0 fun i j => .bl (g i j))) (fIB g) := by
  intro H N vs ds Qd Q r s there h hQ
  unfold fIB at h
  split at h
  · obtain ⟨v, w, rfl, r1, r2⟩ := rps2 r
    exact ⟨v, w, rfl, _, _, r1.1, r2.1, hQ.bl h⟩
  · exact h.elim
/-- <, <=, >, >= of ints and of texts -/
def fOrd (g : Int → Int → Bool) (gs : Str → Str → Bool) : Fn
  | [.int i, .int j], Q => Q (.bl (g i j))
  | [.str i, .str j], Q => Q (.bl (gs i j))
  | _, _ => False
def rOrd (g : Int → Int → Bool) (gs : Str → Str → Bool) : R2 := fun x y H Q => (∃ i j, x = .int i ∧ y = .int j ∧ Q (.bl (g i j)) H) ∨ (∃ i j, x = .str i ∧ y = .str j ∧ Q (.bl (gs i j)) H)
theorem snd_ord {K : PySem.W.Frag} {g : Int → Int → Bool} {gs : Str → Str → Bool} : Snd K (r2 (rOrd g gs)) (fOrd g gs) := by
  intro H N vs ds Qd Q r s there h hQ
  unfold fOrd at h
  split at h
  · obtain ⟨v, w, rfl, r1, r2⟩ := rps2 r
    exact ⟨v, w, rfl, .inl ⟨_, _, r1.1, r2.1, hQ.bl h⟩⟩
  · obtain ⟨v, w, rfl, r1, r2⟩ := rps2 r
    exact ⟨v, w, rfl, .inr ⟨_, _, r1.1, r2.1, hQ.bl h⟩⟩
  · exact h.elim
abbrev fLt : Fn := fOrd (fun i j => decide (i < j)) fun i j => decide (i.cps.toList < j.cps.toList)
abbrev fLe : Fn := fOrd (fun i j => decide (i ≤ j)) fun i j => !decide (j.cps.toList < i.cps.toList)
abbrev fGt : Fn := fOrd (fun i j => decide (j < i)) fun i j => decide (j.cps.toList < i.cps.toList)
abbrev fGe : Fn := fOrd (fun i j => decide (j ≤ i)) fun i j => !decide (i.cps.toList < j.cps.toList)
end Pd

namespace Pd
open PySem L2 PyProof.Rows
/-! ### == -/
mutual
def toPy : D → PyData
  | .non => .none
  | .bl b => .bool b
  | .int i => .int i
  | .str x => .str x
  | .tup xs => .tuple (toPys xs)
  | .frl true xs => .tuple (toPys xs)
  | .frl false xs => .list (toPys xs)
  | .lst _ xs => .list (toPys xs)
  | .raw _ => .dict []
  | .dic _ _ _ _ => .dict []
  | .obj _ _ _ => .dict []
def toPys : List D → List PyData
  | [] => []
  | d :: ds => toPy d :: toPys ds
end
mutual
def pyOk : D → Bool
  | .tup xs => pyOks xs
  | .frl _ xs => pyOks xs
  | .lst _ xs => pyOks xs
  | .raw _ => false
  | .dic _ _ _ _ => false
  | .obj _ _ _ => false
  | .non => true
  | .bl _ => true
  | .int _ => true
  | .str _ => true
def pyOks : List D → Bool
  | [] => true
  | d :: ds => pyOk d && pyOks ds
end
theorem toPys_map : ∀ l : List D, toPys l = l.map toPy
  | [] => rfl
  | d :: ds => by rw [toPys, toPys_map ds, List.map_cons]
theorem pyOks_all : ∀ l : List D, pyOks l = l.all pyOk
  | [] => rfl
  | d :: ds => by rw [pyOks, pyOks_all ds, List.all_cons]
mutual
theorem toPy_fz : ∀ d : D, toPy (fz d) = toPy d
  | .non => rfl
  | .bl b => rfl
  | .int i => rfl
  | .str x => rfl
  | .raw u => rfl
  | .tup xs => by rw [fz, toPy, toPys_fz xs]; rfl
  | .frl true xs => by rw [fz, toPy, toPys_fz xs]; rfl
  | .frl false xs => by rw [fz, toPy, toPys_fz xs]; rfl
  | .lst b xs => by rw [fz, toPy, toPys_fz xs]; rfl
  | .dic b t ks xs => rfl
  | .obj C ns xs => rfl
theorem toPys_fz : ∀ d : List D, toPys (fzs d) = toPys d
  | [] => rfl
  | d :: ds => by rw [fzs, toPys, toPy_fz d, toPys_fz ds]; rfl
end
section
variable {K : PySem.W.Frag} {H : Hp} {N : Addr → Prop}
mutual
theorem Rp.dp : ∀ (d : D) {v : V}, pyOk d = true → Rp K H N d v [] → Dp K H v (toPy d)
  | .non, v, o, h => by rw [h.1]; exact .non
  | .bl b, v, o, h => by rw [h.1]; exact .bl b
  | .int i, v, o, h => by rw [h.1]; exact .int i
  | .str x, v, o, h => by rw [h.1]; exact .str x
  | .raw u, v, o, h => nomatch o
  | .tup xs, v, o, h => by
    obtain ⟨a, vs, rfl, l, r⟩ := tupAt h
    exact .tup (.inl (.inl l)) (Rps.dp xs o r)
  | .frl true xs, v, o, h => by
    obtain ⟨_, a, vs, rfl, l, r⟩ := h
    exact .tup l.sqT (Rps.dp xs o r)
  | .frl false xs, v, o, h => by
    obtain ⟨_, a, vs, rfl, l, r⟩ := h
    exact .lst l.sq (Rps.dp xs o r)
  | .lst b xs, v, o, h => by
    obtain ⟨a, vs, rfl, l, r⟩ := lstAt h
    exact .lst (.inl (.inl l)) (Rps.dp xs o r)
  | .dic b t ks xs, v, o, h => nomatch o
  | .obj C ns xs, v, o, h => nomatch o
theorem Rps.dp : ∀ (d : List D) {v : List V}, pyOks d = true → Rps K H N d v [] → DpAll K H v (toPys d)
  | [], v, o, h => by rw [h.1]; exact .nil
  | d :: ds, v, o, h => by
    obtain ⟨u, vs', f1, f2, rfl, e, r1, r2⟩ := h
    obtain ⟨rfl, rfl⟩ := List.append_eq_nil_iff.mp e.symm
    rw [pyOks, Bool.and_eq_true] at o
    exact .cons (Rp.dp d o.1 r1) (Rps.dp ds o.2 r2)
end
end
/-- == -/
def eqD : D → D → Bool := fun x y => PyData.eqv (toPy x) (toPy y)
def fEqG (g : Bool → Bool) : Fn
  | [.int i, .int j], Q => Q (.bl (g (decide (i = j))))
  | [.str i, .str j], Q => Q (.bl (g (decide (i = j))))
  | [.bl i, .bl j], Q => Q (.bl (g (decide (i = j))))
  | [.non, .non], Q => Q (.bl (g true))
  | [.int _, .str _], Q => Q (.bl (g false))
  | [.str _, .int _], Q => Q (.bl (g false))
  | [.non, .int _], Q => Q (.bl (g false))
  | [.int _, .non], Q => Q (.bl (g false))
  | [.non, .str _], Q => Q (.bl (g false))
  | [.str _, .non], Q => Q (.bl (g false))
  | [x, y], Q => pyOk x = true ∧ pyOk y = true ∧ SeqAt.shaped (toPy x) = true ∧ SeqAt.shaped (toPy y) = true ∧ Q (.bl (g (eqD x y)))
  | _, _ => False
abbrev fEq : Fn := fEqG id
abbrev fNe : Fn := fEqG (!·)
def rEqG (K : PySem.W.Frag) (g : Bool → Bool) : R2 := fun x y H Q => (scal x y = true ∧ Q (.bl (g (decide (x = y)))) H) ∨ ∃ d e, Dp K H x d ∧ Dp K H y e ∧ SeqAt.shaped d = true ∧ SeqAt.shaped e = true ∧ Q (.bl (g (PyData.eqv d e))) H
theorem op_eqA {X : Cx} (hu : X.A.units + 64 < cLine) : OpR X (compareOp .Eq) (rEqG X.K id) := OpR.or op_eq (op_eqD hu)
theorem op_neA {X : Cx} (hu : X.A.units + 64 < cLine) : OpR X (compareOp .NotEq) (rEqG X.K (!·)) := OpR.or op_ne (op_neD hu)
theorem snd_eq {K : PySem.W.Frag} {g : Bool → Bool} : Snd K (r2 (rEqG K g)) (fEqG g) := by
  intro H N vs ds Qd Q r s there h hQ
  unfold fEqG at h
  split at h
  all_goals first
    | exact h.elim
    | (obtain ⟨v, w, rfl, r1, r2⟩ := rps2 r
       first
         | (obtain ⟨rfl, _⟩ := r1
            obtain ⟨rfl, _⟩ := r2
            refine ⟨_, _, rfl, .inl ⟨rfl, ?_⟩⟩
            refine hQ.bl ?_
            simpa using h)
         | exact ⟨v, w, rfl, .inr ⟨_, _, Rp.dp _ h.1 r1, Rp.dp _ h.2.1 r2, h.2.2.1, h.2.2.2.1, hQ.bl h.2.2.2.2⟩⟩)
/-! ### is None, is not None -/
def fIsN (g : Bool → Bool) : Fn
  | [.raw _, _], _ => False
  | [x, .non], Q => Q (.bl (g (decide (x = .non))))
  | _, _ => False
def rIsN (g : Bool → Bool) : R2 := fun x y H Q => y = .non ∧ Q (.bl (g (decide (x = .non)))) H
theorem op_isNA {X : Cx} : OpR X (compareOp .Is) (rIsN id) := op_isN
theorem op_notNA {X : Cx} : OpR X (compareOp .IsNot) (rIsN (!·)) := op_notN
theorem snd_isN {K : PySem.W.Frag} {g : Bool → Bool} : Snd K (r2 (rIsN g)) (fIsN g) := by
  intro H N vs ds Qd Q r s there h hQ
  unfold fIsN at h
  split at h
  · exact h.elim
  · rename_i x hx
    obtain ⟨v, w, rfl, r1, r2⟩ := rps2 r
    refine ⟨v, w, rfl, r2.1, ?_⟩
    have e : decide (v = .non) = decide (x = .non) := by
      cases x with
      | non => rw [r1.1]; rfl
      | bl b => rw [r1.1]; rfl
      | int b => rw [r1.1]; rfl
      | str b => rw [r1.1]; rfl
      | raw b => exact (hx b rfl).elim
      | tup xs => obtain ⟨a, vs, rfl, _⟩ := r1; rfl
      | frl t xs => obtain ⟨_, a, vs, rfl, _⟩ := r1; rfl
      | lst t xs => obtain ⟨a, vs, _, rfl, _⟩ := r1; rfl
      | dic t kt ks xs => obtain ⟨a, vs, _, rfl, _⟩ := r1; rfl
      | obj C ns xs => obtain ⟨a, vs, _, _, rfl, _⟩ := r1; rfl
    rw [e]
    exact hQ.bl h
  · exact h.elim
/-! ### in -/
def atomD : D → Bool
  | .non => true
  | .bl _ => true
  | .int _ => true
  | .str _ => true
  | _ => false
def eqA : D → D → Bool
  | .non, .non => true
  | .bl a, .bl b => a == b
  | .bl a, .int b => (if a then 1 else 0) == b
  | .int a, .bl b => a == (if b then 1 else 0)
  | .int a, .int b => a == b
  | .str a, .str b => a == b
  | _, _ => false
def inD (x : D) (xs : List D) : Bool := xs.any fun y => eqA y x
def anySeq : D → Option (List D)
  | .lst _ xs => some xs
  | .frl _ xs => some xs
  | .tup xs => some xs
  | _ => none
def kOk : Nat → D → Bool
  | 0, .int _ => true
  | 0, .str _ => true
  | 1, .tup xs => xs.all fun x => match x with | .int _ => true | .str _ => true | _ => false
  | _, _ => false
def fIn (g : Bool → Bool) : Fn
  | [.str x, .str y], Q => if x.length = 1 then Q (.bl (g (decide ((x.cps.getD 0 0) ∈ y.cps.toList)))) else Q (.bl (g (!(Builtin.Str.occurrences y x 0 y.length 1).isEmpty)))
  | [k, .dic _ t ks _], Q => kOk t k = true ∧ Q (.bl (g (lkI ks k).isSome))
  | [x, y], Q => match anySeq y with
    | some ys => atomD x = true ∧ ys.all atomD = true ∧ Q (.bl (g (inD x ys)))
    | none => False
  | _, _ => False
def rDIn (g : Bool → Bool) : R2 := fun y x H Q => ∃ a o, x = .ref a ∧ DGet H a y o ∧ Q (.bl (g o.isSome)) H
theorem op_dIn {X : Cx} (hu : X.A.units + 1 < cLine) : OpR X (compareOp .In) (rDIn id) := by
  intro pins s σ H x y v u Q I rx ry h
  obtain ⟨a, o, rfl, g, q⟩ := h
  obtain rfl : u = Value.ref a := ry
  exact d_in hu I g rx fun s' I' => ⟨.bl _, H, I', rfl, q⟩
theorem op_dNotIn {X : Cx} (hu : X.A.units + 1 < cLine) : OpR X (compareOp .NotIn) (rDIn (!·)) := by
  intro pins s σ H x y v u Q I rx ry h
  obtain ⟨a, o, rfl, g, q⟩ := h
  obtain rfl : u = Value.ref a := ry
  exact d_notIn hu I g rx fun s' I' => ⟨.bl _, H, I', rfl, q⟩
def rInA (K : PySem.W.Frag) (g : Bool → Bool) : R2 := fun x y H Q => (((∃ (c : Nat) (z : Str), x = .str ⟨#[c]⟩ ∧ y = .str z ∧ Q (.bl (g (decide (c ∈ z.cps.toList)))) H) ∨ (∃ i j, x = .str i ∧ y = .str j ∧ Q (.bl (g (!(Builtin.Str.occurrences j i 0 j.length 1).isEmpty))) H)) ∨
  (∃ p xs, y = .ref p ∧ (SqL K H p xs ∨ SqT K H p xs) ∧ flatV x = true ∧ xs.all flatV = true ∧ Q (.bl (g (inV x xs))) H)) ∨ rDIn g x y H Q
theorem op_inA {X : Cx} (hu : X.A.units + 1 < cLine) : OpR X (compareOp .In) (rInA X.K id) := OpR.or (OpR.or (OpR.or op_in_sign op_in_str) (fun pins s σ H x y v u Q I rx ry h => op_in_seq pins s σ H x y v u Q I rx ry (by
  obtain ⟨p, xs, h1, h2, h3, h4, h5⟩ := h
  exact ⟨p, xs, h1, h2, h3, h4, h5⟩))) (op_dIn hu)
theorem op_notInA {X : Cx} (hu : X.A.units + 1 < cLine) : OpR X (compareOp .NotIn) (rInA X.K (!·)) := OpR.or (OpR.or (OpR.or op_notIn_sign op_notIn_str) (fun pins s σ H x y v u Q I rx ry h => op_notIn_seq pins s σ H x y v u Q I rx ry (by
  obtain ⟨p, xs, h1, h2, h3, h4, h5⟩ := h
  exact ⟨p, xs, h1, h2, h3, h4, h5⟩))) (op_dNotIn hu)
section
variable {K : PySem.W.Frag} {H : Hp} {N : Addr → Prop}
theorem Rp.flat {d : D} {v : V} {fp : List Addr} (h : Rp K H N d v fp) (e : atomD d = true) : flatV v = true := by
  cases d with
  | non => rw [h.1]; rfl
  | bl b => rw [h.1]; rfl
  | int b => rw [h.1]; rfl
  | str b => rw [h.1]; rfl
  | _ => cases e
theorem Rp.eqA {d e : D} {v w : V} {fp fp' : List Addr} (h : Rp K H N d v fp) (h' : Rp K H N e w fp') (o : atomD d = true) (o' : atomD e = true) : eqV v w = Pd.eqA d e := by
  cases d with
  | non => rw [h.1]; cases e with
    | non => rw [h'.1]; rfl
    | bl b => rw [h'.1]; rfl
    | int b => rw [h'.1]; rfl
    | str b => rw [h'.1]; rfl
    | _ => cases o'
  | bl b => rw [h.1]; cases e with
    | non => rw [h'.1]; rfl
    | bl b => rw [h'.1]; rfl
    | int b => rw [h'.1]; rfl
    | str b => rw [h'.1]; rfl
    | _ => cases o'
  | int b => rw [h.1]; cases e with
    | non => rw [h'.1]; rfl
    | bl b => rw [h'.1]; rfl
    | int b => rw [h'.1]; rfl
    | str b => rw [h'.1]; rfl
    | _ => cases o'
  | str b => rw [h.1]; cases e with
    | non => rw [h'.1]; rfl
    | bl b => rw [h'.1]; rfl
    | int b => rw [h'.1]; rfl
    | str b => rw [h'.1]; rfl
    | _ => cases o'
  | _ => cases o
theorem Rps.inD {x : D} {v : V} (h : Rp K H N x v []) (o : atomD x = true) : ∀ {ds : List D} {vs : List V}, Rps K H N ds vs [] → ds.all atomD = true → vs.all flatV = true ∧ inV v vs = Pd.inD x ds
  | [], _, r, _ => by rw [r.1]; exact ⟨rfl, rfl⟩
  | d :: ds, _, r, e => by
    obtain ⟨u, vs', f1, f2, rfl, e', r1, r2⟩ := r
    obtain ⟨rfl, rfl⟩ := List.append_eq_nil_iff.mp e'.symm
    rw [List.all_cons, Bool.and_eq_true] at e
    obtain ⟨h1, h2⟩ := Rps.inD h o r2 e.2
    refine ⟨by rw [List.all_cons, r1.flat e.1, h1]; rfl, ?_⟩
    unfold inV at h2 ⊢
    unfold Pd.inD at h2 ⊢
    rw [List.any_cons, List.any_cons, h2, Rp.eqA r1 h e.1 o]
theorem anySeqAt {d : D} {xs : List D} {v : V} (h : Rp K H N d v []) (e : anySeq d = some xs) : ∃ a vs, v = .ref a ∧ (SqL K H a vs ∨ SqT K H a vs) ∧ Rps K H N xs vs [] := by
  cases d with
  | lst o ys =>
    cases e
    obtain ⟨a, vs, e, l, r⟩ := lstAt h
    exact ⟨a, vs, e, .inl (.inl (.inl l)), r⟩
  | tup ys =>
    cases e
    obtain ⟨a, vs, e, l, r⟩ := tupAt h
    exact ⟨a, vs, e, .inr (.inl (.inl l)), r⟩
  | frl t ys =>
    cases e
    obtain ⟨_, a, vs, e, l, r⟩ := h
    cases t with
    | true => exact ⟨a, vs, e, .inr l.sqT, r⟩
    | false => exact ⟨a, vs, e, .inl l.sq, r⟩
  | _ => cases e
theorem kD_inj {a b : Key} (h : kD a = kD b) : a = b := by
  cases a <;> cases b <;> cases h <;> rfl
theorem tD_inj {a b : List Key} (h : tD a = tD b) : a = b := by
  unfold tD at h
  injection h with h
  induction a generalizing b with
  | nil => cases b <;> first | rfl | cases h
  | cons x a ih =>
    cases b with
    | nil => cases h
    | cons y b =>
      rw [List.map_cons, List.map_cons] at h
      injection h with h1 h2
      rw [kD_inj h1, ih h2]
theorem valV_zip {κ : Type} [DecidableEq κ] {f : κ → D} (inj : ∀ a b, f a = f b → a = b) (k : κ) : ∀ (kk : List κ) (vs : List V), valV (kk.zip vs) k = lk (kk.map f) vs (f k)
  | [], vs => by rw [List.zip_nil_left, valV_nil]; rfl
  | a :: kk, [] => by
    rw [List.zip_nil_right, valV_nil]
    unfold lk
    cases lkI ((a :: kk).map f) (f k) <;> rfl
  | a :: kk, v :: vs => by
    rw [List.zip_cons_cons, List.map_cons, lk_cons]
    by_cases e : a = k
    · subst e
      rw [valV_pos rfl, if_pos rfl]
    · rw [valV_neg e, if_neg (fun z => e (inj _ _ z)), valV_zip inj k kk vs]
theorem key0 {k : D} {y : V} {fp : List Addr} (h : Rp K H N k y fp) (e : kOk 0 k = true) : ∃ q : Key, k = kD q ∧ y = kV q := by
  cases k with
  | int i => exact ⟨.inl i, rfl, h.1⟩
  | str i => exact ⟨.inr i, rfl, h.1⟩
  | _ => cases e
theorem keys1 : ∀ {xs : List D} {us : List V} {fp : List Addr}, Rps K H N xs us fp → (xs.all fun x => match x with | .int _ => true | .str _ => true | _ => false) = true → ∃ q : List Key, xs = q.map kD ∧ us = q.map kV
  | [], us, fp, h, _ => ⟨[], rfl, h.1⟩
  | x :: xs, us, fp, h, e => by
    obtain ⟨u, us', f1, f2, rfl, _, r1, r2⟩ := h
    rw [List.all_cons, Bool.and_eq_true] at e
    obtain ⟨q, rfl, rfl⟩ := keys1 r2 e.2
    cases x with
    | int i => exact ⟨.inl i :: q, rfl, by rw [r1.1]; rfl⟩
    | str i => exact ⟨.inr i :: q, rfl, by rw [r1.1]; rfl⟩
    | _ => cases e.1
theorem key1 {k : D} {y : V} {fp : List Addr} (h : Rp K H N k y fp) (e : kOk 1 k = true) : ∃ (q : List Key) (b : Addr), k = tD q ∧ y = .ref b ∧ H b = some (.tup (q.map kV)) := by
  cases k with
  | tup xs =>
    obtain ⟨a, vs, rfl, l, r⟩ := h
    obtain ⟨q, rfl, rfl⟩ := keys1 r e
    exact ⟨q, a, rfl, rfl, l⟩
  | _ => cases e
theorem dicGet {o : Bool} {t : Nat} {ks xs : List D} {k : D} {v y : V} {fp fp' : List Addr} (h : Rp K H N (.dic o t ks xs) v fp) (hk : Rp K H N k y fp') (e : kOk t k = true) : ∃ a vs f, v = .ref a ∧ DGet H a y (lk ks vs k) ∧ Rps K H N xs vs f ∧ (fp = [] → f = []) ∧ ks.length = vs.length := by
  obtain ⟨a, vs, f, rfl, w, l, r⟩ := h
  have hf : fp = [] → f = [] := fun z => by
    cases o with
    | true => rw [z] at w; exact (nomatch (show [] = a :: f from w))
    | false => exact w.2
  obtain ⟨ho, rd, d⟩ : ∃ ho, Rd H a ho ∧ DO t ks vs ho := by
    cases o with
    | true => obtain ⟨ho, l1, l2⟩ := l; exact ⟨ho, .inl l1, l2⟩
    | false => obtain ⟨_, ho, l1, l2⟩ := l; exact ⟨ho, .inl l1, l2⟩
  refine ⟨a, vs, f, rfl, ?_, r, hf, DO_len d⟩
  rcases d with ⟨rfl, kk, rfl, hl, rfl⟩ | ⟨rfl, kk, rfl, hl, rfl⟩
  · obtain ⟨q, rfl, rfl⟩ := key0 hk e
    exact .inl ⟨_, q, rd, rfl, (valV_zip (fun _ _ => kD_inj) q kk vs).symm⟩
  · obtain ⟨q, b, rfl, rfl, hb⟩ := key1 hk e
    exact .inr ⟨_, q, b, rd, rfl, hb, (valV_zip (fun _ _ => tD_inj) q kk vs).symm⟩
theorem lk_some {ks : List D} {vs : List V} {k : D} (h : ks.length = vs.length) : (lk ks vs k).isSome = (lkI ks k).isSome := by
  unfold lk
  cases e : lkI ks k with
  | none => rfl
  | some i =>
    have := (List.getElem?_eq_some_iff.mp (lkI_get e)).1
    show (vs[i]?).isSome = true
    rw [List.getElem?_eq_getElem (h ▸ this)]
    rfl
end
theorem getD_one {x : Str} (h : x.length = 1) : x = ⟨#[x.cps.getD 0 0]⟩ := by
  obtain ⟨⟨l⟩⟩ := x
  have h' : l.length = 1 := h
  match l, h' with
  | [a], _ => rfl
theorem snd_in {K : PySem.W.Frag} {g : Bool → Bool} : Snd K (r2 (rInA K g)) (fIn g) := by
  intro H N vs ds Qd Q r s there h hQ
  unfold fIn at h
  split at h
  · rename_i x y
    obtain ⟨v, w, rfl, r1, r2⟩ := rps2 r
    refine ⟨v, w, rfl, ?_⟩
    by_cases hl : x.length = 1
    · rw [if_pos hl] at h
      refine .inl (.inl (.inl ⟨x.cps.getD 0 0, y, ?_, r2.1, hQ.bl h⟩))
      rw [r1.1, ← getD_one hl]
    · rw [if_neg hl] at h
      exact .inl (.inl (.inr ⟨x, y, r1.1, r2.1, hQ.bl h⟩))
  · rename_i k o t ks xs
    obtain ⟨v, w, rfl, r1, r2⟩ := rps2 r
    obtain ⟨a, us, f, rfl, dg, rr, _, hl⟩ := dicGet r2 r1 h.1
    exact ⟨_, _, rfl, .inr ⟨a, _, rfl, dg, hQ.bl (by rw [lk_some hl]; exact h.2)⟩⟩
  · rename_i x y _ _
    obtain ⟨v, w, rfl, r1, r2⟩ := rps2 r
    split at h
    · rename_i ys hy
      obtain ⟨a, us, rfl, sq, rr⟩ := anySeqAt r2 hy
      obtain ⟨h1, h2⟩ := Rps.inD r1 h.1 rr h.2.1
      exact ⟨_, _, rfl, .inl (.inr ⟨a, us, rfl, sq, r1.flat h.1, h1, hQ.bl (by rw [h2]; exact h.2.2)⟩)⟩
    · exact h.elim
  · exact h.elim
/-! ### len, int, abs, max, min, list, tuple -/
def fLen : Fn
  | [.str x], Q => x.length ≤ sizeLine ∧ Q (.int x.length)
  | [.dic _ 0 ks _], Q => Q (.int ks.length)
  | [x], Q => match anySeq x with
    | some xs => Q (.int xs.length)
    | none => False
  | _, _ => False
def rLenA (K : PySem.W.Frag) : List V → Hp → VK → Prop := fun xs H Q => ((∃ p ys, xs = [.ref p] ∧ (SqL K H p ys ∨ SqT K H p ys) ∧ Q (.int ys.length) H) ∨ ∃ z, xs = [.str z] ∧ z.length ≤ sizeLine ∧ Q (.int z.length) H) ∨ ∃ a kvs, xs = [V.ref a] ∧ Rd H a (.dK kvs) ∧ Q (.int kvs.length) H
theorem call_lenR {X : Cx} : CallR X (.builtin "len") (fun xs H Q => ∃ a kvs, xs = [V.ref a] ∧ Rd H a (.dK kvs) ∧ Q (.int kvs.length) H) := by
  intro pins s σ H xs us Q I r h
  obtain ⟨a, kvs, rfl, ha, q⟩ := h
  obtain ⟨u, rfl, ru⟩ := vals1 r
  obtain rfl : u = Value.ref a := ru
  exact d_len I ha fun t s' I' => ⟨.int _, H, I', ⟨t, rfl⟩, q⟩
theorem call_lenA {X : Cx} : CallR X (.builtin "len") (rLenA X.K) := CallR.or (CallR.or call_len_seq call_len_str) call_lenR
theorem snd_len {K : PySem.W.Frag} : Snd K (rLenA K) fLen := by
  intro H N vs ds Qd Q r s there h hQ
  unfold fLen at h
  split at h
  · obtain ⟨v, rfl, r1⟩ := rps1 r
    exact .inl (.inr ⟨_, by rw [r1.1], h.1, hQ.int h.2⟩)
  · rename_i o ks xs
    obtain ⟨v, rfl, r1⟩ := rps1 r
    obtain ⟨a, us, f, rfl, w, l, rr⟩ := r1
    obtain ⟨ho, rd, d⟩ : ∃ ho, Rd H a ho ∧ DO 0 ks us ho := by
      cases o with
      | true => obtain ⟨ho, l1, l2⟩ := l; exact ⟨ho, .inl l1, l2⟩
      | false => obtain ⟨_, ho, l1, l2⟩ := l; exact ⟨ho, .inl l1, l2⟩
    rcases d with ⟨_, kk, rfl, hl, rfl⟩ | ⟨z, _⟩
    · refine .inr ⟨a, _, rfl, rd, hQ.int ?_⟩
      have : (kk.zip us).length = (kk.map kD).length := by rw [List.length_zip, List.length_map]; omega
      rw [this]; exact h
    · cases z
  · rename_i x _ _
    obtain ⟨v, rfl, r1⟩ := rps1 r
    split at h
    · rename_i xs hx
      obtain ⟨a, us, rfl, sq, rr⟩ := anySeqAt r1 hx
      exact .inl (.inl ⟨a, us, rfl, sq, hQ.int (by rw [← rr.length]; exact h)⟩)
    · exact h.elim
  · exact h.elim
def fInt : Fn
  | [.int i], Q => Q (.int i)
  | [.bl k], Q => Q (.int (if k then 1 else 0))
  | [.str a], Q => match PySem.intText? a with
    | some n => a.length ≤ 640 ∧ Q (.int n)
    | none => False
  | _, _ => False
def rInt' : List V → Hp → VK → Prop := fun xs H Q => ((∃ i, xs = [.int i] ∧ Q (.int i) H) ∨ ∃ k, xs = [.bl k] ∧ Q (.int (if k then 1 else 0)) H) ∨ ∃ a n, xs = [.str a] ∧ PySem.intText? a = some n ∧ a.length ≤ 640 ∧ Q (.int n) H
theorem call_intA {X : Cx} : CallR X (.type "int") rInt' := CallR.or call_int1 call_int_str
theorem snd_int {K : PySem.W.Frag} : Snd K rInt' fInt := by
  intro H N vs ds Qd Q r s there h hQ
  unfold fInt at h
  split at h
  · obtain ⟨v, rfl, r1⟩ := rps1 r
    exact .inl (.inl ⟨_, by rw [r1.1], hQ.int h⟩)
  · obtain ⟨v, rfl, r1⟩ := rps1 r
    exact .inl (.inr ⟨_, by rw [r1.1], hQ.int h⟩)
  · obtain ⟨v, rfl, r1⟩ := rps1 r
    split at h
    · rename_i n hn
      exact .inr ⟨_, n, by rw [r1.1], hn, h.1, hQ.int h.2⟩
    · exact h.elim
  · exact h.elim
def fAbs : Fn := fI fun n => if n < 0 then -n else n
theorem snd_abs {K : PySem.W.Frag} : Snd K (fun xs H Q => ∃ i, xs = [.int i] ∧ Q (.int (if i < 0 then -i else i)) H) fAbs := by
  intro H N vs ds Qd Q r s there h hQ
  unfold fAbs fI at h
  split at h
  · obtain ⟨v, rfl, r1⟩ := rps1 r
    exact ⟨_, by rw [r1.1], hQ.int h⟩
  · exact h.elim
/-- max, min: of two ints, of a list of ints -/
def intsD : List D → Option (List Int)
  | [] => some []
  | .int i :: ds => (intsD ds).map (i :: ·)
  | _ :: _ => none
theorem intsD_of {K : PySem.W.Frag} {H : Hp} {N : Addr → Prop} : ∀ {ds : List D} {vs : List V} {fp : List Addr} {ns : List Int}, Rps K H N ds vs fp → intsD ds = some ns → vs = ns.map V.int
  | [], vs, fp, ns, h, e => by cases e; exact h.1
  | d :: ds, vs, fp, ns, h, e => by
    obtain ⟨u, us, f1, f2, rfl, _, r1, r2⟩ := h
    cases d with
    | int i =>
      cases q : intsD ds with
      | none => rw [intsD, q] at e; cases e
      | some ms =>
        rw [intsD, q] at e
        cases e
        rw [intsD_of r2 q, r1.1]
        rfl
    | _ => cases e
def fMM (g : Int → Int → Int) (le : Int → Int → Prop) : Fn
  | [.int i, .int j], Q => Q (.int (g i j))
  | [x], Q => match seqD x with
    | some xs => (match intsD xs with
      | some ns => 0 < ns.length ∧ ∀ m, m ∈ ns → (∀ y, y ∈ ns → le y m) → Q (.int m)
      | none => False)
    | none => False
  | _, _ => False
def rMM (K : PySem.W.Frag) (g : Int → Int → Int) (le : Int → Int → Prop) : List V → Hp → VK → Prop := fun xs H Q => (∃ i j, xs = [.int i, .int j] ∧ Q (.int (g i j)) H) ∨
  ∃ (a : Addr) (ns : List Int), xs = [V.ref a] ∧ SqL K H a (ns.map V.int) ∧ 0 < ns.length ∧ ∀ m, m ∈ ns → (∀ y, y ∈ ns → le y m) → Q (.int m) H
theorem call_maxA {X : Cx} (hc : X.calm = true) : CallR X (.builtin "max") (rMM X.K (fun i j => if j > i then j else i) fun y m => y ≤ m) := CallR.or (call_max2 hc) (cr_max hc)
theorem call_minA {X : Cx} (hc : X.calm = true) : CallR X (.builtin "min") (rMM X.K (fun i j => if j < i then j else i) fun y m => m ≤ y) := CallR.or (call_min2 hc) (cr_min hc)
theorem snd_mm {K : PySem.W.Frag} {g : Int → Int → Int} {le : Int → Int → Prop} : Snd K (rMM K g le) (fMM g le) := by
  intro H N vs ds Qd Q r s there h hQ
  unfold fMM at h
  split at h
  · obtain ⟨v, w, rfl, r1, r2⟩ := rps2 r
    exact .inl ⟨_, _, by rw [r1.1, r2.1], hQ.int h⟩
  · obtain ⟨v, rfl, r1⟩ := rps1 r
    split at h
    · rename_i xs hx
      obtain ⟨a, us, rfl, sq, rr⟩ := seqAt r1 hx
      split at h
      · rename_i ns hn
        rw [intsD_of rr hn] at sq
        exact .inr ⟨a, ns, rfl, sq, h.1, fun m h1 h2 => hQ.int (h.2 m h1 h2)⟩
      · exact h.elim
    · exact h.elim
  · exact h.elim
def fSum : Fn
  | [x], Q => match seqD x with
    | some xs => (match intsD xs with
      | some ns => Q (.int ns.sum)
      | none => False)
    | none => False
  | _, _ => False
theorem snd_sum {K : PySem.W.Frag} : Snd K (rSum K) fSum := by
  intro H N vs ds Qd Q r s there h hQ
  unfold fSum at h
  split at h
  · obtain ⟨v, rfl, r1⟩ := rps1 r
    split at h
    · rename_i xs hx
      obtain ⟨a, us, rfl, sq, rr⟩ := seqAt r1 hx
      split at h
      · rename_i ns hn
        rw [intsD_of rr hn] at sq
        exact ⟨a, ns, rfl, sq, hQ.int h⟩
      · exact h.elim
    · exact h.elim
  · exact h.elim
def blsD : List D → Option (List Bool)
  | [] => some []
  | .bl i :: ds => (blsD ds).map (i :: ·)
  | _ :: _ => none
theorem blsD_of {K : PySem.W.Frag} {H : Hp} {N : Addr → Prop} : ∀ {ds : List D} {vs : List V} {fp : List Addr} {ns : List Bool}, Rps K H N ds vs fp → blsD ds = some ns → vs = ns.map V.bl
  | [], vs, fp, ns, h, e => by cases e; exact h.1
  | d :: ds, vs, fp, ns, h, e => by
    obtain ⟨u, us, f1, f2, rfl, _, r1, r2⟩ := h
    cases d with
    | bl i =>
      cases q : blsD ds with
      | none => rw [blsD, q] at e; cases e
      | some ms =>
        rw [blsD, q] at e
        cases e
        rw [blsD_of r2 q, r1.1]
        rfl
    | _ => cases e
def fBls (g : List Bool → Bool) : Fn
  | [x], Q => match seqD x with
    | some xs => (match blsD xs with
      | some ns => Q (.bl (g ns))
      | none => False)
    | none => False
  | _, _ => False
theorem snd_bls {K : PySem.W.Frag} {g : List Bool → Bool} : Snd K (fun vs H Q => ∃ (a : Addr) (bs : List Bool), vs = [V.ref a] ∧ SqL K H a (bs.map V.bl) ∧ Q (.bl (g bs)) H) (fBls g) := by
  intro H N vs ds Qd Q r s there h hQ
  unfold fBls at h
  split at h
  · obtain ⟨v, rfl, r1⟩ := rps1 r
    split at h
    · rename_i xs hx
      obtain ⟨a, us, rfl, sq, rr⟩ := seqAt r1 hx
      split at h
      · rename_i ns hn
        rw [blsD_of rr hn] at sq
        exact ⟨a, ns, rfl, sq, hQ.bl h⟩
      · exact h.elim
    · exact h.elim
  · exact h.elim
abbrev fAny : Fn := fBls fun bs => bs.any id
abbrev fAll : Fn := fBls fun bs => bs.all id
theorem snd_any {K : PySem.W.Frag} : Snd K (rAny K) fAny := snd_bls
theorem snd_all {K : PySem.W.Frag} : Snd K (rAll K) fAll := snd_bls
/-- list(..), tuple(..) of a list or a tuple -/
def fListOf : Fn
  | [x], Q => match anySeq x with
    | some xs => Q (.lst true xs)
    | none => False
  | _, _ => False
theorem isShs_seq {x : D} {xs : List D} (h : anySeq x = some xs) (s : isShs [x] = true) : isShs xs = true := by
  cases x with
  | lst o ys =>
    cases h
    simp only [isShs, isSh, Bool.and_eq_true] at s
    exact s.1.2
  | tup ys =>
    cases h
    simp only [isShs, isSh, Bool.and_eq_true] at s
    exact s.1
  | frl t ys =>
    cases h
    simp only [isShs, isSh, Bool.and_eq_true] at s
    exact s.1
  | _ => cases h
theorem snd_listOf {K : PySem.W.Frag} : Snd K (fun xs H Q => ∃ p ys, xs = [.ref p] ∧ (SqL K H p ys ∨ SqT K H p ys) ∧ ∀ l, H l = none → Q (.ref l) (upd H l (.lst ys))) fListOf := by
  intro H N vs ds Qd Q r s there h hQ
  unfold fListOf at h
  split at h
  · rename_i x
    obtain ⟨v, rfl, r1⟩ := rps1 r
    split at h
    · rename_i xs hx
      obtain ⟨a, us, rfl, sq, rr⟩ := anySeqAt r1 hx
      exact ⟨a, us, rfl, sq, fun l hl => hQ.lst h rr (isShs_seq hx s) hl⟩
    · exact h.elim
  · exact h.elim
def fTupOf : Fn
  | [.tup xs], Q => Q (.tup xs)
  | [.frl true xs], Q => Q (.frl true xs)
  | [x], Q => match seqD x with
    | some xs => Q (.tup xs)
    | none => False
  | _, _ => False
theorem seq_any {x : D} {xs : List D} (h : seqD x = some xs) : anySeq x = some xs := by
  cases x with
  | lst o ys => cases h; rfl
  | frl t ys => cases t <;> cases h; rfl
  | _ => cases h
theorem snd_tupOf {K : PySem.W.Frag} : Snd K (fun xs H Q => ∃ p ys, xs = [.ref p] ∧ ((SqL K H p ys ∧ ∀ l, H l = none → Q (.ref l) (upd H l (.tup ys))) ∨ (SqT K H p ys ∧ Q (.ref p) H))) fTupOf := by
  intro H N vs ds Qd Q r s there h hQ
  have s1 : ∀ {x}, ds = [x] → isSh x = true := fun e => by
    subst e
    simp only [isShs, Bool.and_true] at s
    exact s
  unfold fTupOf at h
  split at h
  · obtain ⟨v, rfl, r1⟩ := rps1 r
    obtain ⟨a, us, rfl, l, rr⟩ := tupAt r1
    exact ⟨a, us, rfl, .inr ⟨.inl (.inl l), hQ.old h r1 (s1 rfl)⟩⟩
  · obtain ⟨v, rfl, r1⟩ := rps1 r
    obtain ⟨_, a, us, rfl, l, rr⟩ := id r1
    exact ⟨a, us, rfl, .inr ⟨l.sqT, hQ.old h r1 (s1 rfl)⟩⟩
  · rename_i x _ _
    obtain ⟨v, rfl, r1⟩ := rps1 r
    split at h
    · rename_i xs hx
      obtain ⟨a, us, rfl, sq, rr⟩ := seqAt r1 hx
      exact ⟨a, us, rfl, .inl ⟨sq, fun l hl => hQ.tup h rr (isShs_seq (seq_any hx) s) hl⟩⟩
    · exact h.elim
  · exact h.elim
/-! ### isinstance -/
def tyD : D → Option String
  | .non => some "NoneType"
  | .bl _ => some "bool"
  | .int _ => some "int"
  | .str _ => some "str"
  | .tup _ => some "tuple"
  | .frl true _ => some "tuple"
  | .frl false _ => some "list"
  | .lst _ _ => some "list"
  | .dic _ _ _ _ => some "dict"
  | _ => none
def isiB (t c : String) : Bool := t == c || (t == "bool" && c == "int")
def tyNames : List String := ["NoneType", "bool", "int", "str", "tuple", "list", "dict"]
def clsNames : List String := ["bool", "int", "str", "tuple", "list", "dict"]
theorem kit_all : (tyNames.all fun t => clsNames.all fun c => decide (kitB t c = some (isiB t c))) = true := by decide +kernel
theorem kit_is {t c : String} (ht : t ∈ tyNames) (hc : c ∈ clsNames) : kitB t c = some (isiB t c) := by
  have h := kit_all
  rw [List.all_eq_true] at h
  have h2 := h t ht
  rw [List.all_eq_true] at h2
  exact of_decide_eq_true (h2 c hc)
theorem tyD_mem {d : D} {t : String} (h : tyD d = some t) : t ∈ tyNames := by
  cases d with
  | frl b xs => cases b <;> cases h <;> decide
  | _ => cases h <;> decide
theorem tyX_of {K : PySem.W.Frag} {H : Hp} {N : Addr → Prop} {d : D} {v : V} {fp : List Addr} {t : String} (h : Rp K H N d v fp) (e : tyD d = some t) : TyX K H v (.type t) := by
  cases d with
  | non => cases e; rw [h.1]; exact .base .non
  | bl b => cases e; rw [h.1]; exact .base (.bl _)
  | int b => cases e; rw [h.1]; exact .base (.int _)
  | str b => cases e; rw [h.1]; exact .base (.str _)
  | raw b => cases e
  | obj C ns vs => cases e
  | tup xs =>
    cases e
    obtain ⟨a, vs, rfl, l, r⟩ := h
    exact .base (.tup l)
  | lst o xs =>
    cases e
    obtain ⟨a, vs, fp', rfl, w, l, r⟩ := h
    cases o with
    | true => exact .base (.lst l)
    | false => exact .base (.lst l.2)
  | frl b xs =>
    obtain ⟨_, a, vs, rfl, l, r⟩ := h
    cases b with
    | true =>
      cases e
      rcases l with ⟨o, l⟩ | ⟨o, its, n, l1, l2, _⟩
      · exact .fTuple l
      · exact .kTuple l1 l2
    | false =>
      cases e
      rcases l with ⟨o, l⟩ | ⟨o, its, n, l1, l2, _⟩
      · exact .base (.frz l)
      · exact .kList l1 l2
  | dic o t ks xs =>
    cases e
    obtain ⟨a, vs, fp', rfl, w, l, r⟩ := h
    obtain ⟨ho, rd, d⟩ : ∃ ho, H a = some ho ∧ DO t ks vs ho := by
      cases o with
      | true => obtain ⟨ho, l1, l2⟩ := l; exact ⟨ho, l1, l2⟩
      | false => obtain ⟨_, ho, l1, l2⟩ := l; exact ⟨ho, l1, l2⟩
    rcases d with ⟨rfl, kk, rfl, hl, rfl⟩ | ⟨rfl, kk, rfl, hl, rfl⟩
    · exact .base (.dK rd)
    · exact .base (.dT rd)
/-- isinstance(x, T) -/
def fIsi : Fn
  | [x, .raw (.ty c)], Q => c ∈ clsNames ∧ (match tyD x with
    | some t => Q (.bl (isiB t c))
    | none => False)
  | _, _ => False
theorem snd_isi {K : PySem.W.Frag} : Snd K (rIsi K) fIsi := by
  intro H N vs ds Qd Q r s there h hQ
  unfold fIsi at h
  split at h
  · rename_i x c
    obtain ⟨v, w, rfl, r1, r2⟩ := rps2 r
    obtain ⟨hc, h⟩ := h
    split at h
    · rename_i t ht
      exact ⟨v, w, _, _, _, rfl, by rw [r2.1]; exact .ty c, tyX_of r1 ht, kit_ty (kit_is (tyD_mem ht) hc), hQ.bl h⟩
    · exact h.elim
  · exact h.elim
end Pd

namespace Pd
open PySem L2 PyProof.Rows
/-! ### list comprehensions -/
def wipeD (env : EnvD) : List Nat → EnvD
  | [] => env
  | v :: vs => (wipeD env vs).set v none
/-- the slots vs as they were in e -/
def unw : List Nat → EnvD → EnvD → EnvD
  | [], _, e' => e'
  | i :: vs, e, e' => (unw vs e e').set i (e[i]?.join)
theorem wipe_get {σ : St} {j : Nat} : ∀ {vs : List Nat}, (wipe σ vs)[j]? = if j ∈ vs then σ[j]?.map fun _ => none else σ[j]?
  | [] => by simp [wipe]
  | v :: vs => by
    unfold wipe
    rw [List.getElem?_set]
    by_cases h : v = j
    · subst h
      rw [if_pos rfl, wipe_length, if_pos (List.mem_cons_self)]
      by_cases l : v < σ.length
      · rw [if_pos l, List.getElem?_eq_getElem l]; rfl
      · rw [if_neg l, List.getElem?_eq_none (Nat.le_of_not_lt l)]; rfl
    · rw [if_neg h, wipe_get]
      have : (j ∈ v :: vs) ↔ j ∈ vs := by
        rw [List.mem_cons]
        exact ⟨fun z => z.elim (fun e => absurd e.symm h) id, .inr⟩
      simp only [this]
theorem wipe_set {σ : St} {i : Nat} {x : Option V} {vs : List Nat} (h : i ∈ vs) : wipe (σ.set i x) vs = wipe σ vs := by
  refine List.ext_getElem? fun j => ?_
  rw [wipe_get, wipe_get, List.getElem?_set]
  by_cases e : i = j
  · subst e
    rw [if_pos rfl, if_pos h, if_pos h]
    by_cases l : i < σ.length
    · rw [if_pos l, List.getElem?_eq_getElem l]; rfl
    · rw [if_neg l, List.getElem?_eq_none (Nat.le_of_not_lt l)]
  · rw [if_neg e]
theorem wipe_wipe {σ : St} {vs : List Nat} : wipe (wipe σ vs) vs = wipe σ vs := by
  refine List.ext_getElem? fun j => ?_
  rw [wipe_get]
  by_cases h : j ∈ vs
  · rw [if_pos h, wipe_get, if_pos h]
    cases σ[j]? <;> rfl
  · rw [if_neg h]
section
variable {K : PySem.W.Frag} {A : Anc} {H H' : Hp} {N : Addr → Prop} {σ : St} {env env' : EnvD} {τ τ' τx : List (V × T)} {f1 f2 : List Addr} {vs : List Nat}
theorem RpE.sig1 : ∀ {env : EnvD} {σ : St} {f : List Addr} {i : Nat} {x : Option V}, RpE K H N env σ f → (∀ d, env[i]? = some (some d) → False) → RpE K H N env (σ.set i x) f
  | [], σ, f, i, x, h, hn => by
    rw [h.1]; exact ⟨rfl, h.2⟩
  | d :: env, σ, f, 0, x, h, hn => by
    obtain ⟨v, σ', f1, f2, rfl, rfl, r1, r2⟩ := h
    cases d with
    | none => exact ⟨x, σ', f1, f2, rfl, rfl, r1, r2⟩
    | some d => exact (hn d rfl).elim
  | d :: env, σ, f, i + 1, x, h, hn => by
    obtain ⟨v, σ', f1, f2, rfl, rfl, r1, r2⟩ := h
    exact ⟨v, _, f1, f2, rfl, rfl, r1, RpE.sig1 r2 fun d e => hn d e⟩
/-- the slots' own values don't matter where nothing is told -/
theorem RpE.sigs {env : EnvD} : ∀ {vs : List Nat} {σ : St} {f : List Addr}, RpE K H N env σ f → (∀ i ∈ vs, ∀ d, env[i]? = some (some d) → False) → RpE K H N env (wipe σ vs) f
  | [], σ, f, h, hn => h
  | v :: vs, σ, f, h, hn => RpE.sig1 (RpE.sigs h fun i hi => hn i (List.mem_cons_of_mem _ hi)) (hn v List.mem_cons_self)
theorem RpE.ext2 : ∀ {env : EnvD} {σ σ' : St} {f : List Addr}, σ.length = σ'.length → (∀ (i : Nat) d, env[i]? = some (some d) → σ[i]? = σ'[i]?) → RpE K H N env σ f → RpE K H N env σ' f
  | [], σ, σ', f, hl, he, h => by
    rw [h.1] at hl
    exact ⟨List.length_eq_zero_iff.mp hl.symm, h.2⟩
  | d :: env, σ, [], f, hl, he, h => by
    obtain ⟨v, σ1, f1, f2, rfl, rfl, r1, r2⟩ := h
    cases hl
  | d :: env, σ, u :: σ', f, hl, he, h => by
    obtain ⟨v, σ1, f1, f2, rfl, rfl, r1, r2⟩ := h
    refine ⟨u, σ', f1, f2, rfl, rfl, ?_, RpE.ext2 (by simpa using hl) (fun i d e => he (i + 1) d e) r2⟩
    cases d with
    | none => exact r1
    | some d =>
      have := he 0 d rfl
      have e : v = u := by simpa using this
      rw [← e]; exact r1
theorem Ok.wipes : ∀ {vs : List Nat}, Ok K A τ σ env H → Ok K A τ σ (wipeD env vs) H
  | [], ok => ok
  | v :: vs, ok => Ok.forget (Ok.wipes ok)
theorem wipeD_get {env : EnvD} {j : Nat} : ∀ {vs : List Nat}, j ∈ vs → ∀ d, (wipeD env vs)[j]? = some (some d) → False
  | v :: vs, h, d, e => by
    unfold wipeD at e
    rw [List.getElem?_set] at e
    by_cases z : v = j
    · rw [if_pos z] at e
      split at e <;> cases e
    · rw [if_neg z] at e
      exact wipeD_get ((List.mem_cons.mp h).resolve_left fun y => z y.symm) d e
theorem wipeD_len {env : EnvD} : ∀ {vs : List Nat}, (wipeD env vs).length = env.length
  | [] => rfl
  | v :: vs => by unfold wipeD; rw [List.length_set, wipeD_len]
theorem Ok.len (ok : Ok K A τ σ env H) : env.length = σ.length := by
  obtain ⟨f1, f2, o⟩ := ok
  exact o.en.len
/-- a mark is laid -/
theorem Ok.mark {i : Nat} {v : V} (ok : Ok K A τ σ env H) (hv : σ[i]? = some (some v)) : Ok K A τ σ (env.set i (some (.raw v))) H := by
  have hl := ok.len
  have h : i < env.length := by rw [hl]; exact (List.getElem?_eq_some_iff.mp hv).1
  obtain ⟨f1, f2, o⟩ := ok.forget (i := i)
  have h' : i < (env.set i none).length := by simpa using h
  obtain ⟨u, g1, gm, g2, q1, q2, q3, q4⟩ := RpE.get o.en (show (env.set i none)[i]? = some none by rw [List.getElem?_set_self h])
  have z : gm = [] := q3
  subst z
  have ne := q4 (d' := some (.raw v)) (v' := some v) (fm' := []) ⟨rfl, rfl⟩
  rw [list_set_self hv, List.set_set] at ne
  exact ⟨f1, f2, o.ts, by rw [q2] at ne ⊢; exact ne, o.nd, o.un, o.keep, o.anc, o.fix⟩
/-- a slot's value goes to the temporaries, the frame's slot is forgotten; and back -/
theorem Ok.lift : ∀ {vs : List Nat} {τ : List (V × T)} {env : EnvD}, Ok K A τ σ env H → ∃ τ0 : List (V × T), tmps τ0 ∧ Ok K A (τ0 ++ τ) σ (wipeD env vs) H ∧
    ∀ (τx τy : List (V × T)) (env' : EnvD) (H' : Hp), Ok K A (τx ++ (τ0 ++ τy)) σ env' H' → Ok K A (τx ++ τy) σ (unw vs env env') H'
  | [], τ, env, ok => ⟨[], tmps.nil, ok, fun τx τy env' H' ok' => ok'⟩
  | i :: vs, τ, env, ok => by
    obtain ⟨τ0, tm, ok1, back⟩ := Ok.lift (vs := vs) ok
    cases he : (wipeD env vs)[i]? with
    | none => exact ⟨τ0, tm, ok1.forget, fun τx τy env' H' ok' => by
        have ok2 := back τx τy env' H' ok'
        unfold unw
        have l : env.length ≤ i := by rw [← wipeD_len (vs := vs)]; exact List.getElem?_eq_none_iff.mp he
        rw [List.getElem?_eq_none l]
        exact ok2.forget⟩
    | some d =>
      cases d with
      | none => exact ⟨τ0, tm, ok1.forget, fun τx τy env' H' ok' => by
          have ok2 := back τx τy env' H' ok'
          unfold unw
          by_cases hi : i ∈ vs
          · -- the slot is given back already
            have key : ∀ {vs : List Nat} {e e' : EnvD}, i ∈ vs → e.length = e'.length → (unw vs e e')[i]? = e[i]? := by
              intro vs
              induction vs with
              | nil => intro e e' h _; cases h
              | cons j vs ih =>
                intro e e' h l
                unfold unw
                rw [List.getElem?_set]
                by_cases z : j = i
                · subst z
                  rw [if_pos rfl]
                  have ul : ∀ {vs : List Nat} {e e' : EnvD}, (unw vs e e').length = e'.length := by
                    intro vs
                    induction vs with
                    | nil => intro e e'; rfl
                    | cons k vs ih => intro e e'; unfold unw; rw [List.length_set, ih]
                  rw [ul, ← l]
                  by_cases q : j < e.length
                  · rw [if_pos q, List.getElem?_eq_getElem q]; rfl
                  · rw [if_neg q, List.getElem?_eq_none (Nat.le_of_not_lt q)]
                · rw [if_neg z]
                  exact ih ((List.mem_cons.mp h).resolve_left fun y => z y.symm) l
            have l2 : env.length = env'.length := by rw [ok.len, ← ok'.len]
            have g := key (e := env) (e' := env') hi l2
            have s : (unw vs env env').set i (env[i]?.join) = unw vs env env' := by
              refine List.ext_getElem? fun j => ?_
              rw [List.getElem?_set]
              by_cases z : i = j
              · subst z
                rw [if_pos rfl, g]
                have ul : i < env.length := by rw [← wipeD_len (vs := vs)]; exact (List.getElem?_eq_some_iff.mp he).1
                have ul2 : i < (unw vs env env').length := by
                  have := g
                  rw [List.getElem?_eq_getElem ul] at this
                  exact (List.getElem?_eq_some_iff.mp this).1
                rw [if_pos ul2, List.getElem?_eq_getElem ul]; rfl
              · rw [if_neg z]
            rw [s]
            exact ok2
          · have h0 : env[i]? = some none := by
              have : ∀ {vs : List Nat}, i ∉ vs → (wipeD env vs)[i]? = env[i]? := by
                intro vs
                induction vs with
                | nil => intro _; rfl
                | cons j vs ih =>
                  intro h
                  unfold wipeD
                  rw [List.getElem?_set_ne (fun z => h (by rw [z]; exact List.mem_cons_self))]
                  exact ih fun y => h (List.mem_cons_of_mem _ y)
              rw [← this hi]; exact he
            rw [h0]
            exact ok2.forget⟩
      | some d =>
        obtain ⟨w, hw⟩ : ∃ w, σ[i]? = some (some w) := by
          obtain ⟨f1, f2, o⟩ := id ok1
          exact RpE.at' o.en he
        have ok2 := Ok.out ok1 he (p := []) (e := d) rfl rfl hw rfl
        have hi : i ∉ vs := fun hi => wipeD_get hi d he
        have he0 : env[i]? = some (some d) := by
          have : ∀ {vs : List Nat}, i ∉ vs → (wipeD env vs)[i]? = env[i]? := by
            intro vs
            induction vs with
            | nil => intro _; rfl
            | cons j vs ih =>
              intro h
              unfold wipeD
              rw [List.getElem?_set_ne (fun z => h (by rw [z]; exact List.mem_cons_self))]
              exact ih fun y => h (List.mem_cons_of_mem _ y)
          rw [← this hi]; exact he
        refine ⟨(w, .tmp d) :: τ0, tm.cons, ?_, fun τx τy env' H' ok' => ?_⟩
        · have ok3 := ok2.forget (i := i)
          rw [List.set_set] at ok3
          exact ok3
        · have ok3 : Ok K A ((w, .tmp d) :: (τx ++ (τ0 ++ τy))) σ env' H' := ok'.perm List.perm_middle
          have ok4 := ok3.mark (i := i) hw
          have hl : i < env'.length := by rw [ok'.len]; exact (List.getElem?_eq_some_iff.mp hw).1
          have ok5 := Ok.inn ok4 (j := i) (p := []) (d := .raw w) (List.getElem?_set_self hl) rfl rfl
          have ok6 := back τx τy _ H' ok5
          have e : unw (i :: vs) env env' = unw vs env ((env'.set i (some (.raw w))).set i (some d)) := by
            show (unw vs env env').set i (env[i]?.join) = _
            rw [he0, List.set_set]
            show (unw vs env env').set i (some d) = unw vs env (env'.set i (some d))
            have key : ∀ {vs : List Nat} {e e' : EnvD} {x : Option D}, i ∉ vs → (unw vs e e').set i x = unw vs e (e'.set i x) := by
              intro vs
              induction vs with
              | nil => intro e e' x _; rfl
              | cons j vs ih =>
                intro e e' x h
                unfold unw
                have hj : j ≠ i := fun z => h (by rw [z]; exact List.mem_cons_self)
                rw [List.set_comm _ _ hj, ih fun y => h (List.mem_cons_of_mem _ y)]
            exact key hi
          rw [e]
          exact ok6
/-- what lies within a comprehension: its own ground -/
theorem Okk.enter (o : Okk K A τ σ env H f1 f2) (st : stays τ) (hn : ∀ i ∈ vs, ∀ d, env[i]? = some (some d) → False) :
    Ok K ⟨H, fun a => a ∈ f2, A.nn f1, []⟩ [] (wipe σ vs) env H ∧
    ∀ (τx : List (V × T)) (env' : EnvD) (H' : Hp), tmps τx → (∀ i ∈ vs, ∀ d, env'[i]? = some (some d) → False) → Ok K ⟨H, fun a => a ∈ f2, A.nn f1, []⟩ τx (wipe σ vs) env' H' → Ok K A (τx ++ τ) σ env' H' := by
  have nd := List.nodup_append.mp o.nd
  have nn : ∀ a, A.nn (f1 ++ f2) a ↔ A.nn f1 a ∨ a ∈ f2 := fun a => by
    unfold Anc.nn
    rw [List.mem_append, or_assoc]
  refine ⟨⟨[], f2, rfl, (RpE.sigs o.en hn).congr fun a z => ?_, by simpa using nd.2.1, fun a ha => ⟨fun z => ?_, .inl (by simpa using ha)⟩, fun a u e _ => e, fun a z => ⟨o.there a ((nn a).mpr (.inl z)), fun y => ?_⟩, fun _ z => (nomatch z)⟩, fun τx env' H' tm hn' ok' => ?_⟩
  · rcases z with z | z
    · exact (nn a).mpr (.inl z)
    · exact (nn a).mpr (.inr (by simpa using z))
  · have ha' : a ∈ f2 := by simpa using ha
    rcases z with z | z
    · exact (o.un a (List.mem_append_right _ ha')).1 z
    · exact nd.2.2 a z a ha' rfl
  · have y' : a ∈ f2 := y
    rcases z with z | z
    · exact (o.un a (List.mem_append_right _ y')).1 z
    · exact nd.2.2 a z a y' rfl
  · obtain ⟨g1, g2, q⟩ := ok'
    have n1 : ∀ a, A.nn (g1 ++ f1 ++ g2) a → (A.nn f1 a) ∨ a ∈ g1 ++ g2 := fun a z => by
      rcases z with z | z
      · exact .inl (.inl z)
      · simp only [List.mem_append] at z ⊢
        rcases z with (z | z) | z
        · exact .inr (.inl z)
        · exact .inl (.inr z)
        · exact .inr (.inr z)
    have fr : ∀ a ∈ g1 ++ g2, a ∈ f2 ∨ H a = none := fun a ha => (q.un a ha).2
    have sep : ∀ a ∈ g1 ++ g2, ¬ A.nn f1 a := fun a ha => (q.un a ha).1
    refine ⟨g1 ++ f1, g2, RpTs.join (RpTs.sig tm (q.ts.congr fun a z => n1 a z)) (RpTs.frame (M := fun a => a ∈ f2) (fun a u e nf => q.keep a u e nf) (fun a h => ⟨RpE.mut o.en a h, (nn a).mpr (.inr h)⟩) (fun a z => ?_) (fun a ha hm => nd.2.2 a ha a hm rfl) (.inr st) o.ts),
      RpE.ext2 (wipe_length σ vs) (fun i d e => ?_) (q.en.congr fun a z => n1 a z), ?_, fun a ha => ?_, fun a u e nf => q.keep a u (o.keep a u e nf) fun z => ?_, o.anc, o.fix⟩
    · rcases n1 a z with z | z
      · exact .inl ((nn a).mpr (.inl z))
      · exact (fr a z).imp (fun z => (nn a).mpr (.inr z)) id
    · rw [wipe_get, if_neg fun hi => hn' i hi d e]
    · have p : (g1 ++ f1 ++ g2).Perm (f1 ++ (g1 ++ g2)) := by
        refine List.perm_iff_count.mpr fun a => ?_
        simp only [List.count_append]
        omega
      refine p.nodup_iff.mpr (List.nodup_append.mpr ⟨nd.1, q.nd, fun a ha b hb e => ?_⟩)
      subst e
      exact sep a hb (.inr ha)
    · have ha' : a ∈ f1 ∨ a ∈ g1 ++ g2 := by
        simp only [List.mem_append] at ha ⊢
        rcases ha with (z | z) | z
        · exact .inr (.inl z)
        · exact .inl z
        · exact .inr (.inr z)
      rcases ha' with z | z
      · exact o.un a (List.mem_append_left _ z)
      · rcases fr a z with z | z
        · exact o.un a (List.mem_append_right _ z)
        · exact o.fresh z
    · have z' : a ∈ f2 := z
      rcases (o.un a (List.mem_append_right _ z')).2 with y | y
      · exact nf y
      · rw [e] at y; cases y
/-- the own slots are forgotten -/
theorem Ok.wiped (ok : Ok K A τ σ env H) (tm : tmps τ) (hf : A.fx = []) : Ok K A τ (wipe σ vs) (wipeD env vs) H := by
  obtain ⟨f1, f2, o⟩ := Ok.wipes (vs := vs) ok
  exact ⟨f1, f2, RpTs.sig tm o.ts, RpE.sigs o.en fun i hi d e => wipeD_get hi d e, o.nd, o.un, o.keep, o.anc, by rw [hf]; intro q hq; cases hq⟩
/-- something is laid at the end of a list that is a temporary -/
theorem Ok.push1 {y : V} {d : D} {p : Addr} {xs : List D} (ok : Ok K A ((y, .tmp d) :: (.ref p, .tmp (.lst true xs)) :: τ) σ env H) (st : stays τ) :
    ∃ vs, H p = some (.lst vs) ∧ xs.length = vs.length ∧ Ok K A ((.ref p, .tmp (.lst true (xs ++ [d]))) :: τ) σ env (upd H p (.lst (vs ++ [y]))) := by
  obtain ⟨fa, f0, f2, o, ra, r0⟩ := Ok.cut (as := [(y, .tmp d), (.ref p, .tmp (.lst true xs))]) ok
  obtain ⟨fd, fl, rfl, rd, rl⟩ := id ra
  have rl' := RpTs.of1 rl
  obtain ⟨a, vs, fp', ea, ow, la, rr⟩ := rl'
  cases ea
  have ow' : fl = p :: fp' := ow
  subst ow'
  have la' : H p = some (.lst vs) := la
  refine ⟨vs, la', rr.length, ?_⟩
  have nd := o.ndA
  have nda := List.nodup_append.mp nd
  have nac : p ∉ fp' := (List.nodup_cons.mp nda.2.1).1
  have nad : p ∉ fd := fun h => nda.2.2 p h p List.mem_cons_self rfl
  have k : ∀ b u, H b = some u → ¬ (b = p) → upd H p (.lst (vs ++ [y])) b = some u := fun b u e n => by rw [upd_ne n]; exact e
  have mm : ∀ b, b = p → Mut (H b) ∧ A.nn (fd ++ p :: fp' ++ f0 ++ f2) b := fun b e => by
    subst e
    exact ⟨by rw [la']; trivial, .inr (by simp)⟩
  have sub : ∀ b, b ∈ (p :: (fp' ++ fd)) → b ∈ fd ++ p :: fp' := fun b hb => by
    simp only [List.mem_cons, List.mem_append] at hb ⊢
    rcases hb with z | z | z
    · exact .inr (.inl z)
    · exact .inr (.inr z)
    · exact .inl z
  have n : ∀ b, A.nn ((p :: (fp' ++ fd)) ++ f0 ++ f2) b → A.nn (fd ++ p :: fp' ++ f0 ++ f2) b ∨ H b = none := fun b z => .inl (z.imp id fun z => by
    rw [List.append_assoc] at z ⊢
    rcases List.mem_append.mp z with z | z
    · exact List.mem_append_left _ (sub b z)
    · exact List.mem_append_right _ z)
  have t := Okk.turn (M := fun b => b = p) (as' := [(.ref p, .tmp (.lst true (xs ++ [d])))]) (fa' := p :: (fp' ++ fd)) (H' := upd H p (.lst (vs ++ [y]))) o ra r0 k (fun b e => by subst e; simp) (.inr st)
    (List.nodup_cons.mpr ⟨fun h => (List.mem_append.mp h).elim nac nad, List.nodup_append.mpr ⟨(List.nodup_cons.mp nda.2.1).2, nda.1, fun b hb c hc e => nda.2.2 c hc b (List.mem_cons_of_mem _ hb) e.symm⟩⟩)
    (fun b hb => .inl (sub b hb)) (RpTs.one ?_)
  · exact ⟨_, _, t⟩
  · refine ⟨p, vs ++ [y], fp' ++ fd, rfl, rfl, upd_same, ?_⟩
    have r1 := Rps.frame (M := fun b => b = p) k mm n xs (fun b hb e => nac (e ▸ hb)) rr
    have r2 := Rp.frame (M := fun b => b = p) k mm n d (fun b hb e => nad (e ▸ hb)) rd
    have r3 := Rps.append r1 (Rps.cons r2 Rps.nil)
    rwa [List.append_nil] at r3
end
/-- a target within a comprehension: it stores to the block's own slots -/
structure PGV (X : Cx) (vs : List Nat) (tg : Expr) (g : TGD) : Prop where
  ex : ∃ t : TG, PG X tg t ∧ ∀ (A : Anc) (τ : List (V × T)) (σ : St) (env : EnvD) (H : Hp) (v : V) (d : D) (Q : EnvD → Prop) (R : St → Hp → Prop),
    Ok X.K A ((v, .tmp d) :: τ) σ env H → tmps τ → A.fx = [] → g d env Q → (∀ σ' env' H', Ok X.K A τ σ' env' H' → wipe σ' vs = wipe σ vs → Q env' → R σ' H') → t v σ H R
structure PGsV (X : Cx) (vs : List Nat) (tg : List Expr) (gs : List TGD) : Prop where
  ex : ∃ t : TGs, PGs X tg t ∧ ∀ (A : Anc) (τ : List (V × T)) (σ : St) (env : EnvD) (H : Hp) (us : List V) (ds : List D) (Q : EnvD → Prop) (R : St → Hp → Prop), ds.length = us.length →
    Ok X.K A (us.zip (ds.map .tmp) ++ τ) σ env H → tmps τ → A.fx = [] → gTupD.go gs ds env Q → (∀ σ' env' H', Ok X.K A τ σ' env' H' → wipe σ' vs = wipe σ vs → Q env' → R σ' H') → t us σ H R
section
variable {X : Cx} {vs : List Nat}
theorem pgv_name {i : Nat} {x : Str} {pos : Pos} (hN : X.N.Nodup) (hi : X.N[i]? = some x) (hx : Loc X.env.scope x) (hv : i ∈ vs := by decide) (hf : X.fn x = true ∨ X.env.scope.names.lookup x = some .local := by first | exact .inl rfl | exact .inr rfl | assumption) : PGV X vs (.Name x pos) (gNm i) :=
  ⟨_, pg_name hN hi hx hf, fun A τ σ env H v d Q R ok tm fx h hR => hR _ _ H (ok.set tm fun q hq e => by rw [fx] at hq; cases hq) (wipe_set hv) h⟩
theorem pgsv_nil : PGsV X vs [] [] := ⟨_, pgs_nil, fun A τ σ env H us ds Q R l ok tm fx h hR => by
  cases ds with
  | nil =>
    cases us with
    | nil => exact ⟨rfl, hR σ env H ok rfl h⟩
    | cons _ _ => cases l
  | cons _ _ => exact h.elim⟩
theorem pgsv_cons {e : Expr} {es : List Expr} {g : TGD} {gs : List TGD} (h1 : PGV X vs e g) (h2 : PGsV X vs es gs) (hs : (assignEach (e :: es) X.env).map (·.2) = assign e X.env :: (assignEach es X.env).map (·.2) := by rfl) : PGsV X vs (e :: es) (g :: gs) := ⟨by
  obtain ⟨t1, p1, q1⟩ := h1.ex
  obtain ⟨t2, p2, q2⟩ := h2.ex
  refine ⟨_, pgs_cons p1 p2 hs, fun A τ σ env H us ds Q R l ok tm fx h hR => ?_⟩
  cases ds with
  | nil => exact h.elim
  | cons d ds =>
    cases us with
    | nil => cases l
    | cons v us =>
      refine ⟨v, us, rfl, ?_⟩
      have tm' : tmps (us.zip (ds.map T.tmp) ++ τ) := fun x hx => by
        rcases List.mem_append.mp hx with hx | hx
        · have := (List.of_mem_zip hx).2
          obtain ⟨d', _, e⟩ := List.mem_map.mp this
          exact ⟨d', e.symm⟩
        · exact tm x hx
      exact q1 A _ σ env H v d _ _ ok tm' fx h fun σ' env' H' ok' w' h' => q2 A τ σ' env' H' us ds Q R (by simpa using l) ok' tm fx h' fun σ2 env2 H2 ok2 w2 h2 => hR σ2 env2 H2 ok2 (w2.trans w') h2⟩
theorem pgv_tup {es : List Expr} {pos : Pos} {k n : Nat} {gs : List TGD} (hc : X.calm = true) (h : PGsV X vs es gs) (hl : gs.length = n) (hn : (assignEach es X.env).length = n := by rfl) (hst : (assignEach es X.env).findIdx? (·.1) = none := by rfl) : PGV X vs (.Tuple es k pos) (gTupD gs) := ⟨by
  obtain ⟨t, p, q⟩ := h.ex
  refine ⟨_, pg_tup hc p hn hst, fun A τ σ env H v d Q R ok tm fx h hR => ?_⟩
  cases d with
  | tup ds =>
    obtain ⟨a, us, ev, sq, l, ok'⟩ := ok.tup
    exact ⟨a, us, ev, sq, by rw [← l, h.1, hl], q A τ σ env H us ds Q R l ok' tm fx h.2 hR⟩
  | frl t ds =>
    cases t with
    | false => exact (show False from h).elim
    | true =>
      have h : ds.length = gs.length ∧ gTupD.go gs ds env Q := h
      obtain ⟨a, us, ev, sq, l, ok'⟩ := ok.ktup
      exact ⟨a, us, ev, sq, by rw [← l, h.1, hl], q A τ σ env H us ds Q R l ok' tm fx h.2 hR⟩
  | _ => exact (show False from h).elim⟩
/-- the tests of a comprehension -/
structure PTV (X : Cx) (m : Bool) (ifs : List Expr) (tt : TTD) : Prop where
  ex : ∀ (W0 : L2.WX), Takes X W0 → ∃ t : TT, PTs X ifs t ∧ ∀ (A : Anc) (τ : List (V × T)) (σ : St) (env : EnvD) (H : Hp) (Q : Bool → EnvD → Prop) (W : WD) (R : Bool → Hp → Prop),
    Ok X.K A τ σ env H → (m = true → stays τ) → HW X.K W0 A τ σ W → tt env Q W → (∀ b H' env', Ok X.K A τ σ env' H' → Q b env' → R b H') → t σ H R
def dYes : TTD := fun env Q _ => Q true env
theorem ptv_nil : PTV X false [] dYes := ⟨fun W0 tk => ⟨_, pts_nil, fun A τ σ env H Q W R ok _ _ h hR => hR true H env ok h⟩⟩
theorem ptv_one {c : Expr} {m : Bool} {tt : TTD} (h : PTD X m c tt) : PTV X m [c] tt := ⟨fun W0 tk => by
  obtain ⟨t, p, q⟩ := h.ex W0 tk
  exact ⟨t, pts_one p, q⟩⟩
def noW : WD := fun _ _ => False
/-- over the items that are left: what was gathered, the frame -/
def lcD (vs : List Nat) (g : TGD) (tt : TTD) (te : TD) (Q : List D → EnvD → Prop) : List D → List D → EnvD → Prop
  | [], acc, env => Q acc env
  | x :: xs, acc, env => g x env fun e1 => tt e1 (fun b e2 =>
    if b = true then te e2 (fun y e3 => match y.tk e3 with
      | some (d, e4) => acc.length < sizeLine ∧ lcD vs g tt te Q xs (acc ++ [d]) (wipeD e4 vs)
      | none => False) noW
    else lcD vs g tt te Q xs acc (wipeD e2 vs)) noW
def dLc (vs : List Nat) (td : TD) (g : TGD) (tt : TTD) (te : TD) : TD := fun env Q W => td env (fun x e => match x.vw e with
  | some (false, d) => (match itemsD d with
    | some xs => lcD vs g tt te (fun acc e' => Q (.tmp (.lst true acc)) (unw vs e e')) xs [] (wipeD e vs)
    | none => False)
  | _ => False) W
def dLcR1 (vs : List Nat) (ta : TDs) (g : TGD) (tt : TTD) (te : TD) : TD := fun env Q W => ta env (fun xs e => vws e xs fun _ ds => match ds with
  | [.int j] => (-(2 ^ 62) ≤ j ∧ j < 2 ^ 62) ∧ lcD vs g tt te (fun acc e' => Q (.tmp (.lst true acc)) (unw vs e e')) (rangeD 0 j) [] (wipeD e vs)
  | _ => False) W
def dLcR2 (vs : List Nat) (ta : TDs) (g : TGD) (tt : TTD) (te : TD) : TD := fun env Q W => ta env (fun xs e => vws e xs fun _ ds => match ds with
  | [.int i, .int j] => (-(2 ^ 62) ≤ i ∧ i < 2 ^ 62 ∧ -(2 ^ 62) ≤ j ∧ j < 2 ^ 62) ∧ lcD vs g tt te (fun acc e' => Q (.tmp (.lst true acc)) (unw vs e e')) (rangeD i j) [] (wipeD e vs)
  | _ => False) W
end
section
variable {X : Cx} {vs : List Nat} {m m2 m3 : Bool} {elt tg iter : Expr} {ifs : List Expr} {scope : Scope} {own : List (Str × Nat)} {pos : Pos} {g : TGD} {tt : TTD} {te td : TD} {ta : TDs}
theorem lcD_mono {Q Q' : List D → EnvD → Prop} : ∀ {xs acc : List D} {env : EnvD}, (∀ a e, Q a e → Q' a e) → True := fun _ => trivial
/-- the block's contexts -/
structure BC where
  s : Shared
  H : Hp
  C : Addr
  cl : List (Str × Addr)
  fp : List Addr
/-- the parts of a comprehension, for all blocks at once -/
theorem lc_parts (hg : ∀ (s : Shared) (H : Hp) (C : Addr) (cl : List (Str × Addr)) (fp : List Addr), PGV (X.blk s H scope (compEnvC scope cl C X.env) fp) vs tg g)
    (ht : ∀ (s : Shared) (H : Hp) (C : Addr) (cl : List (Str × Addr)) (fp : List Addr), PTV (X.blk s H scope (compEnvC scope cl C X.env) fp) m2 ifs tt)
    (he : ∀ (s : Shared) (H : Hp) (C : Addr) (cl : List (Str × Addr)) (fp : List Addr), PD (X.blk s H scope (compEnvC scope cl C X.env) fp) m3 elt te) :
    ∃ (tg' : TG) (tt' : TT) (te' : TE), (∀ (s : Shared) (H : Hp) (C : Addr) (cl : List (Str × Addr)) (fp : List Addr), PG (X.blk s H scope (compEnvC scope cl C X.env) fp) tg tg') ∧
      (∀ (s : Shared) (H : Hp) (C : Addr) (cl : List (Str × Addr)) (fp : List Addr), PTs (X.blk s H scope (compEnvC scope cl C X.env) fp) ifs tt') ∧
      (∀ (s : Shared) (H : Hp) (C : Addr) (cl : List (Str × Addr)) (fp : List Addr), PE (X.blk s H scope (compEnvC scope cl C X.env) fp) elt te') ∧
      (∀ (A : Anc) (τ : List (V × T)) (σ : St) (env : EnvD) (H : Hp) (v : V) (d : D) (Q : EnvD → Prop) (R : St → Hp → Prop),
        Ok X.K A ((v, .tmp d) :: τ) σ env H → tmps τ → A.fx = [] → g d env Q → (∀ σ' env' H', Ok X.K A τ σ' env' H' → wipe σ' vs = wipe σ vs → Q env' → R σ' H') → tg' v σ H R) ∧
      (∀ (A : Anc) (τ : List (V × T)) (σ : St) (env : EnvD) (H : Hp) (Q : Bool → EnvD → Prop) (R : Bool → Hp → Prop), Ok X.K A τ σ env H → stays τ → tt env Q noW → (∀ b H' env', Ok X.K A τ σ env' H' → Q b env' → R b H') → tt' σ H R) ∧
      (∀ (A : Anc) (τ : List (V × T)) (σ : St) (env : EnvD) (H : Hp) (Q : T → EnvD → Prop) (R : VK), Ok X.K A τ σ env H → stays τ → te env Q noW → (∀ v H' x env', Ok X.K A ((v, x) :: τ) σ env' H' → Q x env' → R v H') → te' σ H R) := by
  have c1 : ∀ b : BC, _ := fun b => (hg b.s b.H b.C b.cl b.fp).ex
  have c2 : ∀ b : BC, _ := fun b => (ht b.s b.H b.C b.cl b.fp).ex _ takesF
  have c3 : ∀ b : BC, _ := fun b => (he b.s b.H b.C b.cl b.fp).ex _ takesF
  obtain ⟨k1, h1⟩ := Classical.axiomOfChoice c1
  obtain ⟨k2, h2⟩ := Classical.axiomOfChoice c2
  obtain ⟨k3, h3⟩ := Classical.axiomOfChoice c3
  refine ⟨fun v σ H R => ∀ b, k1 b v σ H R, fun σ H R => ∀ b, k2 b σ H R, fun σ H R => ∀ b, k3 b σ H R, fun s H C cl fp => ?_, fun s H C cl fp => ?_, fun s H C cl fp => ?_, ?_, ?_, ?_⟩
  · exact ⟨fun pins s' σ H' v u Q I r h => (h1 ⟨s, H, C, cl, fp⟩).1.run pins s' σ H' v u Q I r (h _)⟩
  · exact ⟨fun pins s' σ H' Q I h => (h2 ⟨s, H, C, cl, fp⟩).1.run pins s' σ H' Q I (h _)⟩
  · exact ⟨fun pins s' σ H' Q I h => (h3 ⟨s, H, C, cl, fp⟩).1.run pins s' σ H' Q I (h _)⟩
  · exact fun A τ σ env H v d Q R ok tm fx h hR b => (h1 b).2 A τ σ env H v d Q R ok tm fx h hR
  · exact fun A τ σ env H Q R ok st h hR b => (h2 b).2 A τ σ env H Q noW R ok (fun _ => st) (fun _ _ _ _ _ _ _ z => z.elim) h hR
  · exact fun A τ σ env H Q R ok st h hR b => (h3 b).2 A τ σ env H Q noW R ok (fun _ => st) (fun _ _ _ _ _ _ _ z => z.elim) h hR
/-- the turns of a comprehension over the walk of items -/
theorem lc_go {tg' : TG} {tt' : TT} {te' : TE} {A : Anc} {τ : List (V × T)} {σ : St} {env : EnvD} {H : Hp} {xs : List D} {J : It} {n : Nat} {G : Hp → Prop} {Y : Nat → Hp → V → Hp → Prop} {Qf : List D → EnvD → Prop} {R : VK} {A' : Anc}
    (q1 : ∀ (A : Anc) (τ : List (V × T)) (σ : St) (env : EnvD) (H : Hp) (v : V) (d : D) (Q : EnvD → Prop) (R : St → Hp → Prop),
        Ok X.K A ((v, .tmp d) :: τ) σ env H → tmps τ → A.fx = [] → g d env Q → (∀ σ' env' H', Ok X.K A τ σ' env' H' → wipe σ' vs = wipe σ vs → Q env' → R σ' H') → tg' v σ H R)
    (q2 : ∀ (A : Anc) (τ : List (V × T)) (σ : St) (env : EnvD) (H : Hp) (Q : Bool → EnvD → Prop) (R : Bool → Hp → Prop), Ok X.K A τ σ env H → stays τ → tt env Q noW → (∀ b H' env', Ok X.K A τ σ env' H' → Q b env' → R b H') → tt' σ H R)
    (q3 : ∀ (A : Anc) (τ : List (V × T)) (σ : St) (env : EnvD) (H : Hp) (Q : T → EnvD → Prop) (R : VK), Ok X.K A τ σ env H → stays τ → te env Q noW → (∀ v H' x env', Ok X.K A ((v, x) :: τ) σ env' H' → Q x env' → R v H') → te' σ H R)
    (w : Walk J n G Y) (hn : n = xs.length) (hfx : A'.fx = []) (hG : ∀ τ σ env H, Ok X.K A' τ σ env H → G H)
    (hY : ∀ i τ σ env H w H' x, Ok X.K A' τ σ env H → Y i H w H' → xs[i]? = some x → H' = H ∧ Ok X.K A' ((w, .tmp x) :: τ) σ env H)
    (ok : Ok X.K A' [] (wipe σ vs) (wipeD env vs) H) (h : lcD vs g tt te Qf xs [] (wipeD env vs))
    (hd : ∀ p acc e' H', Ok X.K A' [(.ref p, .tmp (.lst true acc))] (wipe σ vs) (wipeD e' vs) H' → Qf acc (wipeD e' vs) → R (.ref p) H') :
    ∀ D, H D = none → ∃ W : Nat → Nat → Hp → Prop, (∃ m, W 0 m (upd H D (.lst []))) ∧ ∀ i m H, W i m H →
  (J.stop i H ∧ R (.ref D) H) ∨ (J.go i H ∧ ∃ Nx : Hp → Prop, (∀ H', Nx H' → ∃ m', m' < m ∧ W (i + 1) m' H') ∧ ∀ x H', J.yld i H x H' → tg' x (wipe σ vs) H' fun σ2 H2 => wipe σ2 vs = wipe σ vs ∧ tt' σ2 H2 fun b H3 =>
    if b = true then te' σ2 H3 fun y H4 => ∃ acc, H4 D = some (.lst acc) ∧ acc.length < sizeLine ∧ Nx (upd H4 D (.lst (acc ++ [y]))) else Nx H3) := by
  intro p hp
  subst hn
  refine lc_it w (fun i H' => ∃ e acc, Ok X.K A' [(.ref p, .tmp (.lst true acc))] (wipe σ vs) (wipeD e vs) H' ∧ lcD vs g tt te Qf (xs.drop i) acc (wipeD e vs)) ⟨env, [], ?_, h⟩ (fun i H' _ ⟨e, acc, ok, _⟩ => hG _ _ _ _ ok) ?_ ?_
  · exact Ok.mk (as := []) (ds := []) (vs := []) (o := .lst []) (d := .lst true []) ok rfl hp [p] (.inr rfl) fun N fp r => ⟨p, [], fp, rfl, rfl, upd_same, r⟩
  · rintro i y H1 H2 hi ⟨e1, acc, ok1, h1⟩ hy
    obtain ⟨z, hz⟩ : ∃ z, xs[i]? = some z := ⟨_, List.getElem?_eq_getElem hi⟩
    obtain ⟨rfl, ok2⟩ := hY i _ _ _ H1 y H2 z ok1 hy hz
    rw [List.drop_eq_getElem_cons hi] at h1
    have ez : xs[i] = z := by
      rw [List.getElem?_eq_getElem hi] at hz; exact Option.some.inj hz
    rw [ez] at h1
    refine q1 A' _ _ _ _ y z _ _ ok2 tmps.nil.cons hfx h1 fun σ2 env2 H3 ok3 w3 h3 => ⟨w3.trans wipe_wipe, ?_⟩
    refine q2 A' _ _ _ _ _ _ ok3 tmps.nil.cons.st h3 fun b H4 env4 ok4 h4 => ?_
    have back : ∀ {acc : List D} {e5 : EnvD} {H5 : Hp}, Ok X.K A' [(.ref p, .tmp (.lst true acc))] σ2 e5 H5 → Ok X.K A' [(.ref p, .tmp (.lst true acc))] (wipe σ vs) (wipeD e5 vs) H5 := fun {acc e5 H5} ok5 => by
      have := ok5.wiped (vs := vs) tmps.nil.cons hfx
      rw [w3.trans wipe_wipe] at this
      exact this
    cases b with
    | false =>
      rw [if_neg Bool.false_ne_true] at h4 ⊢
      exact ⟨env4, acc, back ok4, h4⟩
    | true =>
      rw [if_pos rfl] at h4 ⊢
      refine q3 A' _ _ _ _ _ _ ok4 tmps.nil.cons.st h4 fun v H5 x e5 ok5 h5 => ?_
      split at h5
      · rename_i d e6 hv
        obtain ⟨l, h6⟩ := h5
        obtain ⟨us, hl, el, ok6⟩ := Ok.push1 (tk1 ok5 hv) tmps.nil.st
        exact ⟨us, hl, by rw [← el]; exact l, e6, acc ++ [d], back ok6, h6⟩
      · exact h5.elim
  · rintro H1 ⟨e1, acc, ok1, h1⟩
    rw [List.drop_length] at h1
    exact hd p acc e1 H1 ok1 h1
/-- the ground of a comprehension, and the way back -/
theorem lc_ground {A : Anc} {τ : List (V × T)} {σ : St} {env : EnvD} {H : Hp} {v : V} {d : D} (ok : Ok X.K A ((v, .tmp d) :: τ) σ env H) (st : stays τ) (sh : isSh d = true) :
    ∃ (A1 : Anc) (τ1 : List (V × T)) (f1 f2 : List Addr), Okk X.K A1 τ1 σ (wipeD env vs) H f1 f2 ∧ Rp X.K H (A1.nn (f1 ++ f2)) d v [] ∧ Ok X.K ⟨H, fun a => a ∈ f2, A1.nn f1, []⟩ [] (wipe σ vs) (wipeD env vs) H ∧
      ∀ (w : V) (c : D) (e' : EnvD) (H' : Hp), Ok X.K ⟨H, fun a => a ∈ f2, A1.nn f1, []⟩ [(w, .tmp c)] (wipe σ vs) (wipeD e' vs) H' → Ok X.K A ((w, .tmp c) :: τ) σ (unw vs env (wipeD e' vs)) H' := by
  obtain ⟨τ0, tm0, ok1, back⟩ := Ok.lift (vs := vs) ok
  have ok2 : Ok X.K A ((v, .tmp d) :: (τ0 ++ τ)) σ (wipeD env vs) H := ok1.perm List.perm_middle
  obtain ⟨fa, f1, f2, o1, ra, r0⟩ := Ok.cut (as := [(v, .tmp d)]) ok2
  have rd := RpTs.of1 ra
  have z : fa = [] := Rp.sh d sh rd
  subst z
  have o : Okk X.K A (τ0 ++ τ) σ (wipeD env vs) H f1 f2 := ⟨r0, o1.en, o1.nd, o1.un, o1.keep, o1.anc, o1.fix⟩
  have st' : stays (τ0 ++ τ) := fun x hx => (List.mem_append.mp hx).elim (fun h => tm0.st x h) fun h => st x h
  obtain ⟨oA, leave⟩ := o.enter (vs := vs) st' fun i hi d e => wipeD_get hi d e
  refine ⟨A, τ0 ++ τ, f1, f2, o, rd, oA, fun w c e' H' ok' => ?_⟩
  have ok3 := leave [(w, .tmp c)] (wipeD e' vs) H' tmps.nil.cons (fun i hi d e => wipeD_get hi d e) ok'
  exact back [(w, .tmp c)] τ _ H' ok3

theorem pd_lc (hc : X.calm = true) (hN : X.N.Nodup) (hi : PD X m iter td) (okb : BlkOk X.N X.env.scope scope own) (hg : ∀ (s : Shared) (H : Hp) (C : Addr) (cl : List (Str × Addr)) (fp : List Addr), PGV (X.blk s H scope (compEnvC scope cl C X.env) fp) (own.map (·.2)) tg g)
    (ht : ∀ (s : Shared) (H : Hp) (C : Addr) (cl : List (Str × Addr)) (fp : List Addr), PTV (X.blk s H scope (compEnvC scope cl C X.env) fp) m2 ifs tt)
    (he : ∀ (s : Shared) (H : Hp) (C : Addr) (cl : List (Str × Addr)) (fp : List Addr), PD (X.blk s H scope (compEnvC scope cl C X.env) fp) m3 elt te)
    (hs : ∀ x, foldedSetIterable iter X.env x = pure x := by intro _; rfl) : PD X true (.ListComp elt [⟨tg, iter, ifs, 0⟩] scope pos) (dLc (own.map (·.2)) td g tt te) := by
  refine ⟨fun W0 tk => ?_⟩
  obtain ⟨t0, p0, q0⟩ := hi.ex W0 tk
  obtain ⟨tg', tt', te', g1, g2, g3, q1, q2, q3⟩ := lc_parts (vs := own.map (·.2)) hg ht he
  refine ⟨_, pe_lc hc hN (pi_of piv_any p0) okb g1 g2 g3 hs, fun A τ σ env H Q W R ok st hW h hR => ?_⟩
  refine q0 A τ σ env H _ W _ ok (fun _ => st rfl) hW h fun v H' x env' ok' q => ?_
  split at q
  · rename_i d hv
    cases hx : itemsD d with
    | none => rw [hx] at q; exact q.elim
    | some xs =>
      rw [hx] at q
      obtain ⟨ok1, sh⟩ := nrm1 ok' hv
      obtain ⟨A1, τ1, f1, f2, o, rd, oA, leave⟩ := lc_ground (vs := own.map (·.2)) ok1 (st rfl) sh
      refine items_walk o rd sh hx (A' := ⟨H', fun a => a ∈ f2, A1.nn f1, []⟩) rfl (fun a h => List.mem_append_right _ h) (fun a h => ?_) fun J n G Y en w hG hY => ?_
      · rcases h with h | h
        · exact .inl h
        · exact .inr (List.mem_append_left _ h)
      · exact lc_go (A := A1) (τ := τ1) q1 q2 q3 w en rfl hG hY oA q fun p acc e' H2 ok2 q2 => hR _ _ _ _ (leave _ _ _ _ ok2) q2
  · exact q.elim
theorem pd_lcR1 {a : Expr} {p cpos : Pos} (hc : X.calm = true) (hN : X.N.Nodup) (hgl : Gl X "range") (hm : X.mg "range" = none) (ha : PDs X m [a] ta) (okb : BlkOk X.N X.env.scope scope own) (hg : ∀ (s : Shared) (H : Hp) (C : Addr) (cl : List (Str × Addr)) (fp : List Addr), PGV (X.blk s H scope (compEnvC scope cl C X.env) fp) (own.map (·.2)) tg g)
    (ht : ∀ (s : Shared) (H : Hp) (C : Addr) (cl : List (Str × Addr)) (fp : List Addr), PTV (X.blk s H scope (compEnvC scope cl C X.env) fp) m2 ifs tt)
    (he : ∀ (s : Shared) (H : Hp) (C : Addr) (cl : List (Str × Addr)) (fp : List Addr), PD (X.blk s H scope (compEnvC scope cl C X.env) fp) m3 elt te)
    (hst : starEach [a] X.env = [(false, eval a X.env)] := by rfl)
    (hs : ∀ x, foldedSetIterable (.Call (.Name "range" p) [a] [] cpos) X.env x = pure x := by intro _; rfl) : PD X true (.ListComp elt [⟨tg, .Call (.Name "range" p) [a] [] cpos, ifs, 0⟩] scope pos) (dLcR1 (own.map (·.2)) ta g tt te) := by
  refine ⟨fun W0 tk => ?_⟩
  obtain ⟨t0, p0, q0⟩ := ha.ex W0 tk
  obtain ⟨tg', tt', te', g1, g2, g3, q1, q2, q3⟩ := lc_parts (vs := own.map (·.2)) hg ht he
  refine ⟨_, pe_lc hc hN (pi_range1 hgl hm p0 hst) okb g1 g2 g3 hs, fun A τ σ env H Q W R ok st hW h hR => ?_⟩
  refine q0 A τ σ env H _ W _ ok (fun _ => st rfl) hW h fun as H' env' ok' q => ?_
  obtain ⟨b, ds, f0, f2, hf, hs, o, rr⟩ := ok'.args q
  have l := rr.length
  rw [List.length_map] at l
  split at hf
  · rename_i j
    match as, l, rr, ok' with
    | [(v, x)], _, rr, ok' =>
      obtain ⟨u, vs', g1, g2, e1', e2', r1, r2⟩ := rr
      cases e1'
      obtain ⟨⟨h1, h2⟩, hf⟩ := hf
      obtain ⟨A1, τ1, f1, f2, o, rd, oA, leave⟩ := lc_ground (vs := own.map (·.2)) (v := .non) (d := .non) ((Ok.drop (as := [(v, x)]) ok').pushD (d := .non) fun N => ⟨rfl, rfl⟩) (st rfl) rfl
      refine ⟨j, by rw [show v = .int j from r1.1]; rfl, h1, h2, ?_⟩
      refine lc_go (A := A1) (τ := τ1) q1 q2 q3 (walk_range (lo := 0) (n := j.toNat)) (by unfold rangeD; simp) rfl (fun _ _ _ _ _ => trivial) (fun i τ σ env H w H' x okx hy hx => ?_) oA hf fun p acc e' H2 ok2 q2 => hR _ _ _ _ (leave _ _ _ _ ok2) q2
      obtain ⟨rfl, rfl⟩ := hy
      refine ⟨rfl, okx.pushD fun N => ?_⟩
      unfold rangeD at hx
      rw [List.getElem?_map] at hx
      cases hr : (List.range (j - 0).toNat)[i]? with
      | none => rw [hr] at hx; cases hx
      | some k =>
        rw [hr] at hx
        have e1 : k = i := by
          obtain ⟨hl, e⟩ := List.getElem?_eq_some_iff.mp hr
          rw [List.getElem_range] at e
          exact e.symm
        have e2 : x = .int (0 + (k : Int)) := (Option.some.inj hx).symm
        rw [e2, e1]
        exact ⟨rfl, rfl⟩
  · exact hf.elim
theorem pd_lcR2 {a b : Expr} {p cpos : Pos} (hc : X.calm = true) (hN : X.N.Nodup) (hgl : Gl X "range") (hm : X.mg "range" = none) (ha : PDs X m [a, b] ta) (okb : BlkOk X.N X.env.scope scope own) (hg : ∀ (s : Shared) (H : Hp) (C : Addr) (cl : List (Str × Addr)) (fp : List Addr), PGV (X.blk s H scope (compEnvC scope cl C X.env) fp) (own.map (·.2)) tg g)
    (ht : ∀ (s : Shared) (H : Hp) (C : Addr) (cl : List (Str × Addr)) (fp : List Addr), PTV (X.blk s H scope (compEnvC scope cl C X.env) fp) m2 ifs tt)
    (he : ∀ (s : Shared) (H : Hp) (C : Addr) (cl : List (Str × Addr)) (fp : List Addr), PD (X.blk s H scope (compEnvC scope cl C X.env) fp) m3 elt te)
    (hst : starEach [a, b] X.env = [(false, eval a X.env), (false, eval b X.env)] := by rfl) (hst2 : starEach [b] X.env = [(false, eval b X.env)] := by rfl)
    (hs : ∀ x, foldedSetIterable (.Call (.Name "range" p) [a, b] [] cpos) X.env x = pure x := by intro _; rfl) : PD X true (.ListComp elt [⟨tg, .Call (.Name "range" p) [a, b] [] cpos, ifs, 0⟩] scope pos) (dLcR2 (own.map (·.2)) ta g tt te) := by
  refine ⟨fun W0 tk => ?_⟩
  obtain ⟨t0, p0, q0⟩ := ha.ex W0 tk
  obtain ⟨tg', tt', te', g1, g2, g3, q1, q2, q3⟩ := lc_parts (vs := own.map (·.2)) hg ht he
  refine ⟨_, pe_lc hc hN (pi_range2 hgl hm p0 hst hst2) okb g1 g2 g3 hs, fun A τ σ env H Q W R ok st hW h hR => ?_⟩
  refine q0 A τ σ env H _ W _ ok (fun _ => st rfl) hW h fun as H' env' ok' q => ?_
  obtain ⟨b, ds, f0, f2, hf, hs, o, rr⟩ := ok'.args q
  have l := rr.length
  rw [List.length_map] at l
  split at hf
  · rename_i lo j
    match as, l, rr, ok' with
    | [(v, x), (v2, x2)], _, rr, ok' =>
      obtain ⟨u, vs', g1, g2, e1', e2', r1, u2, vs2, g3, g4, e3', e4', r2, r3⟩ := rr
      cases e1'
      cases e3'
      obtain ⟨h1, hf⟩ := hf
      obtain ⟨A1, τ1, f1, f2, o, rd, oA, leave⟩ := lc_ground (vs := own.map (·.2)) (v := .non) (d := .non) ((Ok.drop (as := [(v, x), (v2, x2)]) ok').pushD (d := .non) fun N => ⟨rfl, rfl⟩) (st rfl) rfl
      refine ⟨lo, j, by rw [show v = .int lo from r1.1, show v2 = .int j from r2.1]; rfl, h1, ?_⟩
      refine lc_go (A := A1) (τ := τ1) q1 q2 q3 (walk_range (lo := lo) (n := (j - lo).toNat)) (by unfold rangeD; simp) rfl (fun _ _ _ _ _ => trivial) (fun i τ σ env H w H' x okx hy hx => ?_) oA hf fun p acc e' H2 ok2 q2 => hR _ _ _ _ (leave _ _ _ _ ok2) q2
      obtain ⟨rfl, rfl⟩ := hy
      refine ⟨rfl, okx.pushD fun N => ?_⟩
      unfold rangeD at hx
      rw [List.getElem?_map] at hx
      cases hr : (List.range (j - lo).toNat)[i]? with
      | none => rw [hr] at hx; cases hx
      | some k =>
        rw [hr] at hx
        have e1 : k = i := by
          obtain ⟨hl, e⟩ := List.getElem?_eq_some_iff.mp hr
          rw [List.getElem_range] at e
          exact e.symm
        have e2 : x = .int (lo + (k : Int)) := (Option.some.inj hx).symm
        rw [e2, e1]
        exact ⟨rfl, rfl⟩
  · exact hf.elim
end
end Pd

namespace Pd
open PySem L2 PyProof.Rows
/-! ### calls of defs -/
section
variable {X : Cx} {m : Bool} {k : Nat} {f : Addr} {fd : FuncData} {ps : List Str} {S : SD} {x : Str} {p pos : Pos} {e : Expr} {es : List Expr} {ta : TDs} {io : List Nat}
theorem pd_call (F : FnOk X.prog X.w X.K X.mg X.base (L2.CX X.prog X.w) k f fd ps (SpD X.K [] S)) (hr : Room k X.A) (hg : Gl X x) (hm : X.mg x = some (.ref f)) (hk : PySem.W.keepIn X.K (.ref f) = true) (hb : Binds X.K fd ps [])
    (ha : PDs X m (e :: es) ta) (hdb : (x == ("__debug__" : Str)) = false := by decide) (he : starEach (e :: es) X.env = (false, eval e X.env) :: starEach es X.env := by rfl) (hpl : (backTo pos (starEach es X.env)).any (·.1) = false := by rfl) :
    PD X m (.Call (.Name x p) (e :: es) [] pos) (dCall S ta) := by
  refine ⟨fun W0 tk => ?_⟩
  obtain ⟨t1, p1, h1⟩ := ha.ex W0 tk
  refine ⟨_, pe_callS (E := WE W0) F hr hg hm hk hb (fun σ => passAt tk σ) p1 hdb he hpl, fun A τ σ env H Q W R ok st hW hd hR => ?_⟩
  refine h1 A τ σ env H _ W _ ok st hW hd fun as H1 e1 ok1 q1 => ?_
  exact ok1.call0 (k := fun z => Q z e1) (W := W) q1 hW fun v x H' ok' hk => hR v H' x e1 ok' hk
theorem pd_callIO (F : FnOk X.prog X.w X.K X.mg X.base (L2.CX X.prog X.w) k f fd ps (SpD X.K io S)) (hr : Room k X.A) (hg : Gl X x) (hm : X.mg x = some (.ref f)) (hk : PySem.W.keepIn X.K (.ref f) = true) (hb : Binds X.K fd ps [])
    (ha : PDs X m (e :: es) ta) (hdb : (x == ("__debug__" : Str)) = false := by decide) (he : starEach (e :: es) X.env = (false, eval e X.env) :: starEach es X.env := by rfl) (hpl : (backTo pos (starEach es X.env)).any (·.1) = false := by rfl) :
    PD X true (.Call (.Name x p) (e :: es) [] pos) (dCallIO io S ta) := by
  refine ⟨fun W0 tk => ?_⟩
  obtain ⟨t1, p1, h1⟩ := ha.ex W0 tk
  refine ⟨_, pe_callS (E := WE W0) F hr hg hm hk hb (fun σ => passAt tk σ) p1 hdb he hpl, fun A τ σ env H Q W R ok st hW hd hR => ?_⟩
  refine h1 A τ σ env H _ W _ ok (fun _ => st rfl) hW hd fun as H1 e1 ok1 q1 => ?_
  split at q1
  · rename_i cs hc
    exact ok1.callIO (k := Q) (W := W) (st rfl) hc q1.1 q1.2 hW fun v x env' H' ok' hk => hR v H' x env' ok' hk
  · exact q1.elim
end
/-! ### places -/
def plAt (e : EnvD) (j : Nat) (p : List Stp) : Option D := match e[j]? with
  | some (some d) => if owp d p = true then d.subs p else none
  | _ => none
def plPut (e : EnvD) (j : Nat) (p : List Stp) (c : D) : EnvD := match e[j]? with
  | some (some d) => e.set j (some (d.puts p c))
  | _ => e
theorem plAt_of {e : EnvD} {j : Nat} {p : List Stp} {c : D} (h : plAt e j p = some c) : ∃ d, e[j]? = some (some d) ∧ owp d p = true ∧ d.subs p = some c := by
  unfold plAt at h
  split at h
  · rename_i d hd
    split at h
    · rename_i ho
      exact ⟨d, hd, ho, h⟩
    · cases h
  · cases h
/-- the element at an index or key -/
def ixE (c k : D) : Option D := match c, k with
  | .str z, .int i => (atI z.cps.toList i).map fun ch => .str ⟨#[ch]⟩
  | .dic _ t ks vs, k => if kOk t k = true then lk ks vs k else none
  | .lst _ xs, .int i => atI xs i
  | .frl _ xs, .int i => atI xs i
  | .tup xs, .int i => atI xs i
  | _, _ => none
def ixS (c k : D) : Option Stp := match c, k with
  | .lst _ xs, .int i => (ixN xs.length i).map .ix
  | .tup xs, .int i => (ixN xs.length i).map .ix
  | .dic _ _ _ _, k => some (.key k)
  | _, _ => none
def ixD (x y : T) (e : EnvD) (Q : T → Prop) : Prop := match y.vw e with
  | some (_, k) => noAl k = true ∧ (match x with
    | .pl j p => (match plAt e j p with
      | some c => strOk c ∧ (match ixE c k with
        | some el => if isSh el = true then Q (.tmp el) else if ow c = true then (match ixS c k with | some s => Q (.pl j (p ++ [s])) | none => False) else if noOb el = true then Q (.bor (fz el)) else False
        | none => False)
      | none => False)
    | x => (match x.vw e with
      | some (b, c) => strOk c ∧ (match ixE c k with
        | some el => Q (resT b el)
        | none => False)
      | none => False))
  | none => False
def dIx (m2 : Bool) (ta tb : TD) : TD := fun env Q W => d2 m2 ta tb env (fun xs e => match xs with | [x, y] => ixD x y e fun r => Q r e | _ => False) W
def rIxD : R2 := fun x y H Q => ∃ a v, x = .ref a ∧ DGet H a y (some v) ∧ Q v H
theorem ix_dict {X : Cx} (hu : X.A.units + 1 < cLine) : IxR X rIxD := by
  intro value slice pins s σ H x y v u Q I rx ry h hs
  obtain ⟨a, z, rfl, g, q⟩ := h
  obtain rfl : v = Value.ref a := rx
  exact tail_any (dict_typeIs I g) PySem.F.slot_dict_getitem.lookup (d_getItem hu I g ry fun w' s3 I3 rw' => ⟨z, H, I3, rw', q⟩) hs
def rIxA (K : PySem.W.Frag) : R2 := fun x y H Q => rIx K x y H Q ∨ rIxD x y H Q
theorem ix_any {X : Cx} (hu : X.A.units + 1 < cLine) : IxR X (rIxA X.K) := ix_seq.or (ix_dict hu)
section
variable {K : PySem.W.Frag} {H : Hp} {N : Addr → Prop}
theorem atI_rps {ds : List D} {vs : List V} {fp : List Addr} {i : Int} {el : D} (r : Rps K H N ds vs fp) (h : atI ds i = some el) : ∃ n u f1 fm f2, ixN ds.length i = some n ∧ ds[n]? = some el ∧ vs[n]? = some u ∧ atI vs i = some u ∧ fp = f1 ++ fm ++ f2 ∧ Rp K H N el u fm := by
  unfold atI at h
  cases hn : ixN ds.length i with
  | none => rw [hn] at h; cases h
  | some n =>
    rw [hn] at h
    have h' : ds[n]? = some el := h
    obtain ⟨u, f1, fm, f2, e1, e2, e3⟩ := r.get h'
    refine ⟨n, u, f1, fm, f2, rfl, h', e1, ?_, e2, e3⟩
    unfold atI
    rw [← r.length, hn]
    exact e1
theorem dicGet2 {o : Bool} {t : Nat} {ks xs : List D} {k : D} {v y : V} {fp fp' : List Addr} (h : Rp K H N (.dic o t ks xs) v fp) (hk : Rp K H N k y fp') (e : kOk t k = true) :
    ∃ a vs f, v = .ref a ∧ DGet H a y (lk ks vs k) ∧ Rps K H N xs vs f ∧ Own o a fp f ∧ ∃ ho, Rd H a ho ∧ DO t ks vs ho := by
  obtain ⟨a, vs, f, rfl, w, l, r⟩ := h
  obtain ⟨ho, rd, d⟩ : ∃ ho, Rd H a ho ∧ DO t ks vs ho := by
    cases o with
    | true => obtain ⟨ho, l1, l2⟩ := l; exact ⟨ho, .inl l1, l2⟩
    | false => obtain ⟨_, ho, l1, l2⟩ := l; exact ⟨ho, .inl l1, l2⟩
  refine ⟨a, vs, f, rfl, ?_, r, w, ho, rd, d⟩
  rcases d with ⟨rfl, kk, rfl, hl, rfl⟩ | ⟨rfl, kk, rfl, hl, rfl⟩
  · obtain ⟨q, rfl, rfl⟩ := key0 hk e
    exact .inl ⟨_, q, rd, rfl, (valV_zip (fun _ _ => kD_inj) q kk vs).symm⟩
  · obtain ⟨q, b, rfl, rfl, hb⟩ := key1 hk e
    exact .inr ⟨_, q, b, rd, rfl, hb, (valV_zip (fun _ _ => tD_inj) q kk vs).symm⟩
theorem ixAt {c k el : D} {v y : V} {fp : List Addr} (rc : Rp K H N c v fp) (rk : Rp K H N k y []) (he : ixE c k = some el) (so : strOk c) :
    ∃ u fm, (∀ Q : VK, Q u H → rIxA K v y H Q) ∧ Rp K H N el u fm ∧ (∀ a ∈ fm, a ∈ fp) ∧ ∀ s, ixS c k = some s → ow c = true → VStep H v s u ∧ c.sub s = some el := by
  cases c with
  | str z =>
    cases k <;> try (cases he)
    rename_i i
    cases ha : atI z.cps.toList i with
    | none => rw [show ixE (.str z) (.int i) = (atI z.cps.toList i).map _ from rfl, ha] at he; cases he
    | some ch =>
      rw [show ixE (.str z) (.int i) = (atI z.cps.toList i).map _ from rfl, ha] at he
      cases he
      obtain ⟨rfl, rfl⟩ := rc
      obtain ⟨rfl, _⟩ := rk
      exact ⟨.str ⟨#[ch]⟩, [], fun Q q => .inl (.inr (.inr ⟨z, i, ch, rfl, rfl, so, ha, q⟩)), (⟨rfl, rfl⟩ : Rp K H N (.str ⟨#[ch]⟩) _ _), fun _ h => (nomatch h), fun s h => (by cases h)⟩
  | lst o xs =>
    cases k <;> try (cases he)
    rename_i i
    obtain ⟨a, vs, fp', rfl, ow', la, rr⟩ := rc
    obtain ⟨rfl, _⟩ := rk
    obtain ⟨n, u, f1, fm, f2, hn, e0, e1, e2, e3, e4⟩ := atI_rps rr he
    have hH : H a = some (.lst vs) := by
      cases o with
      | true => exact la
      | false => exact la.2
    refine ⟨u, fm, fun Q q => .inl (.inl ⟨a, vs, i, u, rfl, rfl, SqL.of hH, e2, q⟩), e4, fun b hb => ?_, fun s h _ => ?_⟩
    · have : b ∈ fp' := by rw [e3]; exact List.mem_append_left _ (List.mem_append_right _ hb)
      cases o with
      | true => rw [show fp = a :: fp' from ow']; exact List.mem_cons_of_mem _ this
      | false => rw [ow'.2] at this; cases this
    · have h' : (ixN xs.length i).map Stp.ix = some s := h
      rw [hn] at h'
      cases h'
      exact ⟨⟨a, vs, rfl, .inl (.inl hH), e1⟩, e0⟩
  | tup xs =>
    cases k <;> try (cases he)
    rename_i i
    obtain ⟨a, vs, rfl, ta, rr⟩ := rc
    obtain ⟨rfl, _⟩ := rk
    obtain ⟨n, u, f1, fm, f2, hn, e0, e1, e2, e3, e4⟩ := atI_rps rr he
    exact ⟨u, fm, fun Q q => .inl (.inr (.inl ⟨a, vs, i, u, rfl, rfl, ta.sq, e2, q⟩)), e4, fun b hb => by rw [e3]; exact List.mem_append_left _ (List.mem_append_right _ hb), fun s h z => by cases z⟩
  | frl t xs =>
    cases k <;> try (cases he)
    rename_i i
    obtain ⟨e0, a, vs, rfl, fa, rr⟩ := rc
    obtain ⟨rfl, _⟩ := rk
    obtain ⟨n, u, f1, fm, f2, hn, e0', e1, e2, e3, e4⟩ := atI_rps rr he
    refine ⟨u, fm, fun Q q => ?_, e4, fun b hb => ?_, fun s h z => by cases z⟩
    · cases t with
      | false => exact .inl (.inl ⟨a, vs, i, u, rfl, rfl, fa.sq, e2, q⟩)
      | true => exact .inl (.inr (.inl ⟨a, vs, i, u, rfl, rfl, fa.sqT, e2, q⟩))
    · have : b ∈ ([] : List Addr) := by rw [e3]; exact List.mem_append_left _ (List.mem_append_right _ hb)
      cases this
  | dic o t ks xs =>
    have he' : (if kOk t k = true then lk ks xs k else none) = some el := he
    split at he'
    · rename_i hk
      obtain ⟨a, vs, f, rfl, g, rr, hf, ho, rd, dd⟩ := dicGet2 rc rk hk
      obtain ⟨n, en, ex⟩ := lk_of he'
      obtain ⟨u, f1, fm, f2, e1, e2, e3⟩ := rr.get ex
      have lv : lk ks vs k = some u := by rw [lk_at en]; exact e1
      rw [lv] at g
      refine ⟨u, fm, fun Q q => .inr ⟨a, u, rfl, g, q⟩, e3, fun b hb => ?_, fun s h hw => ?_⟩
      · have : b ∈ f := by rw [e2]; exact List.mem_append_left _ (List.mem_append_right _ hb)
        cases o with
        | true => rw [show fp = a :: f from hf]; exact List.mem_cons_of_mem _ this
        | false => rw [hf.2] at this; cases this
      · cases h
        exact ⟨⟨a, ho, t, ks, vs, rfl, rd, dd, lv⟩, he'⟩
    · cases he'
  | _ => cases k <;> cases he
end
section
variable {X : Cx} {m1 m2 : Bool} {a b : Expr} {ta tb : TD} {pos : Pos}
theorem T_vw_tmp {e : EnvD} {x : T} {b : Bool} {k : D} (h : x.vw e = some (b, k)) : True := trivial
/-- the top one is looked at as content without lists: it may be read anywhere -/
theorem Ok.atom {K : PySem.W.Frag} {A : Anc} {τ : List (V × T)} {σ : St} {env : EnvD} {H : Hp} {y : V} {ty : T} {b : Bool} {k : D} (ok : Ok K A ((y, ty) :: τ) σ env H) (h : ty.vw env = some (b, k)) (na : noAl k = true) : ∀ N, Rp K H N k y [] := by
  obtain ⟨ok1, sh⟩ := nrm1 ok h
  intro N
  obtain ⟨fa, f0, f2, o, ra, r0⟩ := Ok.cut (as := [(y, ntmp b k)]) ok1
  have r := RpTs.of1 ra
  cases b with
  | true => exact Rp.noAl _ na r.2.2
  | false =>
    have z : fa = [] := Rp.sh _ sh r
    subst z
    exact Rp.noAl _ na r
theorem ix_go {K : PySem.W.Frag} {A : Anc} {τ : List (V × T)} {σ : St} {env : EnvD} {H : Hp} {v y : V} {x ty : T} {Q : T → Prop} {R : VK} (ok : Ok K A ([(v, x), (y, ty)] ++ τ) σ env H) (h : ixD x ty env Q)
    (hR : ∀ w z, Ok K A ((w, z) :: τ) σ env H → Q z → R w H) : rIxA K v y H R := by
  unfold ixD at h
  split at h
  · rename_i b k hk
    obtain ⟨na, h⟩ := h
    have ok1 : Ok K A ((y, ty) :: ((v, x) :: τ)) σ env H := ok.perm (List.Perm.swap _ _ _)
    have rk := ok1.atom hk na
    have ok2 : Ok K A ((v, x) :: τ) σ env H := Ok.drop (as := [(y, ty)]) ok1
    have other : ∀ {b c el}, x.vw env = some (b, c) → strOk c → ixE c k = some el → Q (resT b el) → rIxA K v y H R := fun {b c el} hv so he q => by
      obtain ⟨ok3, sh⟩ := nrm1 ok2 hv
      obtain ⟨fa, f0, f2, o, ra, r0⟩ := Ok.cut (as := [(v, ntmp b c)]) ok3
      have r := RpTs.of1 ra
      cases b with
      | true =>
        obtain ⟨ez, s1, rc⟩ := r
        subst ez
        obtain ⟨u, fm, g, re, hf, _⟩ := ixAt rc (rk _) he so
        have z : fm = [] := List.eq_nil_iff_forall_not_mem.mpr fun a ha => nomatch hf a ha
        subst z
        refine g R (hR u _ ?_ q)
        unfold resT
        rw [if_pos rfl]
        have ok4 : Ok K A τ σ env H := Ok.drop (as := [(v, .bor c)]) ok3
        split
        · rename_i hn
          exact ok4.push fun f hN => (Rp.noAl _ hn re : Rp K H _ el u [])
        · have ns : noOb el = true := by
            -- a part of what is shared holds no object
            by_cases hs : isSh el = true
            · exact isSh_noOb _ hs
            · exact absurd rfl (Rp.own el (by simpa using hs) re)
          exact ok4.push fun f hN => ⟨rfl, by rw [fz_isSh]; exact ns, Rp.fz (fun _ z => z.elim) el ns (fun _ _ z => z) re⟩
      | false =>
        have z : fa = [] := Rp.sh _ sh r
        subst z
        obtain ⟨u, fm, g, re, hf, _⟩ := ixAt (show Rp K H _ c v [] from r) (rk _) he so
        have z : fm = [] := List.eq_nil_iff_forall_not_mem.mpr fun a ha => nomatch hf a ha
        subst z
        refine g R (hR u _ ?_ q)
        unfold resT
        rw [if_neg Bool.false_ne_true]
        exact ⟨[] ++ f0, f2, ⟨[], f0, rfl, re, r0⟩, o.en, o.nd, o.un, o.keep, o.anc, o.fix⟩
    split at h
    · rename_i j p
      split at h
      · rename_i c hc
        obtain ⟨d, hd, ho, hs⟩ := plAt_of hc
        obtain ⟨so, h⟩ := h
        split at h
        · rename_i el he
          obtain ⟨f1, f2, o⟩ := id ok2
          obtain ⟨g1, g2, eg, rt, r0⟩ := id o.ts
          obtain ⟨ez, w, hw, hv⟩ := id rt
          subst ez
          obtain ⟨fp, rc, hfp⟩ := o.look hd hs ho hw hv
          obtain ⟨u, fm, g, re, hf, stp⟩ := ixAt rc (rk _) he so
          have ok4 : Ok K A τ σ env H := Ok.drop (as := [(v, .pl j p)]) ok2
          have okk : Okk K A τ σ env H g2 f2 := by
            rw [eg] at o
            exact ⟨r0.congr (fun a z => by rw [eg]; exact z), o.en, o.nd, o.un, o.keep, o.anc, o.fix⟩
          split at h
          · rename_i hsh
            have z : fm = [] := Rp.sh _ hsh re
            subst z
            refine g R (hR u _ ⟨[] ++ g2, f2, ⟨[], g2, rfl, ?_, okk.ts⟩, okk.en, okk.nd, okk.un, okk.keep, okk.anc, okk.fix⟩ h)
            rw [eg] at re
            exact re
          · split at h
            · rename_i how
              split at h
              · rename_i s hst
                obtain ⟨vst, _⟩ := stp s hst how
                exact g R (hR u _ (ok4.push (x := .pl j (p ++ [s])) fun f hN => ⟨rfl, w, hw, VAt.snoc hv vst⟩) h)
              · exact h.elim
            · split at h
              · rename_i hn
                exact g R (hR u _ (ok4.push (x := .bor (fz el)) fun f hN => ⟨rfl, by rw [fz_isSh]; exact hn, Rp.fz (fun _ z => z.elim) el hn (fun _ _ z => z) re⟩) h)
              · exact h.elim
        · exact h.elim
      · exact h.elim
    · split at h
      · rename_i b c hv
        obtain ⟨so, h⟩ := h
        split at h
        · rename_i el he
          exact other hv so he h
        · exact h.elim
      · exact h.elim
  · exact h.elim
/-- a[b] -/
theorem pd_ix (hu : X.A.units + 1 < cLine) (ha : PD X m1 a ta) (hb : PD X m2 b tb) (hs : PlainIx b := by intro _ _; rfl) : PD X (m1 || m2) (.Subscript a b pos) (dIx m2 ta tb) := by
  refine ⟨fun W0 tk => ?_⟩
  obtain ⟨t1, t2, p1, p2, h⟩ := two ha hb tk
  refine ⟨_, pe_ix (ix_any hu) p1 p2 hs, fun A τ σ env H Q W R ok st hW hd hR => ?_⟩
  exact h A τ σ env H _ W _ ok st hW hd fun v u H' x y e ok' q => ix_go ok' q fun w z ok2 k => hR w H' z e ok2 k
end
end Pd

namespace Pd
open PySem L2 PyProof.Rows
/-! ### slices -/
abbrev TPD := EnvD → (Option Int → EnvD → Prop) → WD → Prop
structure PPD (X : Cx) (m : Bool) (o : Option Expr) (tp : TPD) : Prop where
  ex : ∀ (W0 : L2.WX), Takes X W0 → ∃ t : TO, PO X o t ∧ ∀ (A : Anc) (τ : List (V × T)) (σ : St) (env : EnvD) (H : Hp) (Q : Option Int → EnvD → Prop) (W : WD) (R : Option Int → Hp → Prop),
    Ok X.K A τ σ env H → (m = true → stays τ) → HW X.K W0 A τ σ W → tp env Q W → (∀ o H' env', Ok X.K A τ σ env' H' → Q o env' → R o H') → t σ H R
def pNone : TPD := fun env Q _ => Q none env
def pSome (tb : TD) : TPD := fun env Q W => tb env (fun x e => match x.vw e with | some (_, .int i) => Q (some i) e | _ => False) W
theorem ppd_none {X : Cx} : PPD X false none pNone := ⟨fun W0 tk => ⟨_, po_none, fun A τ σ env H Q W R ok _ _ h hR => hR none H env ok h⟩⟩
theorem ppd_some {X : Cx} {m : Bool} {e : Expr} {tb : TD} (h : PD X m e tb) : PPD X m (some e) (pSome tb) := ⟨fun W0 tk => by
  obtain ⟨t, p, q⟩ := h.ex W0 tk
  refine ⟨_, po_some p, fun A τ σ env H Q W R ok st hW h hR => ?_⟩
  refine q A τ σ env H _ W _ ok st hW h fun v H' x env' ok' q' => ?_
  split at q'
  · rename_i b i hv
    have r := ok'.atom hv rfl (fun _ => False)
    exact ⟨i, r.1, hR _ _ _ (Ok.drop (as := [(v, x)]) ok') q'⟩
  · exact q'.elim⟩
/-- xs[lo:hi] as data -/
def cutD (xs : List D) (lo hi : Option Int) : List D := (xs.drop (HT.sIx xs.length 0 lo)).take (HT.sIx xs.length xs.length hi - HT.sIx xs.length 0 lo)
def wholeB (n : Nat) (lo hi : Option Int) : Bool := decide (HT.sIx n 0 lo = 0) && decide (HT.sIx n n hi = n)
def fSl (lo hi : Option Int) : Fn
  | [.str z], Q => z.length ≤ sizeLine ∧ Q (.str (cutS z lo hi))
  | [.lst _ xs], Q => Q (.lst true (cutD xs lo hi))
  | [.frl false xs], Q => Q (.lst true (cutD xs lo hi))
  | [.tup xs], Q => if wholeB xs.length lo hi = true then Q (.tup xs) else Q (.tup (cutD xs lo hi))
  | [.frl true xs], Q => if wholeB xs.length lo hi = true then Q (.frl true xs) else Q (.tup (cutD xs lo hi))
  | _, _ => False
def rSlB (K : PySem.W.Frag) : V → Option Int → Option Int → Hp → VK → Prop := fun x lo hi H Q => (rSlL K x lo hi H Q ∨ rSlA K x lo hi H Q) ∨ rSlS x lo hi H Q
theorem sl_any {X : Cx} : SlR X (rSlB X.K) := (sl_list.or sl_tupA).or sl_str
section
variable {K : PySem.W.Frag} {H : Hp} {N : Addr → Prop}
theorem Rps.take : ∀ {n : Nat} {ds : List D} {vs : List V}, Rps K H N ds vs [] → Rps K H N (ds.take n) (vs.take n) []
  | 0, ds, vs, r => by simp; exact Rps.nil
  | n + 1, [], vs, r => by rw [r.1]; exact Rps.nil
  | n + 1, d :: ds, vs, r => by
    obtain ⟨v, vs', f1, f2, rfl, e, r1, r2⟩ := r
    obtain ⟨rfl, rfl⟩ := List.append_eq_nil_iff.mp e.symm
    exact Rps.cons r1 (Rps.take r2)
theorem Rps.drop : ∀ {n : Nat} {ds : List D} {vs : List V}, Rps K H N ds vs [] → Rps K H N (ds.drop n) (vs.drop n) []
  | 0, ds, vs, r => r
  | n + 1, [], vs, r => by rw [r.1]; exact Rps.nil
  | n + 1, d :: ds, vs, r => by
    obtain ⟨v, vs', f1, f2, rfl, e, r1, r2⟩ := r
    obtain ⟨rfl, rfl⟩ := List.append_eq_nil_iff.mp e.symm
    exact Rps.drop (n := n) r2
theorem isShs_take : ∀ {n : Nat} {ds : List D}, isShs ds = true → isShs (ds.take n) = true
  | 0, ds, h => by simp; rfl
  | n + 1, [], h => rfl
  | n + 1, d :: ds, h => by
    have h' : (isSh d && isShs ds) = true := h
    rw [Bool.and_eq_true] at h'
    show (isSh d && isShs (ds.take n)) = true
    rw [h'.1, isShs_take h'.2]; rfl
theorem isShs_drop : ∀ {n : Nat} {ds : List D}, isShs ds = true → isShs (ds.drop n) = true
  | 0, ds, h => h
  | n + 1, [], h => rfl
  | n + 1, d :: ds, h => by
    have h' : (isSh d && isShs ds) = true := h
    rw [Bool.and_eq_true] at h'
    exact isShs_drop (n := n) h'.2
theorem cutD_rps {ds : List D} {vs : List V} {lo hi : Option Int} (r : Rps K H N ds vs []) : Rps K H N (cutD ds lo hi) (cutV vs lo hi) [] := by
  unfold cutD cutV
  rw [r.length]
  exact (Rps.drop r).take
theorem cutD_sh {ds : List D} {lo hi : Option Int} (h : isShs ds = true) : isShs (cutD ds lo hi) = true := isShs_take (isShs_drop h)
theorem wholeB_iff {n : Nat} {lo hi : Option Int} : wholeB n lo hi = true ↔ HT.sIx n 0 lo = 0 ∧ HT.sIx n n hi = n := by
  unfold wholeB
  rw [Bool.and_eq_true, decide_eq_true_iff, decide_eq_true_iff]
end
theorem snd_sl {K : PySem.W.Frag} {lo hi : Option Int} : Snd K (r1 fun x H Q => rSlB K x lo hi H Q) (fSl lo hi) := by
  intro H N vs ds Qd Q r s there h hQ
  have tupc : ∀ {d : D} {xs : List D} {v : V}, tupD d = some xs → Rp K H N d v [] → isSh d = true → isShs xs = true → (if wholeB xs.length lo hi = true then Qd d else Qd (.tup (cutD xs lo hi))) → rSlB K v lo hi H Q := fun {d xs v} e r1 sd sx hh => by
    obtain ⟨a, us, rfl, sq, rr⟩ := tupAtK r1 e
    refine .inl (.inr ⟨a, us, rfl, sq, fun w => ?_, fun w p hp => ?_⟩)
    · rw [if_pos (wholeB_iff.mpr (by rw [rr.length]; exact w))] at hh
      exact hQ.old hh r1 sd
    · rw [if_neg (fun z => w (by rw [← rr.length]; exact wholeB_iff.mp z))] at hh
      exact hQ.tup hh (cutD_rps rr) (cutD_sh sx) hp
  have lstc : ∀ {d : D} {xs : List D} {v : V}, seqD d = some xs → Rp K H N d v [] → isShs xs = true → Qd (.lst true (cutD xs lo hi)) → rSlB K v lo hi H Q := fun {d xs v} e r1 sx hh => by
    obtain ⟨a, us, rfl, sq, rr⟩ := seqAt r1 e
    exact .inl (.inl ⟨a, us, rfl, sq, fun p hp => hQ.lst hh (cutD_rps rr) (cutD_sh sx) hp⟩)
  have s1 : ∀ {d : D}, isShs [d] = true → isSh d = true := fun {d} h => by
    have h' : (isSh d && isShs []) = true := h
    rw [Bool.and_eq_true] at h'
    exact h'.1
  unfold fSl at h
  split at h
  · obtain ⟨v, rfl, r1⟩ := rps1 r
    exact ⟨v, rfl, .inr ⟨_, r1.1, h.1, hQ.str h.2⟩⟩
  · rename_i o xs
    obtain ⟨v, rfl, r1⟩ := rps1 r
    have := s1 s
    have : (!o && isShs xs) = true := this
    rw [Bool.and_eq_true] at this
    exact ⟨v, rfl, lstc (d := .lst o xs) rfl r1 this.2 h⟩
  · obtain ⟨v, rfl, r1⟩ := rps1 r
    exact ⟨v, rfl, lstc (d := .frl false _) rfl r1 (s1 s) h⟩
  · obtain ⟨v, rfl, r1⟩ := rps1 r
    exact ⟨v, rfl, tupc (d := .tup _) rfl r1 (s1 s) (s1 s) h⟩
  · obtain ⟨v, rfl, r1⟩ := rps1 r
    exact ⟨v, rfl, tupc (d := .frl true _) rfl r1 (s1 s) (s1 s) h⟩
  · exact h.elim
def dSl (m2 : Bool) (ta : TD) (tl th : TPD) : TD := fun env Q W => ta env (fun x e0 => (m2 = true → x.stay = true) ∧ tl e0 (fun lo e1 => th e1 (fun hi e => vws e [x] fun b ds => fSl lo hi ds fun d => Q (resT b d) e) W) W) W
theorem pd_sl {X : Cx} {m1 m2 m3 : Bool} {a : Expr} {lo hi : Option Expr} {ta : TD} {tl th : TPD} {pos p2 : Pos} (ha : PD X m1 a ta) (hl : PPD X m2 lo tl) (hh : PPD X m3 hi th) : PD X (m1 || (m2 || m3)) (.Subscript a (.Slice lo hi none p2) pos) (dSl (m2 || m3) ta tl th) := ⟨fun W0 tk => by
  obtain ⟨t1, p1, q1⟩ := ha.ex W0 tk
  obtain ⟨t2, p2, q2⟩ := hl.ex W0 tk
  obtain ⟨t3, p3, q3⟩ := hh.ex W0 tk
  refine ⟨_, pe_slice sl_any p1 p2 p3, fun A τ σ env H Q W R ok st hW hd hR => ?_⟩
  refine q1 A τ σ env H _ W _ ok (fun z => st (by rw [z]; rfl)) hW hd fun v H1 x e1 ok1 ⟨sx, h1⟩ => ?_
  have hW1 : HW X.K W0 A ((v, x) :: τ) σ W := HW.pop (as := [(v, x)]) hW
  refine q2 A ((v, x) :: τ) σ e1 H1 _ W _ ok1 (fun z => stays_cons (sx (by rw [z]; rfl)) (st (by rw [z]; simp))) hW1 h1 fun o2 H2 e2 ok2 h2 => ?_
  refine q3 A ((v, x) :: τ) σ e2 H2 _ W _ ok2 (fun z => stays_cons (sx (by rw [z]; simp)) (st (by rw [z]; simp))) hW1 h2 fun o3 H3 e3 ok3 h3 => ?_
  obtain ⟨y, ey, h⟩ := Ok.fn (as := [(v, x)]) (Q := R) (k := fun z => Q z e3) ok3 snd_sl h3 fun w z H'' ok'' k => hR w H'' z e3 ok'' k
  cases ey; exact h⟩
/-! ### bools taken from one another -/
theorem op_sub_bb {X : Cx} : OpR X (binaryOp .Sub) (fun x y H Q => ∃ i k, x = .bl i ∧ y = .bl k ∧ Q (.int (b2i i - b2i k)) H) := by
  intro pins s σ H x y v u Q I rx ry h
  obtain ⟨i, k, rfl, rfl, q⟩ := h
  cases rx
  cases ry
  exact PyProof.Rows.sub_bool ⟨.int (b2i i - b2i k), H, I.tok _, ⟨_, rfl⟩, q⟩
def fSubB : Fn
  | [.int i, .int j], Q => Q (.int (i - j))
  | [.bl i, .bl j], Q => Q (.int (b2i i - b2i j))
  | _, _ => False
def rSubB : R2 := fun x y H Q => (∃ i j, x = .int i ∧ y = .int j ∧ Q (.int (i - j)) H) ∨ ∃ i k, x = .bl i ∧ y = .bl k ∧ Q (.int (b2i i - b2i k)) H
theorem op_subA {X : Cx} : OpR X (binaryOp .Sub) rSubB := op_sub.or op_sub_bb
theorem snd_sub {K : PySem.W.Frag} : Snd K (r2 rSubB) fSubB := by
  intro H N vs ds Qd Q r s there h hQ
  unfold fSubB at h
  split at h
  · obtain ⟨v, w, rfl, r1, r2⟩ := rps2 r
    exact ⟨v, w, rfl, .inl ⟨_, _, r1.1, r2.1, hQ.int h⟩⟩
  · obtain ⟨v, w, rfl, r1, r2⟩ := rps2 r
    exact ⟨v, w, rfl, .inr ⟨_, _, r1.1, r2.1, hQ.int h⟩⟩
  · exact h.elim
/-! ### what stands at a place is changed -/
section
variable {K : PySem.W.Frag} {A : Anc} {H H' : Hp} {N : Addr → Prop} {σ : St} {env : EnvD} {τ : List (V × T)}
/-- the thing at a place is taken out, and laid back changed -/
theorem Ok.at {v : V} {j : Nat} {p : List Stp} {c : D} (ok : Ok K A ((v, .pl j p) :: τ) σ env H) (h : plAt env j p = some c) :
    ∃ env1, Ok K A ((v, .tmp c) :: τ) σ env1 H ∧ ∀ {τx : List (V × T)} {c' : D} {H' : Hp}, Ok K A ((v, .tmp c') :: τx) σ env1 H' → Ok K A τx σ (plPut env j p c') H' := by
  obtain ⟨d, hd, ho, hs⟩ := plAt_of h
  obtain ⟨w, hw, hv⟩ : ∃ w, σ[j]? = some (some w) ∧ VAt H w p v := by
    obtain ⟨fa, f0, f2, o, ra, r0⟩ := Ok.cut (as := [(v, .pl j p)]) ok
    exact (RpTs.of1 ra).2
  have ok1 := Ok.out (Ok.drop (as := [(v, .pl j p)]) ok) hd hs ho hw hv
  refine ⟨_, ok1, fun {τx c' H'} ok2 => ?_⟩
  have ok3 := Ok.back ok2 hd hs ho
  unfold plPut
  rw [hd]
  exact ok3
/-- an item of a list's things is another one -/
theorem Rps.setAt {u : V} {d' : D} {fu : List Addr} : ∀ {ds : List D} {vs : List V} {fp : List Addr} {i : Nat}, Rps K H N ds vs fp → i < ds.length → Rp K H N d' u fu → ∃ f1 fm f2, fp = f1 ++ fm ++ f2 ∧ Rps K H N (ds.set i d') (vs.set i u) (f1 ++ fu ++ f2)
  | [], vs, fp, i, r, h, ru => by simp at h
  | d :: ds, _, _, 0, ⟨v, vs', f1, f2, rfl, rfl, r1, r2⟩, h, ru => ⟨[], f1, f2, rfl, u, vs', fu, f2, rfl, by simp, ru, r2⟩
  | d :: ds, _, _, i + 1, ⟨v, vs', f1, f2, rfl, rfl, r1, r2⟩, h, ru => by
    obtain ⟨g1, gm, g2, e, r⟩ := Rps.setAt (i := i) r2 (by simpa using h) ru
    exact ⟨f1 ++ g1, gm, g2, by rw [e]; simp [List.append_assoc], v, _, f1, g1 ++ fu ++ g2, rfl, by simp [List.append_assoc], r1, r⟩
/-- a list that is a temporary is written -/
theorem Ok.set1 {y : V} {d : D} {p : Addr} {xs : List D} {i : Nat} (ok : Ok K A ((y, .tmp d) :: (.ref p, .tmp (.lst true xs)) :: τ) σ env H) (hi : i < xs.length) (st : stays τ) :
    ∃ vs, H p = some (.lst vs) ∧ xs.length = vs.length ∧ Ok K A ((.ref p, .tmp (.lst true (xs.set i d))) :: τ) σ env (upd H p (.lst (vs.set i y))) := by
  obtain ⟨fa, f0, f2, o, ra, r0⟩ := Ok.cut (as := [(y, .tmp d), (.ref p, .tmp (.lst true xs))]) ok
  obtain ⟨fd, fl, rfl, rd, rl⟩ := id ra
  have rl' := RpTs.of1 rl
  obtain ⟨a, vs, fp', ea, ow, la, rr⟩ := rl'
  cases ea
  have ow' : fl = p :: fp' := ow
  subst ow'
  have la' : H p = some (.lst vs) := la
  refine ⟨vs, la', rr.length, ?_⟩
  have nd := o.ndA
  have nda := List.nodup_append.mp nd
  have nac : p ∉ fp' := (List.nodup_cons.mp nda.2.1).1
  have nad : p ∉ fd := fun h => nda.2.2 p h p List.mem_cons_self rfl
  have k : ∀ b u, H b = some u → ¬ (b = p) → upd H p (.lst (vs.set i y)) b = some u := fun b u e n => by rw [upd_ne n]; exact e
  have mm : ∀ b, b = p → Mut (H b) ∧ A.nn (fd ++ p :: fp' ++ f0 ++ f2) b := fun b e => by
    subst e
    exact ⟨by rw [la']; trivial, .inr (by simp)⟩
  -- at H the new parts stand already
  obtain ⟨f1, fm, f2', efp, rs⟩ := Rps.setAt (i := i) rr hi rd
  have sub : ∀ b, b ∈ (p :: (f1 ++ fd ++ f2')) → b ∈ fd ++ p :: fp' := fun b hb => by
    rw [efp]
    simp only [List.mem_cons, List.mem_append] at hb ⊢
    rcases hb with z | (z | z) | z
    · exact .inr (.inl z)
    · exact .inr (.inr (.inl (.inl z)))
    · exact .inl z
    · exact .inr (.inr (.inr z))
  have n : ∀ b, A.nn ((p :: (f1 ++ fd ++ f2')) ++ f0 ++ f2) b → A.nn (fd ++ p :: fp' ++ f0 ++ f2) b ∨ H b = none := fun b z => .inl (z.imp id fun z => by
    rw [List.append_assoc] at z ⊢
    rcases List.mem_append.mp z with z | z
    · exact List.mem_append_left _ (sub b z)
    · exact List.mem_append_right _ z)
  have npf : p ∉ f1 ++ fd ++ f2' := fun h => by
    rw [efp] at nac
    simp only [List.mem_append] at h nac
    rcases h with (h | h) | h
    · exact nac (.inl (.inl h))
    · exact nad h
    · exact nac (.inr h)
  have t := Okk.turn (M := fun b => b = p) (as' := [(.ref p, .tmp (.lst true (xs.set i d)))]) (fa' := p :: (f1 ++ fd ++ f2')) (H' := upd H p (.lst (vs.set i y))) o ra r0 k (fun b e => by subst e; simp) (.inr st)
    (List.nodup_cons.mpr ⟨npf, ?_⟩) (fun b hb => .inl (sub b hb)) (RpTs.one ?_)
  · exact ⟨_, _, t⟩
  · have nd1 : (fd ++ (f1 ++ fm ++ f2')).Nodup := by
      rw [efp] at nda
      exact List.nodup_append.mpr ⟨nda.1, (List.nodup_cons.mp nda.2.1).2, fun b hb c hc e => nda.2.2 b hb c (List.mem_cons_of_mem _ hc) e⟩
    have pm : (fd ++ (f1 ++ fm ++ f2')).Perm (fm ++ (f1 ++ fd ++ f2')) := by
      refine List.perm_iff_count.mpr fun a => ?_
      simp only [List.count_append]
      omega
    exact (List.nodup_append.mp (pm.nodup_iff.mp nd1)).2.1
  · exact ⟨p, vs.set i y, _, rfl, rfl, upd_same, Rps.frame (M := fun b => b = p) k mm n _ (fun b hb e => npf (e ▸ hb)) rs⟩
end
section
variable {X : Cx} {io : List Nat} {m m1 m2 : Bool} {a b o i : Expr} {ta tb to ti : TD} {pos : Pos}
/-- a[k] = .., a list -/
def gSubL (m2 : Bool) (to ti : TD) : TGD := fun d env Q => d2 m2 to ti env (fun xs e => match xs with
  | [.pl j p, y] => (match y.vw e with
    | some (_, .int k) => (match plAt e j p with
      | some (.lst true xs) => (match ixN xs.length k with
        | some n => Q (plPut e j p (.lst true (xs.set n d)))
        | none => False)
      | _ => False)
    | _ => False)
  | _ => False) noW
theorem ixN_lt {n : Nat} {i : Int} {j : Nat} (h : ixN n i = some j) : j < n := (ixN_seq h).2.1
theorem pgd_subL (ho : PD X m1 o to) (hi : PD X m2 i ti) (ha : ∀ v, assign (.Subscript o i pos) X.env v = (do
      let ov ← holding [v] (eval o X.env)
      let iv ← holding [v, ov] (eval i X.env)
      standAt pos
      holding [v, ov, iv] (setItem ov iv v)
      release [v, ov, iv] []) := by intro _; rfl) : PGD X io (.Subscript o i pos) (gSubL m2 to ti) := ⟨by
  obtain ⟨t1, t2, p1, p2, h⟩ := two ho hi (W0 := fun _ _ _ _ => False) takesF
  refine ⟨_, pg_sub p1 p2 set_list ha, fun A τ σ env H v d Q R ok tm fx hd hR => ?_⟩
  refine h A ((v, .tmp d) :: τ) σ env H _ noW _ ok (fun _ => tm.cons.st) (fun _ _ _ _ _ _ _ z => z.elim) hd fun ov kv H' x y e ok' q => ?_
  split at q
  · rename_i _ j p y' exs
    cases exs
    split at q
    · rename_i b k hk
      split at q
      · rename_i xs hp
        split at q
        · rename_i n hn
          have ok1 : Ok X.K A ((kv, y) :: (ov, .pl j p) :: (v, .tmp d) :: τ) σ e H' := ok'.perm (List.Perm.swap _ _ _)
          have rk := ok1.atom hk rfl (fun _ => False)
          have ek : kv = .int k := rk.1
          obtain ⟨env1, ok2, back⟩ := Ok.at (Ok.drop (as := [(kv, y)]) ok1) hp
          obtain ⟨a, eo⟩ : ∃ a, ov = .ref a := by
            obtain ⟨fa, f0, f2, o, ra, r0⟩ := Ok.cut (as := [(ov, .tmp (.lst true xs))]) ok2
            obtain ⟨a, vs, fp', ea, _⟩ := RpTs.of1 ra
            exact ⟨a, ea⟩
          subst eo
          obtain ⟨us, hl, el, ok3⟩ := Ok.set1 (i := n) (ok2.perm (List.Perm.swap _ _ _)) (ixN_lt hn) tm.st
          exact ⟨a, us, k, n, rfl, ek, hl, by rw [← el]; exact hn, hR _ _ _ (back ok3) q⟩
        · exact q.elim
      · exact q.elim
    · exact q.elim
  · exact q.elim⟩
/-- a.append(e) -/
def dApp (m2 : Bool) (ta tb : TD) : TD := fun env Q W => ta env (fun x e0 => (m2 = true → x.stay = true) ∧ (match x with
  | .pl j p => (match plAt e0 j p with | some (.lst _ _) => True | _ => False) ∧ tb e0 (fun y e => match y.tk e with
    | some (d, e1) => (match plAt e1 j p with
      | some (.lst true xs) => xs.length < sizeLine ∧ Q (.tmp .non) (plPut e1 j p (.lst true (xs ++ [d])))
      | _ => False)
    | none => False) W
  | _ => False)) W
theorem pd_app {apos cpos : Pos} (ha : PD X m1 a ta) (hb : PD X m2 b tb)
    (hbase : attributeBase a "append" X.env (eval a X.env) = eval a X.env := by rfl)
    (hfew : ((backTo cpos (starEach [b] X.env)).all (fun x => !x.1) && (backToKw cpos (keywordEach [] X.env)).all (fun x => x.1.isSome)
      && decide ([b].length + ([] : List Keyword).length + (if ([] : List Keyword).isEmpty then 0 else 1) < 30)) = true := by rfl)
    (hline : (apos.endLine == cpos.line) = true := by rfl) (hs : starEach [b] X.env = (false, eval b X.env) :: starEach [] X.env := by rfl) (hplain : (backTo cpos (starEach [] X.env)).any (·.1) = false := by rfl) :
    PD X true (.Call (.Attribute a "append" apos) [b] [] cpos) (dApp m2 ta tb) := ⟨fun W0 tk => by
  obtain ⟨t1, p1, q1⟩ := ha.ex W0 tk
  obtain ⟨t2, p2, q2⟩ := hb.ex W0 tk
  refine ⟨_, pe_bm PySem.F.plainAttrs_list PySem.F.slot_list_append PySem.F.type_list_append mt_append p1 (pa_cons p2 pa_nil hs) hbase hfew hline hs hplain, fun A τ σ env H Q W R ok st hW hd hR => ?_⟩
  refine q1 A τ σ env H _ W _ ok (fun _ => st rfl) hW hd fun v H1 x e0 ok1 ⟨sx, h1⟩ => ?_
  cases x with
  | pl j p =>
    obtain ⟨hl0, h1⟩ := h1
    refine ⟨?_, ?_⟩
    · cases hc : plAt e0 j p with
      | none => rw [hc] at hl0; exact hl0.elim
      | some c =>
        rw [hc] at hl0
        cases c with
        | lst o xs =>
          obtain ⟨env1, ok2, _⟩ := Ok.at ok1 hc
          obtain ⟨fa, f0, f2, o', ra, r0⟩ := Ok.cut (as := [(v, .tmp (.lst o xs))]) ok2
          obtain ⟨a, vs, fp', rfl, ow, la, _⟩ := RpTs.of1 ra
          refine .inl ⟨rfl, vs, ?_⟩
          cases o with
          | true => exact SqL.of la
          | false => exact SqL.of la.2
        | _ => exact hl0.elim
    · refine q2 A ((v, .pl j p) :: τ) σ e0 H1 _ W _ ok1 (fun z => stays_cons (sx z) (st rfl)) (HW.pop (as := [(v, .pl j p)]) hW) h1 fun y H2 ty e ok2 h2 => ?_
      split at h2
      · rename_i d e1 hv
        split at h2
        · rename_i xs hp
          have ok3 := tk1 ok2 hv
          obtain ⟨env1, ok4, back⟩ := Ok.at (ok3.perm (List.Perm.swap _ _ _)) hp
          obtain ⟨a, eo⟩ : ∃ a, v = .ref a := by
            obtain ⟨fa, f0, f2, o, ra, r0⟩ := Ok.cut (as := [(v, .tmp (.lst true xs))]) ok4
            obtain ⟨a, vs, fp', ea, _⟩ := RpTs.of1 ra
            exact ⟨a, ea⟩
          subst eo
          obtain ⟨us, hl, el, ok5⟩ := Ok.push1 (ok4.perm (List.Perm.swap _ _ _)) (st rfl)
          exact ⟨a, us, y, rfl, rfl, hl, by rw [← el]; exact h2.1, hR _ _ (.tmp .non) _ ((back ok5).pushD (d := .non) fun N => ⟨rfl, rfl⟩) h2.2⟩
        · exact h2.elim
      · exact h2.elim
  | _ => exact h1.elim⟩
end
end Pd

namespace Pd
open PySem L2 PyProof.Rows
/-! ### a def that may be called, in one piece -/
def Cal (P : Program) (w : World) (K : PySem.W.Frag) (mg : Str → Option Value) (base : Heap) (k : Nat) (x : Str) (ps : List Str) (io : List Nat) (S : SD) : Prop :=
  ∃ f fd, FnOk P w K mg base (L2.CX P w) k f fd ps (SpD K io S) ∧ mg x = some (.ref f) ∧ PySem.W.keepIn K (.ref f) = true ∧ Binds K fd ps []
theorem Cal.mono {P : Program} {w : World} {K : PySem.W.Frag} {mg : Str → Option Value} {base : Heap} {k j : Nat} {x : Str} {ps : List Str} {io : List Nat} {S : SD} (h : Cal P w K mg base k x ps io S) (l : k ≤ j) : Cal P w K mg base j x ps io S := by
  obtain ⟨f, fd, F, h⟩ := h
  exact ⟨f, fd, F.mono l, h⟩
section
variable {X : Cx} {m : Bool} {k : Nat} {ps : List Str} {S : SD} {x : Str} {p pos : Pos} {e : Expr} {es : List Expr} {ta : TDs} {io : List Nat}
theorem pd_cal (C : Cal X.prog X.w X.K X.mg X.base k x ps [] S) (hr : Room k X.A) (hg : Gl X x)
    (ha : PDs X m (e :: es) ta) (hdb : (x == ("__debug__" : Str)) = false := by decide) (he : starEach (e :: es) X.env = (false, eval e X.env) :: starEach es X.env := by rfl) (hpl : (backTo pos (starEach es X.env)).any (·.1) = false := by rfl) :
    PD X m (.Call (.Name x p) (e :: es) [] pos) (dCall S ta) := by
  obtain ⟨f, fd, F, hm, hk, hb⟩ := C
  exact pd_call F hr hg hm hk hb ha hdb he hpl
theorem pd_calIO (C : Cal X.prog X.w X.K X.mg X.base k x ps io S) (hr : Room k X.A) (hg : Gl X x)
    (ha : PDs X m (e :: es) ta) (hdb : (x == ("__debug__" : Str)) = false := by decide) (he : starEach (e :: es) X.env = (false, eval e X.env) :: starEach es X.env := by rfl) (hpl : (backTo pos (starEach es X.env)).any (·.1) = false := by rfl) :
    PD X true (.Call (.Name x p) (e :: es) [] pos) (dCallIO io S ta) := by
  obtain ⟨f, fd, F, hm, hk, hb⟩ := C
  exact pd_callIO F hr hg hm hk hb ha hdb he hpl
/-- a built-in type's name -/
theorem pd_bty {x : Str} {T : String} {pos : Pos} (hg : Gl X x) (hm : X.mg x = none) (hv : bootBuiltins x = some (.type T)) (hn : x ≠ "__name__" := by decide) (hd : (x == ("__debug__" : Str)) = false := by decide) : PD X false (.Name x pos) (dC (.raw (.ty T))) :=
  pd_const (pe_bltn hg hm hv (show RelV (.ty T) (.type T) from rfl) hn hd) fun _ _ _ => ⟨rfl, rfl⟩
theorem pd_negc {i : Int} {j} {pos pos' : Pos} : PD X false (.UnaryOp .USub (.Constant (.int i) j pos') pos) (dC (.int (-i))) := ⟨fun W0 tk => by
  obtain ⟨t1, p1, h1⟩ := (pd_int (X := X) (i := i) (j := j) (pos := pos')).ex W0 tk
  refine ⟨_, pe_un un_neg p1, fun A τ σ env H Q W R ok st hW hd hR => ?_⟩
  refine h1 A τ σ env H (fun x e => x = .tmp (.int i) ∧ e = env) W _ ok (fun z => nomatch z) hW ⟨rfl, rfl⟩ fun v1 H1 x1 e1 ok1 q1 => ?_
  obtain ⟨rfl, rfl⟩ := q1
  have ev : v1 = .int i := by
    obtain ⟨fa, f0, f2, o, ra, r0⟩ := Ok.cut (as := [(v1, .tmp (.int i))]) ok1
    exact (RpTs.of1 ra).1
  exact ⟨i, ev, hR _ _ (.tmp (.int (-i))) e1 ((Ok.drop (as := [(v1, .tmp (.int i))]) ok1).pushD (d := .int (-i)) fun N => ⟨rfl, rfl⟩) hd⟩⟩
end
/-- never promised: nothing to prove -/
theorem fnNever {P : Program} {w : World} {K : PySem.W.Frag} {mg : Str → Option Value} {base : Heap} {k : Nat} {f : Addr} {fd : FuncData} {ps : List Str} {io : List Nat} : FnOk P w K mg base (L2.CX P w) k f fd ps (SpD K io fun _ _ _ => False) :=
  ⟨fun vs H Q E h => by obtain ⟨_, _, _, _, _, _, _, h, _⟩ := h; exact h.elim, fun A outer s H args us vs Q E _ _ _ _ h => by obtain ⟨_, _, _, _, _, _, _, h, _⟩ := h; exact h.elim⟩
end Pd

namespace Pd
open PySem L2 PyProof.Rows
/-! ### the law's own head -/
theorem cx_no (P : Program) (w : World) (H : Hp) (s : Shared) (e : Value) (s' : Shared) (h : L2.CX P w [] H s (fun _ _ _ => False) e s') : False := by
  first
    | exact h.elim
    | (unfold L2.CX at h; simp at h)
    | (obtain ⟨_, h⟩ := h; exact h.elim)
theorem law_start {K : PySem.W.Frag} {H : Hp} {a : Addr} {ns : List Int} {n : Nat} {S : SD} (hl : ns.length ≤ n) (hb : ∀ z ∈ ns, Builtin.Int.intBits z ≤ 1048576) (hO : Only H) (hS : SqL K H a (ns.map V.int))
    (h : ∀ ns : List Int, ns.length ≤ n → (∀ z ∈ ns, Builtin.Int.intBits z ≤ 1048576) → S [.frl false (ns.map .int)] (fun d _ => d = .bl true) (fun _ _ => False)) : SpD K [] S [.ref a] H (fun v _ => v = .bl true) fun _ _ _ => False := by
  have hf : FAt K H false a (ns.map V.int) := by
    rcases hS with (h | h) | h
    · rcases hO a with z | ⟨o, xs, z⟩
      · rw [h] at z; cases z
      · rw [h] at z; cases z
    · exact .inl h
    · exact .inr h
  have rr : ∀ ns : List Int, Rps K H (fun _ => False) (ns.map D.int) (ns.map V.int) [] := fun ns => by
    induction ns with
    | nil => exact Rps.nil
    | cons i ns ih => exact Rps.cons (f1 := []) (⟨rfl, rfl⟩ : Rp K H _ (.int i) (.int i) []) ih
  refine ⟨⟨H, fun _ => False, fun _ => False, []⟩, [.frl false (ns.map .int)], fun d _ => d = .bl true, fun _ _ => False, rfl, rfl, ⟨[], [], rfl, ?_, List.nodup_nil, (fun a h => nomatch h), fun _ _ e _ => e, fun _ z => z.elim, fun _ z => nomatch z⟩, h ns hl hb, fun v H' x env' ok hx => ?_, fun _ _ _ _ _ _ _ z => z⟩
  · refine ⟨some (.ref a), [], [], [], rfl, rfl, ⟨rfl, a, ns.map V.int, rfl, hf, ?_⟩, rfl, rfl⟩
    exact Rps.grow (rr ns) (Ext.refl H) fun b z => by
      rcases z with z | z
      · exact .inl z
      · cases z
  · have hx' : x = .bl true := hx
    subst hx'
    exact Ok.bl ok
theorem bt_len : bootBuiltins "len" = some (.builtin "len") := by decide +kernel
theorem bt_abs : bootBuiltins "abs" = some (.builtin "abs") := by decide +kernel
theorem bt_isinstance : bootBuiltins "isinstance" = some (.builtin "isinstance") := by decide +kernel
theorem bt_max : bootBuiltins "max" = some (.builtin "max") := by decide +kernel
theorem bt_min : bootBuiltins "min" = some (.builtin "min") := by decide +kernel
theorem bt_sum : bootBuiltins "sum" = some (.builtin "sum") := by decide +kernel
theorem bt_any : bootBuiltins "any" = some (.builtin "any") := by decide +kernel
theorem bt_all : bootBuiltins "all" = some (.builtin "all") := by decide +kernel
theorem bt_sorted : bootBuiltins "sorted" = some (.builtin "sorted") := by decide +kernel
theorem bt_ord : bootBuiltins "ord" = some (.builtin "ord") := by decide +kernel
theorem bt_chr : bootBuiltins "chr" = some (.builtin "chr") := by decide +kernel
theorem bt_hash : bootBuiltins "hash" = some (.builtin "hash") := by decide +kernel
theorem bt_divmod : bootBuiltins "divmod" = some (.builtin "divmod") := by decide +kernel
theorem bt_getattr : bootBuiltins "getattr" = some (.builtin "getattr") := by decide +kernel
theorem bt_repr : bootBuiltins "repr" = some (.builtin "repr") := by decide +kernel
theorem bt_iter : bootBuiltins "iter" = some (.builtin "iter") := by decide +kernel
theorem bt_next : bootBuiltins "next" = some (.builtin "next") := by decide +kernel
theorem bt_id : bootBuiltins "id" = some (.builtin "id") := by decide +kernel
theorem bt_round : bootBuiltins "round" = some (.builtin "round") := by decide +kernel
theorem bt_pow : bootBuiltins "pow" = some (.builtin "pow") := by decide +kernel
theorem bt_int : bootBuiltins "int" = some (.type "int") := by decide +kernel
theorem bt_str : bootBuiltins "str" = some (.type "str") := by decide +kernel
theorem bt_bool : bootBuiltins "bool" = some (.type "bool") := by decide +kernel
theorem bt_list : bootBuiltins "list" = some (.type "list") := by decide +kernel
theorem bt_tuple : bootBuiltins "tuple" = some (.type "tuple") := by decide +kernel
theorem bt_dict : bootBuiltins "dict" = some (.type "dict") := by decide +kernel
theorem bt_set : bootBuiltins "set" = some (.type "set") := by decide +kernel
theorem bt_range : bootBuiltins "range" = some (.type "range") := by decide +kernel
theorem bt_bytes : bootBuiltins "bytes" = some (.type "bytes") := by decide +kernel
theorem bt_enumerate : bootBuiltins "enumerate" = some (.type "enumerate") := by decide +kernel
theorem bt_zip : bootBuiltins "zip" = some (.type "zip") := by decide +kernel
theorem bt_reversed : bootBuiltins "reversed" = some (.type "reversed") := by decide +kernel
theorem bt_type : bootBuiltins "type" = some (.type "type") := by decide +kernel
theorem bt_frozenset : bootBuiltins "frozenset" = some (.type "frozenset") := by decide +kernel
theorem bt_float : bootBuiltins "float" = some (.type "float") := by decide +kernel
theorem bt_object : bootBuiltins "object" = some (.type "object") := by decide +kernel
end Pd

namespace Pd
open PySem
/-! ### exact numbers: an int, or a pair (above, below) -/
def nD (q : Rat) : D := if q.den = 1 then .int q.num else .tup [.int q.num, .int q.den]
theorem nD_cases (q : Rat) : (q.den = 1 ∧ nD q = .int q.num) ∨ (q.den ≠ 1 ∧ nD q = .tup [.int q.num, .int q.den]) := by
  unfold nD
  by_cases h : q.den = 1
  · exact .inl ⟨h, if_pos h⟩
  · exact .inr ⟨h, if_neg h⟩
@[simp] theorem nD_isSh (q : Rat) : isSh (nD q) = true := by rcases nD_cases q with ⟨_, e⟩ | ⟨_, e⟩ <;> rw [e] <;> rfl
@[simp] theorem nD_noOb (q : Rat) : noOb (nD q) = true := by rcases nD_cases q with ⟨_, e⟩ | ⟨_, e⟩ <;> rw [e] <;> rfl
@[simp] theorem nD_noAl (q : Rat) : noAl (nD q) = true := by rcases nD_cases q with ⟨_, e⟩ | ⟨_, e⟩ <;> rw [e] <;> rfl
@[simp] theorem nD_fz (q : Rat) : fz (nD q) = nD q := by rcases nD_cases q with ⟨_, e⟩ | ⟨_, e⟩ <;> rw [e] <;> rfl
@[simp] theorem nD_pyOk (q : Rat) : pyOk (nD q) = true := by rcases nD_cases q with ⟨_, e⟩ | ⟨_, e⟩ <;> rw [e] <;> rfl
theorem nD_int (i : Int) : nD (i : Rat) = .int i := by
  unfold nD
  rw [Rat.den_intCast, if_pos rfl, Rat.num_intCast]
theorem rat_ext {p q : Rat} (h1 : p.num = q.num) (h2 : (p.den : Int) = q.den) : p = q := Rat.ext h1 (by exact_mod_cast h2)
theorem nD_inj {p q : Rat} (h : nD p = nD q) : p = q := by
  rcases nD_cases p with ⟨a, e⟩ | ⟨a, e⟩ <;> rcases nD_cases q with ⟨b, f⟩ | ⟨b, f⟩ <;> rw [e, f] at h
  · injection h with h
    exact Rat.ext h (a.trans b.symm)
  · cases h
  · cases h
  · injection h with h
    injection h with h1 h2
    injection h1 with h1
    injection h2 with h2 _
    injection h2 with h2
    exact rat_ext h1 h2
/-- sizes -/
def sz (n : Nat) (q : Rat) : Prop := q.num.natAbs < 2 ^ n ∧ q.den < 2 ^ n
theorem log2_of {x n : Nat} (h : x < 2 ^ n) : x.log2 ≤ n := by
  by_cases hx : x = 0
  · subst hx; simp
  · exact Nat.le_of_lt ((Nat.log2_lt hx).mpr h)
theorem sz.mono {m n : Nat} {q : Rat} (h : sz m q) (l : m ≤ n) : sz n q :=
  have := Nat.pow_le_pow_right (n := 2) (by decide) l
  ⟨Nat.lt_of_lt_of_le h.1 this, Nat.lt_of_lt_of_le h.2 this⟩
theorem sz_int {n : Nat} {i : Int} (h : i.natAbs < 2 ^ n) (hn : 0 < n) : sz n (i : Rat) := ⟨by rw [Rat.num_intCast]; exact h, by rw [Rat.den_intCast]; exact Nat.one_lt_two_pow (by omega)⟩
theorem natAbs_div_le (a : Int) (g : Nat) : (a / (g : Int)).natAbs ≤ a.natAbs := by
  rcases Nat.eq_zero_or_pos g with rfl | h
  · simp
  · rcases Int.le_total 0 a with ha | ha
    · obtain ⟨n, rfl⟩ := Int.eq_ofNat_of_zero_le ha
      rw [← Int.natCast_ediv, Int.natAbs_natCast, Int.natAbs_natCast]
      exact Nat.div_le_self _ _
    · have h1 := Int.ediv_mul_le a (show (g : Int) ≠ 0 by omega)
      have h2 := Int.lt_ediv_add_one_mul_self a (show (0 : Int) < g by omega)
      have h3 : a / (g : Int) ≤ 0 := by
        rcases Int.lt_or_le 0 (a / (g : Int)) with z | z
        · have : (1 : Int) * g ≤ a / g * g := Int.mul_le_mul_of_nonneg_right (by omega) (by omega)
          omega
        · exact z
      have h4 : a ≤ a / (g : Int) := by
        rcases Int.lt_or_le (a / (g : Int)) a with z | z
        · have : (a / (g : Int) + 1) * g ≤ (a / (g : Int) + 1) * 1 := by
            rcases Int.lt_or_le (a / (g : Int)) (-1) with y | y
            · exact Int.mul_le_mul_of_nonpos_left (by omega) (by omega)
            · have : a / (g : Int) = -1 ∨ a / (g : Int) = 0 := by omega
              rcases this with e | e
              · rw [e]; simp
              · rw [e] at z; omega
          omega
        · exact z
      omega
theorem sz_mkRat {n : Nat} {a : Int} {d : Nat} (h1 : a.natAbs < 2 ^ n) (h2 : d < 2 ^ n) (hn : 0 < n) : sz n (mkRat a d) := by
  refine ⟨?_, ?_⟩
  · rw [Rat.num_mkRat]
    split
    · exact Nat.pow_pos (by decide)
    · exact Nat.lt_of_le_of_lt (natAbs_div_le _ _) h1
  · rw [Rat.den_mkRat]
    split
    · exact Nat.one_lt_two_pow (by omega)
    · exact Nat.lt_of_le_of_lt (Nat.div_le_self _ _) h2
theorem mul_lt_pow {a b m n : Nat} (h1 : a < 2 ^ m) (h2 : b < 2 ^ n) : a * b < 2 ^ (m + n) := by
  rw [Nat.pow_add]
  exact Nat.mul_lt_mul'' h1 h2
theorem sz_mul {m n : Nat} {p q : Rat} (hp : sz m p) (hq : sz n q) (h : 0 < m + n) : sz (m + n) (p * q) := by
  rw [Rat.mul_def']
  refine sz_mkRat ?_ (mul_lt_pow hp.2 hq.2) h
  rw [Int.natAbs_mul]
  exact mul_lt_pow hp.1 hq.1
theorem sz_add {m n : Nat} {p q : Rat} (hp : sz m p) (hq : sz n q) : sz (m + n + 1) (p + q) := by
  rw [Rat.add_def']
  have e : 2 ^ (m + n + 1) = 2 ^ (m + n) + 2 ^ (m + n) := by rw [Nat.pow_succ, Nat.mul_two]
  refine sz_mkRat ?_ ?_ (by omega)
  · have h1 : (p.num * q.den).natAbs < 2 ^ (m + n) := by
      rw [Int.natAbs_mul, Int.natAbs_natCast]; exact mul_lt_pow hp.1 hq.2
    have h2 : (q.num * p.den).natAbs < 2 ^ (m + n) := by
      rw [Int.natAbs_mul, Int.natAbs_natCast, Nat.mul_comm]; exact mul_lt_pow hp.2 hq.1
    have h3 := Int.natAbs_add_le (p.num * q.den) (q.num * p.den)
    omega
  · have := mul_lt_pow hp.2 hq.2
    omega
theorem sz_neg {n : Nat} {p : Rat} (hp : sz n p) : sz n (-p) := ⟨by rw [Rat.neg_num, Int.natAbs_neg]; exact hp.1, by rw [Rat.neg_den]; exact hp.2⟩
theorem sz_sub {m n : Nat} {p q : Rat} (hp : sz m p) (hq : sz n q) : sz (m + n + 1) (p - q) := by
  rw [Rat.sub_eq_add_neg]
  exact sz_add hp (sz_neg hq)
theorem sz_inv {n : Nat} {q : Rat} (hq : sz n q) (h : 0 < n) : sz n q⁻¹ := by
  refine ⟨?_, ?_⟩
  · rw [Rat.num_inv, Int.natAbs_mul, Int.natAbs_natCast]
    refine Nat.lt_of_le_of_lt ?_ hq.2
    have : q.num.sign.natAbs ≤ 1 := by
      rcases Int.lt_trichotomy q.num 0 with z | z | z
      · rw [Int.sign_eq_neg_one_of_neg z]; decide
      · rw [z]; decide
      · rw [Int.sign_eq_one_of_pos z]; decide
    calc q.num.sign.natAbs * q.den ≤ 1 * q.den := Nat.mul_le_mul_right _ this
      _ = q.den := Nat.one_mul _
  · rw [Rat.den_inv]
    split
    · exact Nat.one_lt_two_pow (by omega)
    · exact hq.1
theorem sz_div {m n : Nat} {p q : Rat} (hp : sz m p) (hq : sz n q) (h : 0 < n) : sz (m + n) (p / q) := by
  rw [Rat.div_def]
  exact sz_mul hp (sz_inv hq h) (by omega)
/-! ### a fraction of two ints, in its least form -/
theorem divInt_pos {p q : Int} (hq : 0 < q) : (Rat.divInt p q).num = p / (Nat.gcd p.natAbs q.natAbs : Int) ∧ ((Rat.divInt p q).den : Int) = q / (Nat.gcd p.natAbs q.natAbs : Int) := by
  have g : (q.gcd p : Int) = (Nat.gcd p.natAbs q.natAbs : Nat) := by
    rw [Int.gcd_comm]; rfl
  refine ⟨?_, ?_⟩
  · rw [Rat.num_divInt, Int.sign_eq_one_of_pos hq, Int.one_mul, g]
  · rw [Rat.den_divInt, if_neg (by omega)]
    have e : q = (q.natAbs : Int) := by omega
    rw [show (q.gcd p) = Nat.gcd p.natAbs q.natAbs by rw [Int.gcd_comm]; rfl]
    rw [Int.natCast_ediv, ← e]
theorem add_divInt (p q : Rat) : p + q = Rat.divInt (p.num * q.den + q.num * p.den) (p.den * q.den) := by
  rw [Rat.add_def', ← Rat.divInt_ofNat, Int.natCast_mul]
theorem mul_divInt (p q : Rat) : p * q = Rat.divInt (p.num * q.num) (p.den * q.den) := by
  rw [Rat.mul_def', ← Rat.divInt_ofNat, Int.natCast_mul]
theorem div_divInt (p q : Rat) : p / q = Rat.divInt (p.num * q.den) (p.den * q.num) := by
  rw [Rat.div_def, Rat.inv_def]
  conv => lhs; rw [← Rat.num_divInt_den p]
  rw [Rat.divInt_mul_divInt]
theorem lt_iff' (p q : Rat) : p < q ↔ p.num * q.den < q.num * p.den := Rat.lt_iff p q
theorem den_pos (q : Rat) : (0 : Int) < q.den := by have := q.den_pos; omega
end Pd

namespace Pd
open PySem
/-! ### lists of plain things -/
theorem isShs_map {α : Type} {f : α → D} (h : ∀ a, isSh (f a) = true) (l : List α) : isShs (l.map f) = true := by
  rw [isShs_all, List.all_eq_true]
  intro x hx
  obtain ⟨a, _, rfl⟩ := List.mem_map.mp hx
  exact h a
theorem noObs_map {α : Type} {f : α → D} (h : ∀ a, noOb (f a) = true) (l : List α) : noObs (l.map f) = true := by
  rw [noObs_all, List.all_eq_true]
  intro x hx
  obtain ⟨a, _, rfl⟩ := List.mem_map.mp hx
  exact h a
theorem noAls_map {α : Type} {f : α → D} (h : ∀ a, noAl (f a) = true) (l : List α) : noAls (l.map f) = true := by
  rw [noAls_all, List.all_eq_true]
  intro x hx
  obtain ⟨a, _, rfl⟩ := List.mem_map.mp hx
  exact h a
theorem pyOks_map {α : Type} {f : α → D} (h : ∀ a, pyOk (f a) = true) (l : List α) : pyOks (l.map f) = true := by
  rw [pyOks_all, List.all_eq_true]
  intro x hx
  obtain ⟨a, _, rfl⟩ := List.mem_map.mp hx
  exact h a
theorem fzs_mapG {α : Type} {f : α → D} (h : ∀ a, fz (f a) = f a) (l : List α) : fzs (l.map f) = l.map f := by
  rw [fzs_map, List.map_map]
  exact List.map_congr_left fun a _ => h a
@[simp] theorem isShs_ints (l : List Int) : isShs (l.map .int) = true := isShs_map (fun _ => rfl) l
@[simp] theorem noObs_ints (l : List Int) : noObs (l.map .int) = true := noObs_map (fun _ => rfl) l
@[simp] theorem noAls_ints (l : List Int) : noAls (l.map .int) = true := noAls_map (fun _ => rfl) l
@[simp] theorem pyOks_ints (l : List Int) : pyOks (l.map .int) = true := pyOks_map (fun _ => rfl) l
@[simp] theorem fzs_ints (l : List Int) : fzs (l.map .int) = l.map .int := fzs_mapG (fun _ => rfl) l
@[simp] theorem isShs_nDs (l : List Rat) : isShs (l.map nD) = true := isShs_map nD_isSh l
@[simp] theorem noObs_nDs (l : List Rat) : noObs (l.map nD) = true := noObs_map nD_noOb l
@[simp] theorem noAls_nDs (l : List Rat) : noAls (l.map nD) = true := noAls_map nD_noAl l
@[simp] theorem pyOks_nDs (l : List Rat) : pyOks (l.map nD) = true := pyOks_map nD_pyOk l
@[simp] theorem fzs_nDs (l : List Rat) : fzs (l.map nD) = l.map nD := fzs_mapG nD_fz l
@[simp] theorem isShs_app (a b : List D) : isShs (a ++ b) = (isShs a && isShs b) := by simp [isShs_all]
@[simp] theorem noObs_append (a b : List D) : noObs (a ++ b) = (noObs a && noObs b) := by simp [noObs_all]
@[simp] theorem noAls_append (a b : List D) : noAls (a ++ b) = (noAls a && noAls b) := by simp [noAls_all]
@[simp] theorem pyOks_append (a b : List D) : pyOks (a ++ b) = (pyOks a && pyOks b) := by simp [pyOks_all]
@[simp] theorem fzs_append (a b : List D) : fzs (a ++ b) = fzs a ++ fzs b := by simp [fzs_map]
@[simp] theorem toPys_append (a b : List D) : toPys (a ++ b) = toPys a ++ toPys b := by simp [toPys_map]
theorem fzs_len (l : List D) : (fzs l).length = l.length := by simp [fzs_map]
theorem fz_of_sh {d : D} (h : isSh d = true) (h2 : noAl d = true) : True := trivial
mutual
theorem noOb_fz : ∀ d : D, noOb (fz d) = noOb d
  | .non => rfl
  | .bl _ => rfl
  | .int _ => rfl
  | .str _ => rfl
  | .raw _ => rfl
  | .tup xs => noObs_fz xs
  | .lst _ xs => noObs_fz xs
  | .frl _ xs => noObs_fz xs
  | .dic _ _ _ xs => noObs_fz xs
  | .obj _ _ _ => rfl
theorem noObs_fz : ∀ d : List D, noObs (fzs d) = noObs d
  | [] => rfl
  | d :: ds => by show (noOb (fz d) && noObs (fzs ds)) = (noOb d && noObs ds); rw [noOb_fz d, noObs_fz ds]
end
mutual
theorem pyOk_fz : ∀ d : D, pyOk (fz d) = pyOk d
  | .non => rfl
  | .bl _ => rfl
  | .int _ => rfl
  | .str _ => rfl
  | .raw _ => rfl
  | .tup xs => pyOks_fz xs
  | .lst _ xs => pyOks_fz xs
  | .frl _ xs => pyOks_fz xs
  | .dic _ _ _ xs => rfl
  | .obj _ _ _ => rfl
theorem pyOks_fz : ∀ d : List D, pyOks (fzs d) = pyOks d
  | [] => rfl
  | d :: ds => by show (pyOk (fz d) && pyOks (fzs ds)) = (pyOk d && pyOks ds); rw [pyOk_fz d, pyOks_fz ds]
end
mutual
theorem fz_fz : ∀ d : D, fz (fz d) = fz d
  | .non => rfl
  | .bl _ => rfl
  | .int _ => rfl
  | .str _ => rfl
  | .raw _ => rfl
  | .tup xs => by show D.tup _ = D.tup _; rw [fzs_fz xs]
  | .lst _ xs => by show D.lst _ _ = D.lst _ _; rw [fzs_fz xs]
  | .frl _ xs => by show D.frl _ _ = D.frl _ _; rw [fzs_fz xs]
  | .dic _ _ ks xs => by show D.dic _ _ _ _ = D.dic _ _ _ _; rw [fzs_fz ks, fzs_fz xs]
  | .obj _ _ _ => rfl
theorem fzs_fz : ∀ d : List D, fzs (fzs d) = fzs d
  | [] => rfl
  | d :: ds => by show fz (fz d) :: fzs (fzs ds) = fz d :: fzs ds; rw [fz_fz d, fzs_fz ds]
end
mutual
theorem fz_id : ∀ d : D, isSh d = true → pyOk d = true → fz d = d
  | .non, _, _ => rfl
  | .bl _, _, _ => rfl
  | .int _, _, _ => rfl
  | .str _, _, _ => rfl
  | .raw _, _, _ => rfl
  | .tup xs, h, k => by show D.tup _ = D.tup _; rw [fzs_id xs h k]
  | .frl _ xs, h, k => by show D.frl _ _ = D.frl _ _; rw [fzs_id xs h k]
  | .lst o xs, h, k => by
    have h' : (!o && isShs xs) = true := h
    rw [Bool.and_eq_true] at h'
    show D.lst false _ = D.lst _ _
    rw [fzs_id xs h'.2 k]
    cases o with
    | true => cases h'.1
    | false => rfl
  | .dic o t ks xs, h, k => by cases k
  | .obj _ _ _, h, k => by cases h
theorem fzs_id : ∀ d : List D, isShs d = true → pyOks d = true → fzs d = d
  | [], _, _ => rfl
  | d :: ds, h, k => by
    have h' : (isSh d && isShs ds) = true := h
    have k' : (pyOk d && pyOks ds) = true := k
    rw [Bool.and_eq_true] at h' k'
    show fz d :: fzs ds = d :: ds
    rw [fz_id d h'.1 k'.1, fzs_id ds h'.2 k'.2]
end
/-! ### drawing -/
theorem atI_ofNat {α : Type} {xs : List α} {j : Nat} {v : α} (h : xs[j]? = some v) : L2.atI xs (j : Int) = some v := L2.atI_nat h
theorem ixN_ofNat {n j : Nat} (h : j < n) : L2.ixN n (j : Int) = some j := by
  unfold L2.ixN
  rw [if_pos (by omega), if_pos (by omega), Int.toNat_natCast]
/-- the last -/
theorem atI_m1 {α : Type} {xs : List α} {v : α} (h : xs.getLast? = some v) : L2.atI xs (-1) = some v := by
  unfold L2.atI L2.ixN
  have hn : xs ≠ [] := by intro z; rw [z] at h; cases h
  have hl : 0 < xs.length := List.length_pos_iff.mpr hn
  rw [if_neg (by omega), if_pos (by omega)]
  show xs[((-1 : Int) + xs.length).toNat]? = some v
  rw [List.getLast?_eq_getElem?] at h
  rw [show ((-1 : Int) + xs.length).toNat = xs.length - 1 by omega]
  exact h
theorem ixN_m1 {n : Nat} (h : 0 < n) : L2.ixN n (-1) = some (n - 1) := by
  unfold L2.ixN
  rw [if_neg (by omega), if_pos (by omega)]
  congr 1
  omega
/-- the state of the drawing: the script's numbers, how many were read, what is left of a great one, the seed -/
def DrD (x : D) : Prop := ∃ (cs : List Int) (k : Nat) (big seed : Int), x = .lst true [.lst true (cs.map .int), .int k, .int big, .int seed] ∧ 0 ≤ big ∧ 0 ≤ seed ∧ seed < 2147483648
end Pd

namespace Pd
open PySem
mutual
/-- how deep -/
def dep : D → Nat
  | .tup xs => deps xs + 1
  | .lst _ xs => deps xs + 1
  | .frl _ xs => deps xs + 1
  | .dic _ _ _ xs => deps xs + 1
  | .obj _ _ xs => deps xs + 1
  | .non => 0
  | .bl _ => 0
  | .int _ => 0
  | .str _ => 0
  | .raw _ => 0
def deps : List D → Nat
  | [] => 0
  | d :: ds => max (dep d) (deps ds)
end
mutual
/-- no list is longer than a range may be -/
def lenB : D → Bool
  | .tup xs => decide (xs.length < 2 ^ 20) && lenBs xs
  | .lst _ xs => decide (xs.length < 2 ^ 20) && lenBs xs
  | .frl _ xs => decide (xs.length < 2 ^ 20) && lenBs xs
  | .dic _ _ _ xs => decide (xs.length < 2 ^ 20) && lenBs xs
  | .obj _ _ _ => true
  | .non => true
  | .bl _ => true
  | .int _ => true
  | .str x => decide (x.length < 2 ^ 40)
  | .raw _ => true
def lenBs : List D → Bool
  | [] => true
  | d :: ds => lenB d && lenBs ds
end
theorem deps_le {n : Nat} : ∀ {l : List D}, deps l ≤ n ↔ ∀ d ∈ l, dep d ≤ n
  | [] => by simp [deps]
  | d :: ds => by
    unfold deps
    rw [Nat.max_le, deps_le (l := ds)]
    simp
theorem lenBs_all : ∀ l : List D, lenBs l = l.all lenB
  | [] => rfl
  | d :: ds => by unfold lenBs; rw [lenBs_all ds]; rfl
theorem toPys_get {xs ys : List D} (h : toPys xs = toPys ys) : xs.length = ys.length ∧ ∀ (i : Nat) x y, xs[i]? = some x → ys[i]? = some y → toPy x = toPy y := by
  rw [toPys_map, toPys_map] at h
  refine ⟨by simpa using congrArg List.length h, fun i x y hx hy => ?_⟩
  have := congrArg (fun l => l[i]?) h
  simp only [List.getElem?_map, hx, hy, Option.map_some] at this
  exact Option.some.inj this
theorem isShs_mem {l : List D} {d : D} (h : isShs l = true) (m : d ∈ l) : isSh d = true := by
  rw [isShs_all, List.all_eq_true] at h
  exact h d m
theorem pyOks_mem {l : List D} {d : D} (h : pyOks l = true) (m : d ∈ l) : pyOk d = true := by
  rw [pyOks_all, List.all_eq_true] at h
  exact h d m
theorem lenBs_mem {l : List D} {d : D} (h : lenBs l = true) (m : d ∈ l) : lenB d = true := by
  rw [lenBs_all, List.all_eq_true] at h
  exact h d m
/-- a comprehension whose turns change nothing: a filter and a map -/
theorem lcD_fm {α : Type} {i : Nat} {env : EnvD} (he : env.set i none = env) {h : α → D} {p : α → Bool} {f : α → D} {tt : TTD} {te : TD} {Q : List D → EnvD → Prop} : ∀ {l : List α} {acc : List D}, acc.length + l.length ≤ sizeLine →
    (∀ a ∈ l, ∀ K : Bool → EnvD → Prop, K (p a) (env.set i (some (h a))) → tt (env.set i (some (h a))) K noW) →
    (∀ a ∈ l, p a = true → ∀ K : T → EnvD → Prop, (∀ y : T, y.tk (env.set i (some (h a))) = some (f a, env.set i (some (h a))) → K y (env.set i (some (h a)))) → te (env.set i (some (h a))) K noW) →
    Q (acc ++ (l.filter p).map f) env → lcD [i] (gNm i) tt te Q (l.map h) acc env
  | [], acc, hl, ht, hf, q => by
    simp at q
    exact q
  | a :: l, acc, hl, ht, hf, q => by
    have hl' : acc.length + (l.length + 1) ≤ sizeLine := hl
    show tt (env.set i (some (h a))) _ noW
    refine ht a List.mem_cons_self _ ?_
    have back : wipeD (env.set i (some (h a))) [i] = env := by
      show (env.set i (some (h a))).set i none = env
      rw [List.set_set, he]
    cases hp : p a with
    | true =>
      rw [if_pos rfl]
      refine hf a List.mem_cons_self hp _ fun y hy => ?_
      rw [hy]
      refine ⟨by omega, ?_⟩
      show lcD [i] (gNm i) tt te Q (l.map h) (acc ++ [f a]) (wipeD (env.set i (some (h a))) [i])
      rw [back]
      refine lcD_fm he (by simp; omega) (fun b hb => ht b (List.mem_cons_of_mem _ hb)) (fun b hb => hf b (List.mem_cons_of_mem _ hb)) ?_
      rw [List.filter_cons_of_pos hp, List.map_cons] at q
      rw [List.append_assoc]
      exact q
    | false =>
      rw [if_neg Bool.false_ne_true, back]
      refine lcD_fm he (by omega) (fun b hb => ht b (List.mem_cons_of_mem _ hb)) (fun b hb => hf b (List.mem_cons_of_mem _ hb)) ?_
      rw [List.filter_cons_of_neg (by simp [hp])] at q
      exact q
theorem lcD_map {α : Type} {i : Nat} {env : EnvD} (he : env.set i none = env) {h : α → D} {f : α → D} {te : TD} {Q : List D → EnvD → Prop} {l : List α} (hl : l.length ≤ sizeLine)
    (hf : ∀ a ∈ l, ∀ K : T → EnvD → Prop, (∀ y : T, y.tk (env.set i (some (h a))) = some (f a, env.set i (some (h a))) → K y (env.set i (some (h a)))) → te (env.set i (some (h a))) K noW)
    (q : Q (l.map f) env) : lcD [i] (gNm i) dYes te Q (l.map h) [] env :=
  lcD_fm (p := fun _ => true) he (by simpa using hl) (fun _ _ _ k => k) (fun a ha _ => hf a ha) (by rw [show l.filter (fun _ => true) = l from List.filter_eq_self.mpr fun _ _ => rfl]; simpa using q)
theorem rangeD_eq (n : Nat) : rangeD 0 n = (List.range n).map fun k : Nat => D.int k := by
  unfold rangeD
  rw [Int.sub_zero, Int.toNat_natCast]
  exact List.map_congr_left fun k _ => by rw [Int.zero_add]
theorem rangeD_eq2 (a b : Nat) : rangeD a b = (List.range (b - a)).map fun k : Nat => D.int ((a + k : Nat) : Int) := by
  unfold rangeD
  rw [show ((b : Int) - a).toNat = b - a by omega]
  exact List.map_congr_left fun k _ => by rw [Int.natCast_add]
theorem line_big : 2 ^ 20 ≤ sizeLine := by rw [sizeLine_eq]; decide
theorem blsD_const {α : Type} (b : Bool) : ∀ l : List α, blsD (l.map fun _ => D.bl b) = some (l.map fun _ => b)
  | [] => rfl
  | _ :: l => by
    show (blsD (l.map fun _ => D.bl b)).map (b :: ·) = _
    rw [blsD_const b l]; rfl
end Pd

namespace Pd
open PySem
/-! ### what data tells of the thing -/
theorem toPy_non {x : D} (h : toPy x = .none) : x = .non := by
  cases x with
  | frl t xs => cases t <;> cases h
  | non => rfl
  | _ => cases h
theorem toPy_bl {x : D} {b : Bool} (h : toPy x = .bool b) : x = .bl b := by
  cases x with
  | frl t xs => cases t <;> cases h
  | bl b => cases h; rfl
  | _ => cases h
theorem toPy_int {x : D} {i : Int} (h : toPy x = .int i) : x = .int i := by
  cases x with
  | frl t xs => cases t <;> cases h
  | int b => cases h; rfl
  | _ => cases h
theorem toPy_str {x : D} {z : Str} (h : toPy x = .str z) : x = .str z := by
  cases x with
  | frl t xs => cases t <;> cases h
  | str b => cases h; rfl
  | _ => cases h
theorem toPy_list {x : D} {l : List PyData} (h : toPy x = .list l) (s : isSh x = true) : ∃ xs, (x = .lst false xs ∨ x = .frl false xs) ∧ toPys xs = l := by
  cases x with
  | frl t xs =>
    cases t with
    | false => cases h; exact ⟨xs, .inr rfl, rfl⟩
    | true => cases h
  | lst o xs =>
    cases o with
    | true => cases s
    | false => cases h; exact ⟨xs, .inl rfl, rfl⟩
  | _ => cases h
theorem toPy_tuple {x : D} {l : List PyData} (h : toPy x = .tuple l) : ∃ xs, (x = .tup xs ∨ x = .frl true xs) ∧ toPys xs = l := by
  cases x with
  | frl t xs =>
    cases t with
    | true => cases h; exact ⟨xs, .inr rfl, rfl⟩
    | false => cases h
  | tup xs => cases h; exact ⟨xs, .inl rfl, rfl⟩
  | _ => cases h
theorem isSh_lst {o : Bool} {xs : List D} (h : isSh (.lst o xs) = true) : o = false ∧ isShs xs = true := by
  have h' : (!o && isShs xs) = true := h
  rw [Bool.and_eq_true] at h'
  exact ⟨by simpa using h'.1, h'.2⟩
theorem lenB_lst {o : Bool} {xs : List D} (h : lenB (.lst o xs) = true) : xs.length < 2 ^ 20 ∧ lenBs xs = true := by
  have h' : (decide (xs.length < 2 ^ 20) && lenBs xs) = true := h
  rw [Bool.and_eq_true] at h'
  exact ⟨by simpa using h'.1, h'.2⟩
theorem lenB_tup {xs : List D} (h : lenB (.tup xs) = true) : xs.length < 2 ^ 20 ∧ lenBs xs = true := lenB_lst (o := false) h
theorem lenB_frl {t : Bool} {xs : List D} (h : lenB (.frl t xs) = true) : xs.length < 2 ^ 20 ∧ lenBs xs = true := lenB_lst (o := false) h
@[simp] theorem noObs_cbl {α : Type} (b : Bool) (l : List α) : noObs (l.map fun _ => D.bl b) = true := noObs_map (f := fun _ => D.bl b) (fun _ => rfl) l
@[simp] theorem fzs_cbl {α : Type} (b : Bool) (l : List α) : fzs (l.map fun _ => D.bl b) = l.map fun _ => D.bl b := fzs_mapG (f := fun _ => D.bl b) (fun _ => rfl) l
@[simp] theorem fAll_true {α : Type} {o : Bool} (l : List α) {Q : D → Prop} : fAll [.lst o (l.map fun _ => D.bl true)] Q = Q (.bl true) := by
  show (match blsD (l.map fun _ => D.bl true) with | some ns => Q (.bl (ns.all id)) | none => False) = _
  rw [blsD_const]
  show Q (.bl ((l.map fun _ => true).all id)) = _
  rw [show (l.map fun _ => true).all id = true by simp]
/-! ### copies -/
mutual
def cp : D → D
  | .lst _ xs => .lst true (cps xs)
  | .frl false xs => .lst true (cps xs)
  | .frl true xs => .tup (fzs (cps xs))
  | .tup xs => .tup (fzs (cps xs))
  | .non => .non
  | .bl b => .bl b
  | .int i => .int i
  | .str x => .str x
  | .raw v => .raw v
  | .dic o t ks vs => .dic o t ks vs
  | .obj C ns vs => .obj C ns vs
def cps : List D → List D
  | [] => []
  | d :: ds => cp d :: cps ds
end
theorem cps_map : ∀ l : List D, cps l = l.map cp
  | [] => rfl
  | d :: ds => by unfold cps; rw [cps_map ds]; rfl
mutual
theorem noOb_cp : ∀ d : D, pyOk d = true → noOb (cp d) = true
  | .non, _ => rfl
  | .bl _, _ => rfl
  | .int _, _ => rfl
  | .str _, _ => rfl
  | .raw _, _ => rfl
  | .tup xs, h => by show noObs (fzs (cps xs)) = true; rw [noObs_fz]; exact noObs_cps xs h
  | .lst _ xs, h => noObs_cps xs h
  | .frl false xs, h => noObs_cps xs h
  | .frl true xs, h => by show noObs (fzs (cps xs)) = true; rw [noObs_fz]; exact noObs_cps xs h
  | .dic _ _ _ _, h => by cases h
  | .obj _ _ _, h => by cases h
theorem noObs_cps : ∀ d : List D, pyOks d = true → noObs (cps d) = true
  | [], _ => rfl
  | d :: ds, h => by
    have h' : (pyOk d && pyOks ds) = true := h
    rw [Bool.and_eq_true] at h'
    show (noOb (cp d) && noObs (cps ds)) = true
    rw [noOb_cp d h'.1, noObs_cps ds h'.2]; rfl
end
mutual
/-- nothing of the read-only forms within -/
def noFr : D → Bool
  | .tup xs => noFrs xs
  | .lst _ xs => noFrs xs
  | .frl _ xs => false
  | .non => true
  | .bl _ => true
  | .int _ => true
  | .str _ => true
  | .raw _ => false
  | .dic _ _ _ _ => false
  | .obj _ _ _ => false
def noFrs : List D → Bool
  | [] => true
  | d :: ds => noFr d && noFrs ds
end
mutual
theorem fz_cp : ∀ d : D, noFr d = true → fz (cp d) = fz d
  | .non, _ => rfl
  | .bl _, _ => rfl
  | .int _, _ => rfl
  | .str _, _ => rfl
  | .raw _, _ => rfl
  | .tup xs, h => by show D.tup (fzs (fzs (cps xs))) = D.tup (fzs xs); rw [fzs_fz, fzs_cps xs h]
  | .lst _ xs, h => by show D.lst false (fzs (cps xs)) = D.lst false (fzs xs); rw [fzs_cps xs h]
  | .frl _ xs, h => by cases h
  | .dic _ _ _ _, h => by cases h
  | .obj _ _ _, h => by cases h
theorem fzs_cps : ∀ d : List D, noFrs d = true → fzs (cps d) = fzs d
  | [], _ => rfl
  | d :: ds, h => by
    have h' : (noFr d && noFrs ds) = true := h
    rw [Bool.and_eq_true] at h'
    show fz (cp d) :: fzs (cps ds) = fz d :: fzs ds
    rw [fz_cp d h'.1, fzs_cps ds h'.2]
end
@[simp] theorem atI_c0 {α : Type} (a : α) (l : List α) : L2.atI (a :: l) 0 = some a := atI_ofNat (j := 0) rfl
@[simp] theorem atI_c1 {α : Type} (a b : α) (l : List α) : L2.atI (a :: b :: l) 1 = some b := atI_ofNat (j := 1) rfl
@[simp] theorem atI_c2 {α : Type} (a b c : α) (l : List α) : L2.atI (a :: b :: c :: l) 2 = some c := atI_ofNat (j := 2) rfl
@[simp] theorem atI_c3 {α : Type} (a b c d : α) (l : List α) : L2.atI (a :: b :: c :: d :: l) 3 = some d := atI_ofNat (j := 3) rfl
@[simp] theorem ixN_0 {n : Nat} : L2.ixN (n + 1) 0 = some 0 := ixN_ofNat (j := 0) (by omega)
@[simp] theorem ixN_1 {n : Nat} : L2.ixN (n + 1 + 1) 1 = some 1 := ixN_ofNat (j := 1) (by omega)
@[simp] theorem ixN_2 {n : Nat} : L2.ixN (n + 1 + 1 + 1) 2 = some 2 := ixN_ofNat (j := 2) (by omega)
@[simp] theorem ixN_3 {n : Nat} : L2.ixN (n + 1 + 1 + 1 + 1) 3 = some 3 := ixN_ofNat (j := 3) (by omega)
@[simp] theorem endsOf_nx (io : List Nat) (n : Nat) (R : D → EnvD → Prop) (e : EnvD) : (endsOf io n R).nx e = R .non (mask io 0 n e) := rfl
@[simp] theorem endsOf_rt (io : List Nat) (n : Nat) (R : D → EnvD → Prop) (x : T) (e : EnvD) : (endsOf io n R).rt x e = retD io (fun d e' => R d (mask io 0 n e')) x e := rfl
/-- the first that is let through -/
theorem filter_first {p : Nat → Bool} {n k : Nat} (hk : k < n) (hp : p k = true) (h : ∀ j, j < k → p j = false) : ∃ t, (List.range n).filter p = k :: t := by
  obtain ⟨m, rfl⟩ : ∃ m, n = k + (m + 1) := ⟨n - k - 1, by omega⟩
  rw [List.range_add, List.filter_append, List.range_succ_eq_map, List.map_cons, Nat.add_zero, List.filter_cons_of_pos hp]
  have e : (List.range k).filter p = [] := by
    rw [List.filter_eq_nil_iff]
    intro a ha
    rw [h a (List.mem_range.mp ha)]
    exact Bool.false_ne_true
  rw [e]
  exact ⟨_, rfl⟩
/-! ### loops by an invariant -/
theorem forD_inv {α : Type} {g : TGD} {tb : TSD} {De : EndsD} {W : WD} {h : α → D} (Inv : Nat → EnvD → Prop) : ∀ {l : List α} {k : Nat} {env : EnvD}, Inv k env →
    (∀ j a e, l[j]? = some a → Inv (k + j) e → ∀ next : EnvD → Prop, (∀ e', Inv (k + j + 1) e' → next e') → g (h a) e fun e1 => tb { De with nx := next, ct := next, bk := De.nx } e1 W) → (∀ e, Inv (k + l.length) e → De.nx e) → forD g tb De W (l.map h) env
  | [], k, env, h0, hs, hd => hd env h0
  | a :: l, k, env, h0, hs, hd => by
    refine hs 0 a env rfl h0 _ fun e' he' => ?_
    refine forD_inv Inv (k := k + 1) he' (fun j b e hj hI next hn => ?_) fun e he => hd e ?_
    · exact hs (j + 1) b e hj (by rw [show k + (j + 1) = k + 1 + j by omega]; exact hI) next fun e' he' => hn e' (by rw [show k + 1 + j + 1 = k + (j + 1) + 1 by omega]; exact he')
    · rw [List.length_cons, show k + (l.length + 1) = k + 1 + l.length by omega]; exact he
/-- .. that is left at the k'th turn -/
theorem forD_first {α : Type} {g : TGD} {tb : TSD} {De : EndsD} {W : WD} {h : α → D} (Inv : Nat → EnvD → Prop) : ∀ {l : List α} {k0 k : Nat} {env : EnvD}, k < l.length → Inv k0 env →
    (∀ j a e, j < k → l[j]? = some a → Inv (k0 + j) e → ∀ next : EnvD → Prop, (∀ e', Inv (k0 + j + 1) e' → next e') → g (h a) e fun e1 => tb { De with nx := next, ct := next, bk := De.nx } e1 W) →
    (∀ a e, l[k]? = some a → Inv (k0 + k) e → ∀ next : EnvD → Prop, g (h a) e fun e1 => tb { De with nx := next, ct := next, bk := De.nx } e1 W) → forD g tb De W (l.map h) env
  | [], k0, k, env, hk, h0, hs, hl => by simp at hk
  | a :: l, k0, 0, env, hk, h0, hs, hl => hl a env rfl h0 _
  | a :: l, k0, k + 1, env, hk, h0, hs, hl => by
    refine hs 0 a env (by omega) rfl h0 _ fun e' he' => ?_
    refine forD_first Inv (k0 := k0 + 1) (k := k) (by simpa using hk) he' (fun j b e hj hjl hI next hn => ?_) fun b e hjl hI next => ?_
    · exact hs (j + 1) b e (by omega) hjl (by rw [show k0 + (j + 1) = k0 + 1 + j by omega]; exact hI) next fun e' he' => hn e' (by rw [show k0 + 1 + j + 1 = k0 + (j + 1) + 1 by omega]; exact he')
    · exact hl b e hjl (by rw [show k0 + (k + 1) = k0 + 1 + k by omega]; exact hI) next
end Pd

/-! Errors of two levels: MeterError(at, name) over ValueError, its heirs X(at). -/
namespace PdX
open PySem PySem.W PySem.Calls PyProof.Rows PySem.HandSPX
def mA (p1 p2 p3 pd : Pos) : Arguments := { posonlyargs := [], args := [{ arg := "self", annotation := none, pos := p1 }, { arg := "at", annotation := none, pos := p2 }, { arg := "name", annotation := none, pos := p3 }], vararg := none, kwonlyargs := [], kw_defaults := [], kwarg := none, defaults := [.Constant (.str "MeterError") 0 pd] }
def mB (q : Nat → Pos) : List Stmt := [.Expr (.Call (.Attribute (.Call (.Name "super" (q 0)) [] [] (q 1)) "__init__" (q 2)) [.Name "at" (q 3)] [] (q 4)) (q 5),
  .Assign [.Attribute (.Name "self" (q 6)) "at" (q 7)] (.Name "at" (q 8)) (q 9), .Assign [.Attribute (.Name "self" (q 10)) "name" (q 11)] (.Name "name" (q 12)) (q 13)]
def mS : Scope := { kind := .function, names := [(Str.ofString "self", .local), (Str.ofString "at", .local), (Str.ofString "name", .local), (Str.ofString "__class__", .free), (Str.ofString "super", .globalImplicit)], isGenerator := false, isCoroutine := false, more := [] }
def eA (p1 p2 : Pos) : Arguments := { posonlyargs := [], args := [{ arg := "self", annotation := none, pos := p1 }, { arg := "at", annotation := none, pos := p2 }], vararg := none, kwonlyargs := [], kw_defaults := [], kwarg := none, defaults := [] }
def eB (nm : Str) (q : Nat → Pos) : List Stmt := [.Expr (.Call (.Attribute (.Call (.Name "super" (q 0)) [] [] (q 1)) "__init__" (q 2)) [.Name "at" (q 3), .Constant (.str nm) 0 (q 4)] [] (q 5)) (q 6)]
def eS : Scope := { kind := .function, names := [(Str.ofString "self", .local), (Str.ofString "at", .local), (Str.ofString "__class__", .free), (Str.ofString "super", .globalImplicit)], isGenerator := false, isCoroutine := false, more := [] }
/-- a def that closes over its class D -/
structure SupFn (P : Program) (K : Frag) (qual : Str) (params : Arguments) (body : List Stmt) (scope : Scope) (dP : Value → Prop) (f D : Addr) : Prop where
  ex : ∃ (oc dV kV doc pm ct ccl cl : Value) (od an cdd cld : Option Addr) (osl ccs csl : Array (Option Value)) (cc cda : Addr) (vs : Array Value) (file : Str) (tf : Tok),
    K.lookup f = some ⟨oc, od, .func (ksFn "__init__" qual params body scope dV kV doc pm an (.ref cda) ct cc), osl⟩ ∧ codeIn K (.ref cda) qual = true ∧
    K.lookup cda = some ⟨ccl, cdd, .fields vs, ccs⟩ ∧ vs[2]? = some (.str file tf) ∧ ((P.main.file : Str) == file) = true ∧ K.lookup cc = some ⟨cl, cld, .cell (some (.ref D)), csl⟩ ∧ dP dV
  ty : typeIn K (.ref f) = some (.type "function")
  fn : fnIn K f = true
/-- a tuple of defaults -/
def Dfl (K : Frag) (v : Value) : Prop := ∃ (T : Addr) (o : Obj) (d : Value) (n : Nat), v = .ref T ∧ K.lookup T = some o ∧ o.data = .seq #[d] n
/-- how super().__init__(..) runs (the positions stand on one line) -/
def SupEv (p0 p1 p2 p3 : Pos) (args : List Expr) : Prop := ∀ env : Env, ∃ pl : Sem Bool, eval (.Call (.Attribute (.Call (.Name "super" p0) [] [] p1) "__init__" p2) args [] p3) env = (do
      let ov ← attributeBase (.Call (.Name "super" p0) [] [] p1) "__init__" env (eval (.Call (.Name "super" p0) [] [] p1) env)
      standAt p2.atName
      let (f, first) ← holding [ov] (getMethod ov "__init__" pl)
      callWith p3 f first (backTo p3 (starEach args env)) [])
/-- what the written part says of MeterError, at M, and of an heir named nm, at C -/
structure ErrTxt (P : Program) (K : Frag) (M fM C fC : Addr) (nm : Str) : Prop where
  top : (P.main.scope.names.lookup ("super" : Str)).isSome = false
  sup : nsIn K mainGlobals "super" = some none
  any : nsIn K cStatics "thirdparty.any" = some none
  mfn : ∃ p1 p2 p3 pd q, SupFn P K "MeterError.__init__" (mA p1 p2 p3 pd) (mB q) mS (Dfl K) fM M ∧ SupEv (q 0) (q 1) (q 2) (q 4) [.Name "at" (q 3)]
  cfn : ∃ qual p1 p2 q, SupFn P K qual (eA p1 p2) (eB nm q) eS (· = .none) fC C ∧ SupEv (q 0) (q 1) (q 2) (q 5) [.Name "at" (q 3), .Constant (.str nm) 0 (q 4)]
  mcl : ∃ cd, clsIn K M = some cd
  cls : ∃ nm q N bs sn sub ab col dd k0 k1 k2 k3 k5, K.lookup C = some (excClassObj nm q C N bs (.ref M :: veTail) true sn sub ab col dd k0 k1 k2 k3 k5 "ValueError.__new__")
  ne : (Value.ref C != Value.ref M) = true
  subC : mroIn K C (.ref C) = some true
  subM : mroIn K C (.ref M) = some true
  subV : subIn K (.ref C) (.type "ValueError") = some true
  supC : ks_superIn K C C "__init__" = some (some (.ref fM))
  supM : ks_superIn K C M "__init__" = some (some (.builtin "ValueError.__init__"))
  sa : findIn K (.ref C) "__setattr__" = some (some (.builtin "object.__setattr__"))
  ga : findIn K (.ref C) "__getattribute__" = some (some (.builtin "BaseException.__getattribute__"))
  gg : findIn K (.ref C) "__getattr__" = some none
  noA : findIn K (.ref C) "at" = some none
  noN : findIn K (.ref C) "name" = some none
  iC : findIn K (.ref C) "__init__" = some (some (.ref fC))
  kC : keepIn K (.ref C) = true
  exC : subIn K (.ref C) (.type "BaseException") = some true
  tyC : typeIn K (.ref C) = some (.type "type")
  hdC : hasDictIn K C = true
section
variable {prog : Program} {w : World} {A : Around} {E : Value → Shared → Prop} {s : Shared} {h₀ : Heap} {L : Addr} {m mg mb : Str → Option Value} {news : List (Addr × Obj)} {K : Frag} {x C D f cc cda : Addr} {ox : Obj} {odx : Option Obj} {Q : Value → Shared → Prop}
/-- super() -/
theorem sup_node {body : List Stmt} {q : Str} {scope : Scope} {p0 p1 : Pos} {attr : Str} {whole : Sem Value} {fd : FuncData} {ar : Arg} {vs : Array Value} {file : Str} {tf : Tok} {oc ccl cl : Value} {od cdd cld : Option Addr} {osl ccs csl : Array (Option Value)} {cdD : ClassData}
    (F : Fr h₀ L s.heap m) (X₀ : K.In h₀) (N : News h₀ L s.heap news) (hg : h₀.Ns mainGlobals mg) (hb : h₀.Ns builtinsNs mb) (hbb : ∀ x : Str, x ≠ "__name__" → mb x = bootBuiltins x)
    (hf : K.lookup f = some ⟨oc, od, .func fd, osl⟩) (hp : (fd.params.posonlyargs ++ fd.params.args).head? = some ar) (hv : m ar.arg = some (.ref x)) (I : InstAt s.heap x ox C odx)
    (hcode : K.lookup cda = some ⟨ccl, cdd, .fields vs, ccs⟩) (hvs : vs[2]? = some (.str file tf)) (hfile : ((prog.main.file : Str) == file) = true)
    (hcell : K.lookup cc = some ⟨cl, cld, .cell (some (.ref D)), csl⟩) (hD : clsIn K D = some cdD) (hsub : mroIn K C (.ref D) = some true) (hsuper : nsIn K mainGlobals "super" = some none)
    (hat : (attr == ("__class__" : Str)) = false) (hks : scope.names.lookup ("super" : Str) = some .globalImplicit) (hkc : scope.names.lookup ("__class__" : Str) = some .free) (hka : scope.names.lookup ar.arg = some .local) (hk : scope.kind = .function)
    (htop : (prog.main.scope.names.lookup ("super" : Str)).isSome = false) (hboot : bootBuiltins "super" = some (.type "super"))
    (h : ∀ so h', Fr h₀ L h' m → News h₀ L h' ((so, ks_superObj D x C) :: news) → (∀ p ∈ news, p.1 < so) → Q (.ref so) { s with heap := h' }) :
    _root_.PySem.wpAt (model prog w) A (.func body (ksEnv q scope L f (.ref cda) cc)) (attributeBase (.Call (.Name "super" p0) [] [] p1) attr (ksEnv q scope L f (.ref cda) cc) whole) Q E s := by
  have X : K.In s.heap := X₀.keeps F.keep
  obtain ⟨hh, g, d, t, os⟩ := s
  obtain ⟨oD, hD1, hD2⟩ : ∃ oD, hh.get? D = some oD ∧ oD.data = .cls cdD := by
    unfold clsIn at hD
    split at hD
    · rename_i c d cd' sl ho
      cases hD
      exact ⟨_, X _ _ ho, rfl⟩
    · cases hD
  refine ks_wpAt_super_base (env := ksEnv q scope L f (.ref cda) cc) hks hkc hat rfl (X _ _ hf) rfl hp rfl (X _ _ hcode) rfl hvs hfile htop ?_
  refine ks_loadName_global hk hks (loadGlobal_builtin (env := ksEnv q scope L f (.ref cda) cc) (hg.keeps F.keep) (mg_none_of X₀ hg hsuper) (hb.keeps F.keep) ((hbb _ (by decide +kernel)).trans hboot) ⟨rfl, ?_⟩)
  refine wpAny_loadName_free hk hkc rfl ⟨_, X _ _ hcell, rfl⟩ ?_
  refine wpAny_loadName_local hk hka F.ns hv ?_
  refine ks_wpAny_isType_cls hD1 hD2 ⟨rfl, ?_⟩
  refine ks_wpAny_call_super hD1 hD2 I.at_ I.cls (fun c e => ?_) (looks_mroIn X hsub) (fun h' e k => ?_)
  · have := I.no
    unfold notCls at this
    rw [e] at this
    exact Bool.noConfusion this
  · obtain ⟨F', N', l'⟩ := ks_newsPush (s := ⟨hh, g, d, t, os⟩) F N rfl e k
    exact h _ _ F' N' l'
end
section
variable {prog : Program} {w : World} {A : Around} {R : Result → Shared → Prop} {s : Shared} {h₀ : Heap} {mg mb : Str → Option Value} {K : Frag} {M fM C fC e t0 : Addr} {nm : Str} {v u : Value}
theorem ErrTxt.clsC (T : ErrTxt prog K M fM C fC nm) : ∃ cd, clsIn K C = some cd ∧ cd.mro = .ref C :: .ref M :: veTail ∧ cd.hasDict = true := by
  obtain ⟨nm', q, N, bs, sn, sub, ab, col, dd, k0, k1, k2, k3, k5, hC⟩ := T.cls
  refine ⟨{ name := nm', bases := bs, mro := .ref C :: .ref M :: veTail, ns := N, qualname := q, hasDict := true, slotNames := sn, subclasses := sub, abstract := ab, collection := col, hasDel := false }, ?_, rfl, rfl⟩
  unfold clsIn; rw [hC] <;> rfl
theorem ErrTxt.init (T : ErrTxt prog K M fM C fC nm) : excInitIn K C veTail "ValueError.__new__" = true := by
  obtain ⟨nm', q, N, bs, sn, sub, ab, col, dd, k0, k1, k2, k3, k5, hC⟩ := T.cls
  unfold excInitIn
  rw [hC]
  show (C == C && ("ValueError.__new__" : String) == "ValueError.__new__" && !false && excTail veTail (.ref M :: veTail)) = true
  rw [beq_self_eq_true, beq_self_eq_true]
  rfl
/-- what __init__ leaves of the exception at e -/
structure Made (h₀ h' : Heap) (e C dx t1 : Addr) (v u : Value) : Prop where
  keep : ∀ b o, h₀.get? b = some o → h'.get? b = some o
  obj : h'.get? e = some (excObj C t1 (some dx) .none)
  dbig : h₀.objs.size ≤ dx
  dne : dx ≠ e
  ns : h'.Ns1 dx (fun y => if y = "name" then some u else if y = "at" then some v else none)
theorem m_init (T : ErrTxt prog K M fM C fC nm) (X₀ : K.In h₀) (hlim : h₀.NoLimit) (hg : h₀.Ns mainGlobals mg) (hb : h₀.Ns builtinsNs mb) (hbb : ∀ x : Str, x ≠ "__name__" → mb x = bootBuiltins x)
    (k0 : ∀ b o, h₀.get? b = some o → s.heap.get? b = some o) (hsz : h₀.objs.size ≤ s.heap.objs.size) (he : s.heap.get? e = some (excObj C t0 none .none)) (hen : h₀.get? e = none) (hroom : A.depth < recursionLimit)
    (hq : ∀ h' tk dx t1, Made h₀ h' e C dx t1 v u → R (.ok (.ret .none)) { s with heap := h', toks := tk }) : codeAny (model prog w) A (.call (.ref fM) ⟨[.ref e, v, u], []⟩) R s := by
  obtain ⟨p1, p2, p3, pd, q, S, ev⟩ := T.mfn
  obtain ⟨oc, dV, kV, doc, pm, ct, ccl, cl, od, an, cdd, cld, osl, ccs, csl, cc, cda, vs, file, tf, ho, hcd, hcode, hvs, hfile, hcell, hdf⟩ := S.ex
  obtain ⟨dT, dO, dI, dn, rfl, hdT, hdS⟩ := hdf
  obtain ⟨cdM, hM⟩ := T.mcl
  obtain ⟨cdC, hC1, hC2, hC3⟩ := T.clsC
  have hen0 : K.lookup e = none := by
    cases z : K.lookup e with
    | none => rfl
    | some o => have := X₀ _ _ z; rw [hen] at this; cases this
  refine ks_codeAny_call_defAt (fd := ksFn "__init__" "MeterError.__init__" (mA p1 p2 p3 pd) (mB q) mS (.ref dT) kV doc pm an (.ref cda) ct cc) (body := mB q) (binds := [("self", .ref e), ("at", v), ("name", u)]) hroom (k0 _ _ (X₀ _ _ ho)) rfl (hlim.keeps k0)
    (codeRec_of (X₀.keeps k0) hcd) rfl (BindsTo.of_defaults rfl (k0 _ _ (X₀ _ _ hdT)) hdS rfl rfl) (show ∀ x ∈ mS.names, x.2 ≠ .cell by decide +kernel) (fun x hx => ?_) (fun h₁ hns k₁ => ?_) rfl rfl rfl
  · show mS.names.lookup x.1 = some .local
    rcases List.mem_cons.mp hx with rfl | hx
    · rfl
    rcases List.mem_cons.mp hx with rfl | hx
    · rfl
    rcases List.mem_cons.mp hx with rfl | hx
    · rfl
    cases hx
  have F : Fr h₀ s.heap.objs.size h₁ (fun x => [(("self" : Str), Value.ref e), ("at", v), ("name", u)].reverse.lookup x) := ⟨hns, fun b o q => k₁ b o (k0 b o q), hsz⟩
  have N : News h₀ s.heap.objs.size h₁ [(e, excObj C t0 none .none)] := fun p hp => by
    rw [List.mem_singleton] at hp
    subst hp
    exact ⟨k₁ _ _ he, Nat.ne_of_lt (Heap.lt_size he), hen⟩
  have I1 : InstAt h₁ e (excObj C t0 none .none) C none := ⟨k₁ _ _ he, rfl, rfl, trivial⟩
  -- super().__init__(at)
  obtain ⟨pl, ev⟩ := ev (ksEnv "MeterError.__init__" mS s.heap.objs.size fM (.ref cda) cc)
  refine ks_wpAt_execs_cons (ks_wpAt_Expr_any (ks_wpAt_MethodCall (pl := pl) (sup_node F X₀ N hg hb hbb ho rfl rfl I1 hcode hvs hfile hcell hM T.subM T.sup (by decide) rfl rfl rfl rfl T.top (by decide +kernel) fun so h₂ F2 N2 l2 => ?_) ev))
  have eso : e < so := l2 (e, _) (List.mem_singleton.mpr rfl)
  have I2 : InstAt h₂ e (excObj C t0 none .none) C none := ⟨(N2 _ (List.mem_cons_of_mem _ (List.mem_singleton.mpr rfl))).1, rfl, rfl, trivial⟩
  refine kxs_method kxs_ValueError F2 X₀ N2 List.mem_cons_self I2 T.any T.supM T.subV (by decide) fun u' h₃ F3 N3 l3 => ?_
  have eu : e < u' := l3 (e, _) (List.mem_cons_of_mem _ (List.mem_singleton.mpr rfl))
  refine kxs_callWith1 N3 List.mem_cons_self ?_
  refine spliced_more (wpAny_Name (wpAny_loadName_local rfl rfl F3.ns rfl ?_) (by decide)) rfl
  refine spliced_none ⟨(N3 _ List.mem_cons_self).1, ?_⟩
  refine kxs_call (bmB := veTail) F3 X₀ N3 PySem.F.excBase_ValueError T.init List.mem_cons_self (.tail (Nat.ne_of_gt eu) (.tail (Nat.ne_of_gt eso) (.head fun _ z => nomatch z))) (by rw [sizeLine_eq]; exact (by decide : 1 ≤ 16777216)) fun t1 h₄ F4 N4 l4 => ?_
  -- self.at = at
  have hx4 : h₄.get? e = some (excObj C t1 none .none) := (N4 (e, _) (by simp)).1
  have X4 : K.In h₄ := X₀.keeps F4.keep
  have hrm : refsVE cdC.mro = true := by rw [hC2]; rfl
  refine wpAt_of_wpAny (wpAny_execs_cons (plainObj_wpAny_Assign_Attribute ?_))
  refine wpAny_Name (wpAny_loadName_local rfl rfl F4.ns rfl (wpAny_Name (wpAny_loadName_local rfl rfl F4.ns rfl ?_) (by decide))) (by decide)
  have sz4 : h₀.objs.size ≤ h₄.objs.size := Nat.le_trans hsz (Nat.le_of_lt F4.ns.lt)
  refine set_plain X4 (ox := excObj C t1 none .none) (od := none) ⟨hx4, rfl, rfl, trivial⟩ T.sa ?_
  refine exc_osa X4 hx4 hC1 hrm hC3 T.noA fun h₅ tk₅ dx k₅ dn dne hx₅ hn₅ => ?_
  -- self.name = name
  have F5 : Fr h₀ s.heap.objs.size h₅ (fun x => [(("self" : Str), Value.ref e), ("at", v), ("name", u)].reverse.lookup x) := by
    obtain ⟨oL, es, ep, hL, r⟩ := F4.ns
    have xL : s.heap.objs.size ≠ e := fun z => (N4 (e, excObj C t1 none .none) (by simp)).2.1 z.symm
    exact ⟨⟨oL, es, ep, k₅ _ _ xL hL, r⟩, fun b o z => k₅ b o (fun y => by rw [y, hen] at z; cases z) (F4.keep b o z), F4.above⟩
  have X5 : K.In h₅ := X₀.keeps F5.keep
  show wpAny _ _ (execs _ _) _ _ _
  refine wpAny_execs_cons (plainObj_wpAny_Assign_Attribute ?_)
  refine wpAny_Name (wpAny_loadName_local rfl rfl F5.ns rfl (wpAny_Name (wpAny_loadName_local rfl rfl F5.ns rfl ?_) (by decide))) (by decide)
  have w5 : Within (fun y => if y = ("at" : Str) then some v else none) ["at"] := Within.cons _ _ Within.nil
  obtain ⟨oD, esD, epD, hoD, hdD, _⟩ := hn₅.count w5
  refine set_plain X5 (ox := excObj C t1 (some dx) .none) (od := some oD) ⟨hx₅, rfl, rfl, hoD⟩ T.sa ?_
  refine OEX.osa_old X5 hx₅ hn₅ w5 (by decide) hC1 hrm hC3 T.noN fun h₆ tk₆ k₆ hn₆ => ?_
  refine wpAny_execs_nil (hq h₆ tk₆ dx t1 ⟨fun b o z => k₆ b o (fun y => ?_) (F5.keep b o z), k₆ _ _ (Ne.symm dne) hx₅, Nat.le_trans sz4 dn, dne, hn₆⟩)
  exact absurd (Heap.lt_size z) (Nat.not_lt.mpr (Nat.le_trans sz4 (y ▸ dn)))
theorem e_init (T : ErrTxt prog K M fM C fC nm) (X₀ : K.In h₀) (hlim : h₀.NoLimit) (hg : h₀.Ns mainGlobals mg) (hb : h₀.Ns builtinsNs mb) (hbb : ∀ x : Str, x ≠ "__name__" → mb x = bootBuiltins x)
    (k0 : ∀ b o, h₀.get? b = some o → s.heap.get? b = some o) (hsz : h₀.objs.size ≤ s.heap.objs.size) (he : s.heap.get? e = some (excObj C t0 none .none)) (hen : h₀.get? e = none) (hroom : A.depth + 1 < recursionLimit)
    (hq : ∀ h' tk tk' dx t1, Made h₀ h' e C dx t1 v (.str nm tk') → R (.ok (.ret .none)) { s with heap := h', toks := tk }) : codeAny (model prog w) A (.call (.ref fC) ⟨[.ref e, v], []⟩) R s := by
  obtain ⟨qual, p1, p2, q, S, ev⟩ := T.cfn
  obtain ⟨pM1, pM2, pM3, pMd, qM, SM, evM⟩ := T.mfn
  obtain ⟨oc, dV, kV, doc, pm, ct, ccl, cl, od, an, cdd, cld, osl, ccs, csl, cc, cda, vs, file, tf, ho, hcd, hcode, hvs, hfile, hcell, rfl⟩ := S.ex
  obtain ⟨cdC, hC1, hC2, hC3⟩ := T.clsC
  have hen0 : K.lookup e = none := by
    cases z : K.lookup e with
    | none => rfl
    | some o => have := X₀ _ _ z; rw [hen] at this; cases this
  refine ks_codeAny_call_defAt (fd := ksFn "__init__" qual (eA p1 p2) (eB nm q) eS .none kV doc pm an (.ref cda) ct cc) (body := eB nm q) (binds := [("self", .ref e), ("at", v)]) (Nat.lt_of_succ_lt hroom) (k0 _ _ (X₀ _ _ ho)) rfl (hlim.keeps k0)
    (codeRec_of (X₀.keeps k0) hcd) rfl (BindsTo.of_eq rfl) (show ∀ x ∈ eS.names, x.2 ≠ .cell by decide +kernel) (fun x hx => ?_) (fun h₁ hns k₁ => ?_) rfl rfl rfl
  · show eS.names.lookup x.1 = some .local
    rcases List.mem_cons.mp hx with rfl | hx
    · rfl
    rcases List.mem_cons.mp hx with rfl | hx
    · rfl
    cases hx
  have F : Fr h₀ s.heap.objs.size h₁ (fun x => [(("self" : Str), Value.ref e), ("at", v)].reverse.lookup x) := ⟨hns, fun b o q => k₁ b o (k0 b o q), hsz⟩
  have N : News h₀ s.heap.objs.size h₁ [(e, excObj C t0 none .none)] := fun p hp => by
    rw [List.mem_singleton] at hp
    subst hp
    exact ⟨k₁ _ _ he, Nat.ne_of_lt (Heap.lt_size he), hen⟩
  have I1 : InstAt h₁ e (excObj C t0 none .none) C none := ⟨k₁ _ _ he, rfl, rfl, trivial⟩
  obtain ⟨pl, ev⟩ := ev (ksEnv qual eS s.heap.objs.size fC (.ref cda) cc)
  refine ks_wpAt_execs_cons (ks_wpAt_Expr_any (ks_wpAt_MethodCall (pl := pl) (sup_node F X₀ N hg hb hbb ho rfl rfl I1 hcode hvs hfile hcell hC1 T.subC T.sup (by decide) rfl rfl rfl rfl T.top (by decide +kernel) fun so h₂ F2 N2 l2 => ?_) ev))
  have eso : e < so := l2 (e, _) (List.mem_singleton.mpr rfl)
  have I2 : InstAt h₂ e (excObj C t0 none .none) C none := ⟨(N2 _ (List.mem_cons_of_mem _ (List.mem_singleton.mpr rfl))).1, rfl, rfl, trivial⟩
  refine ks_method F2 X₀ N2 List.mem_cons_self I2 T.any T.supC SM.ty (by decide) fun u' h₃ F3 N3 l3 => ?_
  refine callWith_M (K := K) (self := .ref e) X₀ N3 List.mem_cons_self SM.fn ?_
  refine spliced_more (wpAny_Name (wpAny_loadName_local rfl rfl F3.ns rfl ?_) (by decide)) rfl
  refine spliced_more (wpAny_Constant_str ?_) rfl
  refine spliced_none ⟨methP N3 List.mem_cons_self (X₀.keeps F3.keep), ?_⟩
  refine call_meth N3 List.mem_cons_self ?_
  refine m_init (h₀ := h₀) (t0 := t0) T X₀ hlim hg hb hbb F3.keep (Nat.le_trans hsz (Nat.le_of_lt F3.ns.lt)) ((N3 (e, _) (by simp)).1) hen ?_ fun h' tk dx t1 Md => ?_
  · exact hroom
  · exact wpAt_of_wpAny (wpAny_execs_nil (hq h' _ _ dx t1 Md))
/-- a made error -/
structure ErrMade (h h' : Heap) (e C d : Addr) (v u : Value) : Prop where
  keep : ∀ b o, h.get? b = some o → h'.get? b = some o
  new : h.objs.size ≤ e
  obj : ∃ oe vs, h'.get? e = some oe ∧ oe.cls = .ref C ∧ oe.dict = some d ∧ oe.data = .fields vs ∧ vs[1]? = some .none
  dbig : h.objs.size ≤ d
  dne : d ≠ e
  ns : h'.Ns1 d (fun y => if y = "name" then some u else if y = "at" then some v else none)
theorem err_made (T : ErrTxt prog K M fM C fC nm) (X : K.In s.heap) (hlim : s.heap.NoLimit) (hg : s.heap.Ns mainGlobals mg) (hb : s.heap.Ns builtinsNs mb) (hbb : ∀ x : Str, x ≠ "__name__" → mb x = bootBuiltins x) (hroom : A.depth + 2 < recursionLimit)
    (hq : ∀ h' tk tk' e d, ErrMade s.heap h' e C d v (.str nm tk') → R (.ok (.ret (.ref e))) { s with heap := h', toks := tk }) :
    codeAny (model prog w) A (.call (.ref C) ⟨[v], []⟩) R s := by
  obtain ⟨nm', q, N, bs, sn, sub, ab, col, dd, c0, c1, c2, c3, c5, hC⟩ := T.cls
  obtain ⟨qual, p1, p2, q2, S, _⟩ := T.cfn
  obtain ⟨hp, g, dr, tk, os⟩ := s
  have k : ∀ b o, hp.get? b = some o → ((hp.push (kdv_tup [v])).push (excO C hp.objs.size)).get? b = some o := fun b o e => Heap.get?_push_of_some _ (Heap.get?_push_of_some _ e)
  have hget : ((hp.push (kdv_tup [v])).push (excO C hp.objs.size)).get? (hp.objs.size + 1) = some (excO C hp.objs.size) := by heap_get
  have hnx : hp.get? (hp.objs.size + 1) = none := by
    cases e : hp.get? (hp.objs.size + 1) with
    | none => rfl
    | some o => exact absurd (Nat.lt_of_succ_lt (Heap.lt_size e)) (Nat.lt_irrefl _)
  refine call_own F.excBase_ValueError (fun X => refsVE_contains X (.ref M :: veTail) rfl) (X _ _ hC) (looks_findIn X T.iC) (fun self => bind_fn X self S.ty) (by rw [sizeLine_eq]; exact (by decide : 1 ≤ 16777216)) ?_
  refine e_init (s := ⟨(hp.push (kdv_tup [v])).push (excO C hp.objs.size), g, dr, tk, os⟩) (h₀ := hp) (t0 := hp.objs.size) T X hlim hg hb hbb k (by rw [Heap.size_push, Heap.size_push]; omega) hget hnx ?_ fun h' tk1 tk2 dx t1 Md => ?_
  · exact hroom
  · exact ⟨rfl, hq h' tk1 tk2 (hp.objs.size + 1) dx ⟨Md.keep, Nat.le_succ _, ⟨_, _, Md.obj, rfl, rfl, rfl, rfl⟩, Md.dbig, Md.dne, Md.ns⟩⟩
end
end PdX
namespace L2
open PySem PySem.Spec PyProof.Rows
open Pd (errFs)
open Pd (errFs)
theorem relO_err {nm : Str} {tk : Tok} {v : V} {v' : Value} (r : RelV v v') (f : Str) : RelO (List.lookup f (errFs nm v)) (if f = "name" then some (.str nm tk) else if f = "at" then some v' else none) := by
  unfold errFs
  by_cases hn : f = "name"
  · subst hn
    rw [if_pos rfl]
    have q : List.lookup ("name" : Str) [(("name" : Str), V.str nm), ("at", v)] = some (.str nm) := by simp [List.lookup]
    rw [q]
    exact ⟨tk, rfl⟩
  · rw [if_neg hn]
    have qn : (f == ("name" : Str)) = false := by simpa using hn
    by_cases hw : f = "at"
    · subst hw
      rw [if_pos rfl]
      have q : List.lookup ("at" : Str) [(("name" : Str), V.str nm), ("at", v)] = some v := by simp [List.lookup, qn]
      rw [q]
      exact r
    · rw [if_neg hw]
      have qw : (f == ("at" : Str)) = false := by simpa using hw
      have q2 : List.lookup f [(("name" : Str), V.str nm), ("at", v)] = none := by simp [List.lookup, qw, qn]
      rw [q2]
      trivial
section
variable {X : Cx} {M fM C fC : Addr} {nm : Str}
/-- C(e) -/
def tMkErr (C : Addr) (nm : Str) (ta : TA) : St → Hp → XK → Prop := fun σ H Q => ta σ H fun vs H1 => ∃ v, vs = [v] ∧ ∀ d, H1 d = none → Q (.ref C) (some d) (upd H1 d (.xd (errFs nm v)))
theorem pmk_err {x : Str} {a : Expr} {ta : TA} {p pos : Pos} {k : Nat} (T : PdX.ErrTxt X.prog X.K M fM C fC nm) (hm : X.mg x = some (.ref C)) (hr : Room k X.A) (hk : 2 ≤ k) (ha : PA X [a] ta) (hg : Gl X x)
    (he : starEach (a :: []) X.env = (false, eval a X.env) :: starEach [] X.env := by rfl) (hpl : (backTo pos (starEach [] X.env)).any (·.1) = false := by rfl) (hdb : (x == ("__debug__" : Str)) = false := by decide) :
    PMk X (.Call (.Name x p) [a] [] pos) (tMkErr C nm ta) := by
  intro pins s σ H Q I h
  refine wpAny_Call_Name_kw (ld_glob I hg hm ?_ hdb)
  refine PySem.W.callWith_K (h₀ := X.base) I.ok.mod.kin T.kC (thn (ha.run pos pins s σ H _ I h) fun us s1 hh => ?_) he hpl
  obtain ⟨vs, H1, I1, r1, v, ev, q1⟩ := hh
  subst ev
  refine ⟨I1.kIn, ?_⟩
  cases r1 with
  | cons rv rn =>
    rename_i v' us'
    cases rn
    show wpAny _ _ (call (.ref C) [v']) _ _ _
    have hlim := I1.nolimit
    have hglob := I1.ok.mod.glob.keeps I1.bk
    obtain ⟨mb, hb, hbb⟩ := I1.ok.mod.blt
    have hb := hb.keeps I1.bk
    obtain ⟨hp, g, dr, tk, os⟩ := s1
    refine wpAny_call (PdX.err_made T I1.kIn hlim hglob hb hbb (by have := hr.dp; omega) fun h' tk' tk2 e d Md => ?_)
    show MkP X pins σ Q (.ref e) ⟨h', g, dr, tk', os⟩
    obtain ⟨oe, fv, hoe, hc, hd, hdat, h1⟩ := Md.obj
    have hns := Md.ns
    obtain ⟨G', g1, g2⟩ := restrict h' fun b => decide (b ≠ e)
    have gk : ∀ b, b ≠ e → G'.get? b = h'.get? b := fun b hb => g1 b (decide_eq_true hb)
    have ge : G'.get? e = none := g2 e (by simp)
    have old : ∀ b o, hp.get? b = some o → G'.get? b = some o := fun b o q => (gk b (Nat.ne_of_lt (Nat.lt_of_lt_of_le (Heap.lt_size q) Md.new))).trans (Md.keep b o q)
    have ob : ObjOk X.prog X.w (upd H1 d (.xd (errFs nm v))) G' d (.xd (errFs nm v)) :=
      ⟨_, hns.at (fun o q => (gk d Md.dne).trans q), fun f => relO_err rv f⟩
    have J : Inv X pins σ (upd H1 d (.xd (errFs nm v))) ⟨G', g, dr, tk', os⟩ := I1.laid (t' := tk') old Md.dbig ob
    refine ⟨e, oe, fv, ⟨G', g, dr, tk', os⟩, _, .ref C, some d, rfl, J, fun b o q => ?_, ge, hoe, ⟨hc, hd⟩, hdat, h1, ?_, rfl, I1.bare, raises_own T.exC T.tyC, q1 d (I1.hok.fresh Md.dbig)⟩
    · by_cases hb : b = e
      · have q' : G'.get? b = some o := q
        rw [hb, ge] at q'; cases q'
      · exact (gk b hb).symm.trans q
    · rw [upd_ne (Ne.symm Md.dne)]
      exact I1.hok.fresh Md.new
end
end L2

namespace Pd
open PySem L2 PyProof.Rows
/-! ### raise, try, e.at -/
/-- an error class of the program, by its global name -/
structure Er (P : Program) (K : PySem.W.Frag) (mg : Str → Option Value) (C : Addr) (nm : Str) : Prop where
  tx : ∃ M fM fC, PdX.ErrTxt P K M fM C fC nm
  gl : mg nm = some (.ref C)
  ns : PySem.W.nsIn K mainGlobals nm = some (some (.ref C))
theorem flat_rp {K : PySem.W.Frag} {H : Hp} {N : Addr → Prop} {d : D} {u v : V} {fp : List Addr} (h : flat d = some u) (r : Rp K H N d v fp) : v = u := by
  cases d <;> first | (cases h; exact r.1) | cases h
theorem rp_flat {K : PySem.W.Frag} {H : Hp} {N : Addr → Prop} {d : D} {u : V} (h : flat d = some u) : Rp K H N d u [] := by
  cases d <;> first | (cases h; exact ⟨rfl, rfl⟩) | cases h
def sRaise (nm : Str) (ta : TDs) : TSD := fun _ env W => ta env (fun xs e => match xs with
  | [x] => match x.tk e with
    | some (d, e') => (flat d).isSome = true ∧ W ⟨nm, d⟩ e'
    | none => False
  | _ => False) W
section
variable {X : Cx} {m : Bool} {k : Nat} {io : List Nat} {nm : Str} {C : Addr} {a : Expr} {ta : TDs} {p pos pos2 : Pos}
theorem psd_raise (hc : X.calm = true) (R : Er X.prog X.K X.mg C nm) (hr : Room k X.A) (hk : 2 ≤ k) (hg : Gl X nm) (ha : PDs X m [a] ta)
    (he : starEach (a :: []) X.env = (false, eval a X.env) :: starEach [] X.env := by rfl) (hpl : (backTo pos (starEach [] X.env)).any (·.1) = false := by rfl) (hdb : (nm == ("__debug__" : Str)) = false := by decide) :
    PSD X io (.Raise (some (.Call (.Name nm p) [a] [] pos)) none pos2) (sRaise nm ta) := ⟨fun W0 tk => by
  obtain ⟨t1, p1, q1⟩ := ha.ex W0 tk
  obtain ⟨M, fM, fC, T⟩ := R.tx
  refine ⟨_, ps_raise hc tk (pmk_err T R.gl hr hk p1 hg he hpl hdb), fun A τ σ env H De W E ok tm fx hW h ee => ?_⟩
  refine q1 A τ σ env H _ W _ ok (fun _ => tm.st) (hW σ) h fun as H' env' ok' q => ?_
  match as, ok', q with
  | [], _, q => exact q.elim
  | [(v, x)], ok', q =>
    dsimp only [List.map] at q
    split at q
    · rename_i d e' hv
      obtain ⟨hf, hw⟩ := q
      obtain ⟨u, hu⟩ := Option.isSome_iff_exists.mp hf
      have ok2 := tk1 ok' hv
      have ev : v = u := by
        obtain ⟨fa, f0, f2, o, ra, r0⟩ := Ok.cut (as := [(v, .tmp d)]) ok2
        exact flat_rp hu (RpTs.of1 ra)
      subst ev
      refine ⟨v, rfl, fun dd hd => ?_⟩
      exact hW σ _ _ ⟨nm, d⟩ _ _ ((Ok.drop (as := [(v, .tmp d)]) ok2).ext (Ext.upd hd)) ⟨C, v, dd, R.ns, rfl, hu, rfl, upd_same⟩ hw
    · exact q.elim
  | _ :: _ :: _, _, q => exact q.elim⟩
end

/-! ### the caught error's dict becomes a pin -/
def NsObj (od : Obj) (mA : Str → Option Value) : Prop := ∃ es ep, od.data = .dict es ep ∧ StrKeys es ∧ UniqKeys es ∧ ∀ n, nsFind es n = mA n
section
variable {X : Cx} {pins : List (Addr × Obj)} {σ : L2.St} {H : Hp} {s : Shared} {a dd : Addr} {p : Addr × Obj} {pn : List (Addr × Obj)} {fs : List (Str × V)}
theorem Inv.pinXd (I : Inv (X.suite a (p :: pn)) pins σ H s) (hH : H dd = some (.xd fs)) :
    ∃ od mA, NsObj od mA ∧ (∀ f, RelO (fs.lookup f) (mA f)) ∧ Inv (X.suite a (p :: (dd, od) :: pn)) pins σ (del H dd) s ∧ (∀ o, X.s_0.heap.get? dd = some o → X.H_0 dd = none → dd ∈ X.ex) ∧ (∀ q ∈ p :: pn ++ pins, q.1 ≠ dd) := by
  have hx : ObjOk X.prog X.w H s.heap dd (.xd fs) := I.hok dd _ hH
  obtain ⟨mA, ⟨od, es, ep, ho, hd, hk, hu, hf⟩, hr⟩ := hx
  have dn : ∀ {b : Addr}, H b = none → del H dd b = none := fun {b} h => by
    by_cases e : b = dd
    · rw [e]; exact del_same
    · rw [del_ne e]; exact h
  have dk : ∀ {b : Addr} {o : HO}, H b = some o → (∀ fs, o ≠ .xd fs) → del H dd b = some o := fun {b o} h n => by
    have e : b ≠ dd := fun z => by
      rw [z, hH] at h
      exact n fs (Option.some.inj h).symm
    rw [del_ne e]; exact h
  have nL : dd ≠ X.env.locals := fun e => by
    have z : H X.env.locals = none := I.free
    rw [← e, hH] at z; cases z
  have nb : ∀ o, X.s_0.heap.get? dd = some o → X.H_0 dd = none → dd ∈ X.ex := fun o h1 h2 => by
    by_cases hx : dd ∈ X.ex
    · exact hx
    · have z : H dd = none := I.base.free dd o h1 h2 hx
      rw [hH] at z; cases z
  have nF : dd ∉ X.fs := fun hm => by
    have h2 : X.H_0 dd = none := I.ok.frf dd hm
    obtain ⟨_, o', e', _⟩ := Heap.FunFrames.mem (show X.s_0.heap.FunFrames X.base X.outer from I.ok.funs) hm
    exact I.ok.exfs dd (nb o' e' h2) hm
  have np : ∀ q ∈ p :: pn ++ pins, q.1 ≠ dd := fun q hq e => by
    have z : H q.1 = none := (I.pin q hq).2.1
    rw [e, hH] at z; cases z
  have ok := I.ok
  refine ⟨od, mA, ⟨es, ep, hd, hk, hu, hf⟩, hr, ⟨⟨ok.mod, ok.kind, ok.glob, ok.blt, ok.above, ok.inj, ok.has, ok.cab, ok.hd, ok.frames, ok.stk, ok.exf, ok.bs, ok.bsz, ok.noex, ok.exfs, ok.funs, ok.frf⟩, I.os, I.bare, ?_, I.loc, I.cell, dn I.free, fun x c e => dn (I.freeC x c e), fun q hq => ?_, fun b o e => ?_, I.len⟩, nb, np⟩
  · have U := I.base
    refine ⟨U.keep, U.slot, fun b o h1 h2 h3 => dn (U.free b o h1 h2 h3), U.there, fun b xs h => dk (U.tups b xs h) (fun _ z => nomatch z), fun b o u h => dk (U.frzs b o u h) (fun _ z => nomatch z), fun b ps h => ?_⟩
    obtain ⟨more, z⟩ := U.tbls b ps h
    exact ⟨more, dk z (fun _ z => nomatch z)⟩
  · have hq' : q ∈ p :: (dd, od) :: pn ++ pins := hq
    have old : q ∈ p :: pn ++ pins → s.heap.get? q.1 = some q.2 ∧ del H dd q.1 = none ∧ q.1 ≠ X.env.locals ∧ q.1 ∉ X.fs ∧ ∀ v, q.2.data ≠ .cell v := fun h => by
      obtain ⟨z1, z2, z3, z4, z5⟩ := I.pin q h
      exact ⟨z1, dn z2, z3, z4, z5⟩
    rcases List.mem_cons.mp hq' with e | h
    · exact old (by rw [e]; exact List.mem_cons_self)
    · rcases List.mem_cons.mp h with e | h
      · rw [e]
        exact ⟨ho, del_same, nL, nF, fun v z => by
          have z' : od.data = .cell v := z
          rw [hd] at z'; cases z'⟩
      · exact old (List.mem_cons_of_mem _ h)
  · have e1 : b ≠ dd := fun z => by rw [z, del_same] at e; cases e
    rw [del_ne e1] at e
    exact (I.hok b o e).stay (fun _ _ _ y => y) (fun c hc => dk hc (fun _ z => nomatch z)) (fun c xs hc => dk hc (fun _ z => nomatch z))
theorem Inv.unpinXd {od : Obj} {mA : Str → Option Value} (I : Inv (X.suite a (p :: (dd, od) :: pn)) pins σ H s) (hn : NsObj od mA) (hr : ∀ f, RelO (fs.lookup f) (mA f)) (nb : ∀ o, X.s_0.heap.get? dd = some o → X.H_0 dd = none → dd ∈ X.ex) (np : ∀ q ∈ p :: pn ++ pins, q.1 ≠ dd) :
    Inv (X.suite a (p :: pn)) pins σ (upd H dd (.xd fs)) s := by
  obtain ⟨ho, hH, nL, nF, _⟩ := I.pin (dd, od) (List.mem_append_left _ (List.mem_cons_of_mem _ List.mem_cons_self))
  have ho : s.heap.get? dd = some od := ho
  have hH : H dd = none := hH
  have ux : ∀ {b : Addr} {o : HO}, H b = some o → upd H dd (.xd fs) b = some o := fun {b o} h => by rw [upd_ne (ne_of_none h hH)]; exact h
  have ok := I.ok
  have un : ∀ {b : Addr}, b ≠ dd → H b = none → upd H dd (.xd fs) b = none := fun {b} e h => by rw [upd_ne e]; exact h
  refine ⟨⟨ok.mod, ok.kind, ok.glob, ok.blt, ok.above, ok.inj, ok.has, ok.cab, ok.hd, ok.frames, ok.stk, ok.exf, ok.bs, ok.bsz, ok.noex, ok.exfs, ok.funs, ok.frf⟩, I.os, I.bare, ?_, I.loc, I.cell, un (Ne.symm nL) I.free, fun x c e => un (fun z => ?_) (I.freeC x c e), fun q hq => ?_, fun b o e => ?_, I.len⟩
  · have U := I.base
    refine ⟨U.keep, U.slot, fun b o h1 h2 h3 => un (fun z => ?_) (U.free b o h1 h2 h3), U.there, fun b xs h => ux (U.tups b xs h), fun b o u h => ux (U.frzs b o u h), fun b ps h => ?_⟩
    · subst z
      exact h3 (nb o h1 h2)
    · obtain ⟨more, z⟩ := U.tbls b ps h
      exact ⟨more, ux z⟩
  · obtain ⟨v, hv⟩ := I.cell x c e
    subst z
    obtain ⟨es, ep, hd, _⟩ := hn
    obtain ⟨o, h1, h2⟩ := hv
    rw [ho] at h1
    cases h1
    rw [hd] at h2
    cases h2
  · have hq' : q ∈ p :: pn ++ pins := hq
    have hq2 : q ∈ p :: (dd, od) :: pn ++ pins := by
      rcases List.mem_cons.mp hq' with e | h
      · rw [e]; exact List.mem_cons_self
      · exact List.mem_cons_of_mem _ (List.mem_cons_of_mem _ h)
    obtain ⟨z1, z2, z3, z4, z5⟩ := I.pin q hq2
    exact ⟨z1, un (np q hq') z2, z3, z4, z5⟩
  · by_cases e1 : b = dd
    · subst e1
      rw [upd_same] at e
      cases e
      obtain ⟨es, ep, hd, hk, hu, hf⟩ := hn
      exact ⟨mA, ⟨od, es, ep, ho, hd, hk, hu, hf⟩, hr⟩
    · rw [upd_ne e1] at e
      exact (I.hok b o e).stay (fun _ _ _ y => y) (fun c hc => ux hc) fun c xs hc => ux hc
end

/-! ### D over a heap from which an error's dict is taken -/
section
variable {K : PySem.W.Frag} {H H' : Hp} {N N' : Addr → Prop} {σ : L2.St}
theorem FAt.pxd {t : Bool} {a : Addr} {xs : List V} (h : FAt K H t a xs) (k : ∀ a o, H a = some o → (∀ fs, o ≠ .xd fs) → H' a = some o) : FAt K H' t a xs := by
  cases t with
  | false =>
    rcases h with ⟨o, h⟩ | h
    · exact .inl ⟨o, k _ _ h (fun _ z => nomatch z)⟩
    · exact .inr h
  | true =>
    rcases h with ⟨o, h⟩ | h
    · exact .inl ⟨o, k _ _ h (fun _ z => nomatch z)⟩
    · exact .inr h
theorem DO.noXd {t : Nat} {ks : List D} {vs : List V} {o : HO} (h : DO t ks vs o) : ∀ fs, o ≠ .xd fs := fun fs z => by
  rcases h with ⟨_, kk, _, _, e⟩ | ⟨_, kk, _, _, e⟩ <;> (rw [e] at z; cases z)
mutual
theorem Rp.pxd (k : ∀ a o, H a = some o → (∀ fs, o ≠ .xd fs) → H' a = some o) (n : ∀ a, N' a → N a) :
    ∀ (d : D) {v : V} {fp : List Addr}, Rp K H N d v fp → Rp K H' N' d v fp
  | .non, v, fp, h => h
  | .bl b, v, fp, h => h
  | .int i, v, fp, h => h
  | .str x, v, fp, h => h
  | .raw u, v, fp, h => h
  | .tup xs, v, fp, h => by
    obtain ⟨a, vs, e, s, r⟩ := h
    exact ⟨a, vs, e, k _ _ s (fun _ z => nomatch z), Rps.pxd k n xs r⟩
  | .lst o xs, v, fp, h => by
    obtain ⟨a, vs, fp', e, w, l, r⟩ := h
    refine ⟨a, vs, fp', e, w, ?_, Rps.pxd k n xs r⟩
    cases o with
    | true => exact k _ _ l (fun _ z => nomatch z)
    | false => exact ⟨fun z => l.1 (n _ z), k _ _ l.2 (fun _ z => nomatch z)⟩
  | .frl t xs, v, fp, h => by
    obtain ⟨e0, a, vs, e, s, r⟩ := h
    exact ⟨e0, a, vs, e, FAt.pxd s k, Rps.pxd k n xs r⟩
  | .dic o t ks xs, v, fp, h => by
    obtain ⟨a, vs, fp', e, w, l, r⟩ := h
    refine ⟨a, vs, fp', e, w, ?_, Rps.pxd k n xs r⟩
    cases o with
    | true =>
      obtain ⟨ho, l1, l2⟩ := l
      exact ⟨ho, k _ _ l1 l2.noXd, l2⟩
    | false =>
      obtain ⟨l0, ho, l1, l2⟩ := l
      exact ⟨fun z => l0 (n _ z), ho, k _ _ l1 l2.noXd, l2⟩
  | .obj C ns xs, v, fp, h => by
    obtain ⟨a, dx, vs, fp', e, w, l, ⟨Ca, cn, i⟩, r⟩ := h
    exact ⟨a, dx, vs, fp', e, w, l, ⟨Ca, cn, k _ _ i (fun _ z => nomatch z)⟩, Rps.pxd k n xs r⟩
theorem Rps.pxd (k : ∀ a o, H a = some o → (∀ fs, o ≠ .xd fs) → H' a = some o) (n : ∀ a, N' a → N a) :
    ∀ (d : List D) {v : List V} {fp : List Addr}, Rps K H N d v fp → Rps K H' N' d v fp
  | [], v, fp, h => h
  | d :: ds, v, fp, h => by
    obtain ⟨u, vs', f1, f2, e1, e2, r1, r2⟩ := h
    exact ⟨u, vs', f1, f2, e1, e2, Rp.pxd k n d r1, Rps.pxd k n ds r2⟩
end
theorem RpE.pxd (k : ∀ a o, H a = some o → (∀ fs, o ≠ .xd fs) → H' a = some o) (n : ∀ a, N' a → N a) :
    ∀ {ds : EnvD} {σ : L2.St} {fp : List Addr}, RpE K H N ds σ fp → RpE K H' N' ds σ fp
  | [], _, _, h => h
  | d :: ds, _, _, h => by
    obtain ⟨v, σ', f1, f2, e1, e2, r1, r2⟩ := h
    refine ⟨v, σ', f1, f2, e1, e2, ?_, RpE.pxd k n r2⟩
    cases d with
    | none => exact r1
    | some d =>
      cases v with
      | none => exact r1.elim
      | some v => exact Rp.pxd k n d r1
theorem RpTs.pxd (k : ∀ a o, H a = some o → (∀ fs, o ≠ .xd fs) → H' a = some o) (n : ∀ a, N' a → N a) :
    ∀ {τ : List (V × T)} {fp : List Addr}, tmps τ → RpTs K H σ N τ fp → RpTs K H' σ N' τ fp
  | [], _, tm, h => h
  | x :: τ, _, tm, h => by
    obtain ⟨f1, f2, e, r1, r2⟩ := h
    refine ⟨f1, f2, e, ?_, RpTs.pxd k n (fun y hy => tm y (List.mem_cons_of_mem _ hy)) r2⟩
    obtain ⟨d, hd⟩ := tm x List.mem_cons_self
    rw [hd] at r1 ⊢
    exact Rp.pxd k n d r1
/-- the anchor without dd -/
def Anc.less (A : Anc) (dd : Addr) : Anc := ⟨del A.H dd, A.F, fun b => A.U b ∧ b ≠ dd, A.fx⟩
variable {A : Anc} {τ : List (V × T)} {env : EnvD} {dd : Addr} {fs : List (Str × V)}
theorem Ok.pin (ok : Ok K A τ σ env H) (tm : tmps τ) (hH : H dd = some (.xd fs)) : Ok K (A.less dd) τ σ env (del H dd) := by
  obtain ⟨f1, f2, o⟩ := ok
  have dk : ∀ a o, H a = some o → (∀ fs, o ≠ .xd fs) → del H dd a = some o := fun b o h n => by
    have e : b ≠ dd := fun z => by
      rw [z, hH] at h
      exact n fs (Option.some.inj h).symm
    rw [del_ne e]; exact h
  have nn : ∀ a, (A.less dd).nn (f1 ++ f2) a → A.nn (f1 ++ f2) a := fun a h => h.imp (fun z => z.1) id
  refine ⟨f1, f2, RpTs.pxd dk nn tm o.ts, RpE.pxd dk nn o.en, o.nd, fun a ha => ⟨fun z => (o.un a ha).1 z.1, (o.un a ha).2.imp id fun z => ?_⟩, fun a ob e nf => ?_, fun a h => ?_, o.fix⟩
  · show del A.H dd a = none
    unfold del
    split
    · rfl
    · exact z
  · have e' : del A.H dd a = some ob := e
    have ne : a ≠ dd := fun z => by rw [z, del_same] at e'; cases e'
    rw [del_ne ne] at e' ⊢
    exact o.keep a ob e' nf
  · obtain ⟨z1, z2⟩ := o.anc a h.1
    refine ⟨?_, z2⟩
    show del A.H dd a ≠ none
    rw [del_ne h.2]
    exact z1
theorem Ok.unpin {τ' : List (V × T)} {σ' : L2.St} {env' : EnvD} {H0 : Hp} (ok0 : Ok K A τ σ env H0) (hH : H0 dd = some (.xd fs)) (ok : Ok K (A.less dd) τ' σ' env' H) (hn : H dd = none) : Ok K A τ' σ' env' (upd H dd (.xd fs)) := by
  obtain ⟨g1, g2, o0⟩ := ok0
  obtain ⟨f1, f2, o⟩ := ok
  have nn : ∀ a, A.nn (f1 ++ f2) a → (A.less dd).nn (f1 ++ f2) a ∨ H a = none := fun a h => by
    rcases h with h | h
    · by_cases e : a = dd
      · exact .inr (by rw [e]; exact hn)
      · exact .inl (.inl ⟨h, e⟩)
    · exact .inl (.inr h)
  have ne : ∀ a ∈ f1 ++ f2, a ≠ dd := fun a ha e => by
    have := o.there a (.inr ha)
    rw [e, hn] at this
    exact this rfl
  have kx : ∀ a o, H a = some o → ¬ (fun _ : Addr => False) a → upd H dd (.xd fs) a = some o := fun a o e _ => Ext.upd hn a o e
  refine ⟨f1, f2, RpTs.frame (M := fun _ => False) kx (fun _ z => z.elim) nn (fun _ _ z => z) (.inl fun _ z => z) o.ts, RpE.frame (M := fun _ => False) kx (fun _ z => z.elim) nn (fun _ _ z => z) o.en, o.nd, fun a ha => ?_, fun a ob e nf => ?_, o0.anc, o.fix⟩
  · have z := ne a ha
    obtain ⟨u1, u2⟩ := o.un a ha
    refine ⟨fun u => u1 ⟨u, z⟩, u2.imp id fun q => ?_⟩
    have q' : del A.H dd a = none := q
    rw [del_ne z] at q'
    exact q'
  · by_cases z : a = dd
    · subst z
      have y := o0.keep a ob e nf
      rw [hH] at y
      cases y
      exact upd_same
    · rw [upd_ne z]
      exact o.keep a ob (by show del A.H dd a = some ob; rw [del_ne z]; exact e) nf
end

/-! ### a reading over the heap that is the reading over D -/
def tCl (K : PySem.W.Frag) (io : List Nat) (ts : TSD) (W0 : L2.WX) : TS := fun E σ H => ∃ (A : Anc) (τ : List (V × T)) (env : EnvD) (De : EndsD) (W : WD),
  Ok K A τ σ env H ∧ tmps τ ∧ (∀ q ∈ A.fx, q.1 ∈ io) ∧ (∀ σ, HW K W0 A τ σ W) ∧ ts De env W ∧ EE K A τ De E
theorem psd_cl {X : Cx} {io : List Nat} {st : List Stmt} {ts : TSD} {W0 : L2.WX} (h : PSsD X io st ts) (tk : Takes X W0) : PSs X st (tCl X.K io ts W0) := by
  obtain ⟨t, p, q⟩ := h.ex W0 tk
  refine ⟨fun pins s σ H D I h => ?_⟩
  obtain ⟨A, τ, env, De, W, ok, tm, fx, hW, h, ee⟩ := h
  exact p.run pins s σ H D I (q A τ σ env H De W D ok tm fx hW h ee)

/-! ### e.at -/
structure AtX (Y : Cx) (a : Addr) (v : V) : Prop where
  ex : ∃ (oe od : Obj) (dd C : Addr) (mA : Str → Option Value), (a, oe) ∈ Y.pn ∧ (dd, od) ∈ Y.pn ∧ oe.cls = .ref C ∧ oe.dict = some dd ∧ (∃ vs, oe.data = .fields vs) ∧ NsObj od mA ∧ RelO (some v) (mA "at") ∧ XfC Y.K C ∧ PySem.W.findIn Y.K (.ref C) "at" = some none
def dAt (a : Addr) (i : Nat) (d : D) : TD := fun env Q _ => env[i]? = some (some (.raw (.ref a))) ∧ Q (.tmp d) env
theorem pd_at {Y : Cx} {a : Addr} {v : V} {d : D} {i : Nat} {x : Str} {p pos : Pos} (T : AtX Y a v) (hd : flat d = some v) (hN : Y.N[i]? = some x := by rfl) (hv : Vis Y.env.scope x := by first | exact Or.inl rfl | exact Or.inr (Or.inl rfl) | exact Or.inr (Or.inr rfl))
    (hdb : (x == ("__debug__" : Str)) = false := by decide) (hcd : (x == ("__classdict__" : Str)) = false := by decide) (hb : attributeBase (.Name x p) "at" Y.env (eval (.Name x p) Y.env) = eval (.Name x p) Y.env := by rfl) :
    PD Y false (.Attribute (.Name x p) "at" pos) (dAt a i d) := by
  obtain ⟨oe, od, dd, C, mA, m1, m2, hc, hdd, ⟨vs, hfl⟩, ⟨es, ep, hde, hk, hu, hf⟩, hr, XC, hno⟩ := T.ex
  have he : PE Y (.Name x p) (tVar i) := pe_var hN hv hdb hcd
  refine ⟨fun W0 tk => ⟨fun σ H Q => σ[i]? = some (some (.ref a)) ∧ Q v H, ⟨fun pins s σ H Q I h => ?_⟩, fun A τ σ env H Q W R ok _ _ h hR => ?_⟩⟩
  · refine attr_of hb (thn (he.run pins s σ H (fun x H1 => x = .ref a ∧ Q v H1) I ⟨_, h.1, rfl, h.2⟩) fun u s1 hh => ?_)
    obtain ⟨x, H1, I1, rx, ex, q⟩ := hh
    subst ex
    obtain rfl : u = Value.ref a := rx
    have ha : s1.heap.get? a = some oe := (I1.pin (a, oe) (List.mem_append_left _ m1)).1
    have hd' : s1.heap.get? dd = some od := (I1.pin (dd, od) (List.mem_append_left _ m2)).1
    obtain ⟨od', ho, hl⟩ := lookIn_ns (show s1.heap.Ns1 dd mA from ⟨od, es, ep, hd', hde, hk, hu, hf⟩)
    obtain ⟨u, hu, ru⟩ := RelO.some_of (v := v) (o := mA "at") hr
    have J : PySem.W.InstAt s1.heap a oe C (some od') := ⟨ha, hc, by unfold PySem.W.notCls; rw [hfl] <;> rfl, by rw [hdd]; exact ho⟩
    exact HandSPX.exc_get I1.kIn J XC.ga XC.gg XC.exC (PySem.W.findObj_own XC.hdC hno rfl (by rw [hl, hu])) (handed_of ru) ⟨v, H1, I1.tok _, ru, q⟩
  · obtain ⟨he, hq⟩ := h
    obtain ⟨f1, f2, o⟩ := id ok
    obtain ⟨w, g1, gm, g2, q1, _, q3, _⟩ := RpE.get o.en he
    cases w with
    | none => exact q3.elim
    | some w =>
      have ew : w = .ref a := q3.1
      rw [ew] at q1
      exact ⟨q1, hR v H (.tmp d) env (ok.pushD fun N => rp_flat hd) hq⟩

theorem Ok.unset {K : PySem.W.Frag} {A : Anc} {τ : List (V × T)} {σ : L2.St} {env : EnvD} {H : Hp} {i : Nat} (ok : Ok K A τ σ env H) (tm : tmps τ) (hi : ∀ q ∈ A.fx, q.1 ≠ i) : Ok K A τ (σ.set i none) (env.set i none) H := by
  obtain ⟨f1, f2, o⟩ := Ok.wipes (vs := [i]) ok
  refine ⟨f1, f2, RpTs.sig tm o.ts, RpE.sigs (vs := [i]) o.en fun i hi d e => wipeD_get hi d e, o.nd, o.un, o.keep, o.anc, fun q hq => ?_⟩
  rw [List.getElem?_set_ne (Ne.symm (hi q hq))]
  exact o.fix q hq

/-! ### try -/
def sTryAs (L N : List Str) (i : Nat) (tb : TSD) (ts : Addr → D → TSD) : TSD := fun De env W => tb De env fun ex e =>
  if ex.nm ∈ L then ∀ a, ts a ex.d { nx := fun e' => De.nx (e'.set i none), rt := De.rt, bk := fun e' => De.bk (e'.set i none), ct := fun e' => De.ct (e'.set i none) } (e.set i (some (.raw (.ref a)))) noW
  else ex.nm ∈ N ∧ W ex e
def sTry (L N : List Str) (tb ts : TSD) : TSD := fun De env W => tb De env fun ex e => if ex.nm ∈ L then ts De e noW else ex.nm ∈ N ∧ W ex e
def tsV (K : PySem.W.Frag) (io : List Nat) (ts : Addr → D → TSD) (a : Addr) (cls : Value) (d : Option Addr) : TS := fun E σ H => ∃ (dd : Addr) (v : V) (nm : Str) (dD : D), d = some dd ∧ (∃ C, cls = .ref C ∧ XfC K C ∧ PySem.W.findIn K (.ref C) "at" = some none) ∧
  H dd = some (.xd (errFs nm v)) ∧ flat dD = some v ∧ tCl K io (ts a dD) (fun _ _ _ _ => False)
    { nx := fun σ' H' => H' dd = none → E.nx σ' (upd H' dd (.xd (errFs nm v))), rt := fun u H' => H' dd = none → E.rt u (upd H' dd (.xd (errFs nm v))), bk := fun σ' H' => H' dd = none → E.bk σ' (upd H' dd (.xd (errFs nm v))), ct := fun σ' H' => H' dd = none → E.ct σ' (upd H' dd (.xd (errFs nm v))) } σ (del H dd)
theorem err_at {nm : Str} {v : V} : (errFs nm v).lookup ("at" : Str) = some v := by
  unfold errFs
  rw [List.lookup_cons]
  have : (("at" : Str) == "name") = false := by decide
  rw [this]
  rfl
section
variable {X : Cx} {io : List Nat} {x n : Str} {c : Value} {i : Nat} {body suite : List Stmt} {b₀ : Stmt} {np pos pos' : Pos} {tb : TSD} {L N : List Str}
theorem pss_suite {ts : Addr → D → TSD} {a : Addr} {oe : Obj} {cls : Value} {d : Option Addr} {pn : List (Addr × Obj)} (hz : Zc cls d oe) (hfl : ∃ vs, oe.data = .fields vs)
    (hsu : ∀ (a : Addr) (v : V) (d : D) (pn : List (Addr × Obj)), flat d = some v → AtX (X.suite a pn) a v → PSsD (X.suite a pn) io suite (ts a d)) : PSs (X.suite a ((a, oe) :: pn)) suite (tsV X.K io ts a cls d) := by
  refine ⟨fun pins s σ H E I h => ?_⟩
  obtain ⟨dd, v, nm, dD, rfl, ⟨C, rfl, XC, hno⟩, hH, hf, h⟩ := h
  obtain ⟨od, mA, hn, hr, I', nb, np⟩ := Inv.pinXd I hH
  have T : AtX (X.suite a ((a, oe) :: (dd, od) :: pn)) a v := ⟨oe, od, dd, C, mA, List.mem_cons_self, List.mem_cons_of_mem _ List.mem_cons_self, hz.1, hz.2, hfl, hn, by have z := hr "at"; rw [err_at] at z; exact z, XC, hno⟩
  refine wpAny_mono ((psd_cl (hsu a v dD _ hf T) takes0).run pins s σ _ _ I' h) (fun f s1 hsp => ?_) (fun _ _ z => z)
  have off : ∀ {σ' : L2.St} {H' : Hp}, Inv (X.suite a ((a, oe) :: (dd, od) :: pn)) pins σ' H' s1 → H' dd = none := fun J => (J.pin (dd, od) (List.mem_append_left _ (List.mem_cons_of_mem _ List.mem_cons_self))).2.1
  cases f with
  | next =>
    obtain ⟨σ', H', J, q⟩ := hsp
    exact ⟨σ', _, Inv.unpinXd J hn hr nb np, q (off J)⟩
  | brk =>
    obtain ⟨σ', H', J, q⟩ := hsp
    exact ⟨σ', _, Inv.unpinXd J hn hr nb np, q (off J)⟩
  | cont =>
    obtain ⟨σ', H', J, q⟩ := hsp
    exact ⟨σ', _, Inv.unpinXd J hn hr nb np, q (off J)⟩
  | ret u =>
    obtain ⟨w, σ', H', J, r, q⟩ := hsp
    exact ⟨w, σ', _, Inv.unpinXd J hn hr nb np, r, q (off J)⟩
theorem Er.xf {P : Program} {K : PySem.W.Frag} {mg : Str → Option Value} {C : Addr} {nm : Str} (R : Er P K mg C nm) : XfC K C ∧ PySem.W.findIn K (.ref C) "at" = some none := by
  obtain ⟨M, fM, fC, T⟩ := R.tx
  exact ⟨⟨T.ga, T.gg, T.exC, T.hdC⟩, T.noA⟩
theorem psd_tryAs {ts : Addr → D → TSD} (hs : X.stack = X.env :: X.outer) (hf : X.env.frame = some X.env.locals) (hN : X.N.Nodup) (hi : X.N[i]? = some n) (hln : X.env.kindOf n = some .local) (hc : Names X x c) (hio : i ∉ io)
    (hE : ∀ nm ∈ L, ∃ C, Er X.prog X.K X.mg C nm ∧ PySem.W.exmOne X.K (.ref C) c = some true) (hF : ∀ nm ∈ N, ∃ C, Er X.prog X.K X.mg C nm ∧ PySem.W.exmOne X.K (.ref C) c = some false)
    (hb : ∀ (pn : List (Addr × Obj)) (xe : Value → Shared → Prop), PassesOwn (model X.prog X.w) X.A X.env xe → PSsD (X.tr pn xe) io body tb)
    (hsu : ∀ (a : Addr) (v : V) (d : D) (pn : List (Addr × Obj)), flat d = some v → AtX (X.suite a pn) a v → PSsD (X.suite a pn) io (b₀ :: suite) (ts a d)) :
    PSD X io (.Try body [.ExceptHandler (some (.Name x np)) (some n) (b₀ :: suite) pos'] [] [] pos) (sTryAs L N i tb ts) := by
  refine ⟨fun W0 tk => ⟨_, ps_try_as hs hf hN hi hln hc tk (tb := fun W => tCl X.K io tb W) (ts := tsV X.K io ts) (fun W pn xe tk' hp => psd_cl (hb pn xe hp) tk') (fun a oe cls d pn hz hfl => pss_suite hz hfl hsu), fun A τ σ env H De W E ok tm fx hW h ee => ?_⟩⟩
  refine ⟨A, τ, env, De, _, ok, tm, fx, fun σ' env' H' ex cls d ok' hx hw => ?_, h, ee⟩
  obtain ⟨C, v, dd, hns, rfl, hfl, rfl, hH⟩ := hx
  have hne : ∀ q ∈ A.fx, q.1 ≠ i := fun q hq e => hio (by rw [← e]; exact fx q hq)
  by_cases hL : ex.nm ∈ L
  · rw [if_pos hL] at hw
    obtain ⟨C', R, hm⟩ := hE _ hL
    have eC : C' = C := by
      have z := R.ns
      rw [hns] at z
      cases z; rfl
    subst eC
    refine ⟨true, hm, fun _ a na => ?_, fun z : true = false => nomatch z⟩
    have hr := hw a
    have ok2 : Ok X.K A τ (σ'.set i (some (.ref a))) (env'.set i (some (.raw (.ref a)))) H' := Ok.set (ok'.pushD (v := .ref a) (d := .raw (.ref a)) fun N => ⟨rfl, rfl⟩) tm hne
    refine ⟨dd, v, ex.nm, ex.d, rfl, ⟨_, rfl, R.xf⟩, hH, hfl, A.less dd, τ, _, _, noW, ok2.pin tm hH, tm, fx, fun _ _ _ _ _ _ _ _ z => z.elim, hr, ⟨?_, ?_, ?_, ?_⟩⟩
    · exact fun σ2 env2 H2 o2 q hn => ee.nx _ _ _ ((Ok.unpin ok2 hH o2 hn).unset tm hne) q
    · exact fun u x2 σ2 env2 H2 o2 q hn => ee.rt _ x2 _ _ _ (Ok.unpin ok2 hH o2 hn) q
    · exact fun σ2 env2 H2 o2 q hn => ee.bk _ _ _ ((Ok.unpin ok2 hH o2 hn).unset tm hne) q
    · exact fun σ2 env2 H2 o2 q hn => ee.ct _ _ _ ((Ok.unpin ok2 hH o2 hn).unset tm hne) q
  · rw [if_neg hL] at hw
    obtain ⟨hw1, hw2⟩ := hw
    obtain ⟨C', R, hm⟩ := hF _ hw1
    have eC : C' = C := by
      have z := R.ns
      rw [hns] at z
      cases z; rfl
    subst eC
    exact ⟨false, hm, (fun z : false = true => nomatch z), fun _ => hW σ' _ _ ex _ _ ok' ⟨_, v, dd, hns, rfl, hfl, rfl, hH⟩ hw2⟩
theorem psd_try {ts : TSD} (hs : X.stack = X.env :: X.outer) (hf : X.env.frame = some X.env.locals) (hc : Names X x c)
    (hE : ∀ nm ∈ L, ∃ C, Er X.prog X.K X.mg C nm ∧ PySem.W.exmOne X.K (.ref C) c = some true) (hF : ∀ nm ∈ N, ∃ C, Er X.prog X.K X.mg C nm ∧ PySem.W.exmOne X.K (.ref C) c = some false)
    (hb : ∀ (pn : List (Addr × Obj)) (xe : Value → Shared → Prop), PassesOwn (model X.prog X.w) X.A X.env xe → PSsD (X.tr pn xe) io body tb)
    (hsu : ∀ (a : Addr) (pn : List (Addr × Obj)), PSsD (X.suite a pn) io (b₀ :: suite) ts) :
    PSD X io (.Try body [.ExceptHandler (some (.Name x np)) none (b₀ :: suite) pos'] [] [] pos) (sTry L N tb ts) := by
  refine ⟨fun W0 tk => ⟨_, ps_try_only hs hf hc tk (tb := fun W => tCl X.K io tb W) (ts := fun _ _ _ => tCl X.K io ts (fun _ _ _ _ => False)) (fun W pn xe tk' hp => psd_cl (hb pn xe hp) tk') (fun a oe cls d pn hz hfl => psd_cl (hsu a _) takes0), fun A τ σ env H De W E ok tm fx hW h ee => ?_⟩⟩
  refine ⟨A, τ, env, De, _, ok, tm, fx, fun σ' env' H' ex cls d ok' hx hw => ?_, h, ee⟩
  obtain ⟨C, v, dd, hns, rfl, hfl, rfl, hH⟩ := hx
  by_cases hL : ex.nm ∈ L
  · rw [if_pos hL] at hw
    obtain ⟨C', R, hm⟩ := hE _ hL
    have eC : C' = C := by
      have z := R.ns
      rw [hns] at z
      cases z; rfl
    subst eC
    exact ⟨true, hm, fun _ a na => ⟨A, τ, _, De, noW, ok', tm, fx, fun _ _ _ _ _ _ _ _ z => z.elim, hw, ee⟩, fun z : true = false => nomatch z⟩
  · rw [if_neg hL] at hw
    obtain ⟨hw1, hw2⟩ := hw
    obtain ⟨C', R, hm⟩ := hF _ hw1
    have eC : C' = C := by
      have z := R.ns
      rw [hns] at z
      cases z; rfl
    subst eC
    exact ⟨false, hm, (fun z : false = true => nomatch z), fun _ => hW σ' _ _ ex _ _ ok' ⟨_, v, dd, hns, rfl, hfl, rfl, hH⟩ hw2⟩
end
end Pd

namespace Pd
open PySem L2 PyProof.Rows
/-! ### x = [.. for ..] on one line; x += e -/
/-- what a comprehension's parts promise -/
def LcS (X : Cx) (elt tg iter : Expr) (ifs : List Expr) (scope : Scope) (own : List (Str × Nat)) (td : TD) : Prop :=
  ∀ (W0 : L2.WX), Takes X W0 → ∃ (wi : TI) (tg' : TG) (tt' : TT) (te' : TE), PI X tg iter wi ∧ (∀ (s : Shared) (H : Hp) (C : Addr) (cl : List (Str × Addr)) (fp : List Addr), PG (X.blk s H scope (compEnvC scope cl C X.env) fp) tg tg') ∧
    (∀ (s : Shared) (H : Hp) (C : Addr) (cl : List (Str × Addr)) (fp : List Addr), PTs (X.blk s H scope (compEnvC scope cl C X.env) fp) ifs tt') ∧
    (∀ (s : Shared) (H : Hp) (C : Addr) (cl : List (Str × Addr)) (fp : List Addr), PE (X.blk s H scope (compEnvC scope cl C X.env) fp) elt te') ∧ BlkOk X.N X.env.scope scope own ∧ (∀ x, foldedSetIterable iter X.env x = pure x) ∧
    ∀ (A : Anc) (τ : List (V × T)) (σ : St) (env : EnvD) (H : Hp) (Q : T → EnvD → Prop) (W : WD) (R : VK),
      Ok X.K A τ σ env H → (true = true → stays τ) → HW X.K W0 A τ σ W → td env Q W → (∀ v H' x env', Ok X.K A ((v, x) :: τ) σ env' H' → Q x env' → R v H') → tLc wi tg' tt' te' (own.map (·.2)) σ H R
section
variable {X : Cx} {vs : List Nat} {m m2 m3 : Bool} {elt tg iter : Expr} {ifs : List Expr} {scope : Scope} {own : List (Str × Nat)} {pos : Pos} {g : TGD} {tt : TTD} {te td : TD} {ta : TDs} {io : List Nat}
theorem lcs (hi : PD X m iter td) (okb : BlkOk X.N X.env.scope scope own) (hg : ∀ (s : Shared) (H : Hp) (C : Addr) (cl : List (Str × Addr)) (fp : List Addr), PGV (X.blk s H scope (compEnvC scope cl C X.env) fp) (own.map (·.2)) tg g)
    (ht : ∀ (s : Shared) (H : Hp) (C : Addr) (cl : List (Str × Addr)) (fp : List Addr), PTV (X.blk s H scope (compEnvC scope cl C X.env) fp) m2 ifs tt)
    (he : ∀ (s : Shared) (H : Hp) (C : Addr) (cl : List (Str × Addr)) (fp : List Addr), PD (X.blk s H scope (compEnvC scope cl C X.env) fp) m3 elt te)
    (hs : ∀ x, foldedSetIterable iter X.env x = pure x := by intro _; rfl) : LcS X elt tg (iter) ifs scope own (dLc (own.map (·.2)) td g tt te) := by
  intro W0 tk
  obtain ⟨t0, p0, q0⟩ := hi.ex W0 tk
  obtain ⟨tg', tt', te', g1, g2, g3, q1, q2, q3⟩ := lc_parts (vs := own.map (·.2)) hg ht he
  refine ⟨_, _, _, _, (pi_of piv_any p0), g1, g2, g3, okb, hs, fun A τ σ env H Q W R ok st hW h hR => ?_⟩
  refine q0 A τ σ env H _ W _ ok (fun _ => st rfl) hW h fun v H' x env' ok' q => ?_
  split at q
  · rename_i d hv
    cases hx : itemsD d with
    | none => rw [hx] at q; exact q.elim
    | some xs =>
      rw [hx] at q
      obtain ⟨ok1, sh⟩ := nrm1 ok' hv
      obtain ⟨A1, τ1, f1, f2, o, rd, oA, leave⟩ := lc_ground (vs := own.map (·.2)) ok1 (st rfl) sh
      refine items_walk o rd sh hx (A' := ⟨H', fun a => a ∈ f2, A1.nn f1, []⟩) rfl (fun a h => List.mem_append_right _ h) (fun a h => ?_) fun J n G Y en w hG hY => ?_
      · rcases h with h | h
        · exact .inl h
        · exact .inr (List.mem_append_left _ h)
      · exact lc_go (A := A1) (τ := τ1) q1 q2 q3 w en rfl hG hY oA q fun p acc e' H2 ok2 q2 => hR _ _ _ _ (leave _ _ _ _ ok2) q2
  · exact q.elim
theorem lcsR1 {a : Expr} {p cpos : Pos} (hgl : Gl X "range") (hm : X.mg "range" = none) (ha : PDs X m [a] ta) (okb : BlkOk X.N X.env.scope scope own) (hg : ∀ (s : Shared) (H : Hp) (C : Addr) (cl : List (Str × Addr)) (fp : List Addr), PGV (X.blk s H scope (compEnvC scope cl C X.env) fp) (own.map (·.2)) tg g)
    (ht : ∀ (s : Shared) (H : Hp) (C : Addr) (cl : List (Str × Addr)) (fp : List Addr), PTV (X.blk s H scope (compEnvC scope cl C X.env) fp) m2 ifs tt)
    (he : ∀ (s : Shared) (H : Hp) (C : Addr) (cl : List (Str × Addr)) (fp : List Addr), PD (X.blk s H scope (compEnvC scope cl C X.env) fp) m3 elt te)
    (hst : starEach [a] X.env = [(false, eval a X.env)] := by rfl)
    (hs : ∀ x, foldedSetIterable (.Call (.Name "range" p) [a] [] cpos) X.env x = pure x := by intro _; rfl) : LcS X elt tg (.Call (.Name "range" p) [a] [] cpos) ifs scope own (dLcR1 (own.map (·.2)) ta g tt te) := by
  intro W0 tk
  obtain ⟨t0, p0, q0⟩ := ha.ex W0 tk
  obtain ⟨tg', tt', te', g1, g2, g3, q1, q2, q3⟩ := lc_parts (vs := own.map (·.2)) hg ht he
  refine ⟨_, _, _, _, (pi_range1 hgl hm p0 hst), g1, g2, g3, okb, hs, fun A τ σ env H Q W R ok st hW h hR => ?_⟩
  refine q0 A τ σ env H _ W _ ok (fun _ => st rfl) hW h fun as H' env' ok' q => ?_
  obtain ⟨b, ds, f0, f2, hf, hs, o, rr⟩ := ok'.args q
  have l := rr.length
  rw [List.length_map] at l
  split at hf
  · rename_i j
    match as, l, rr, ok' with
    | [(v, x)], _, rr, ok' =>
      obtain ⟨u, vs', g1, g2, e1', e2', r1, r2⟩ := rr
      cases e1'
      obtain ⟨⟨h1, h2⟩, hf⟩ := hf
      obtain ⟨A1, τ1, f1, f2, o, rd, oA, leave⟩ := lc_ground (vs := own.map (·.2)) (v := .non) (d := .non) ((Ok.drop (as := [(v, x)]) ok').pushD (d := .non) fun N => ⟨rfl, rfl⟩) (st rfl) rfl
      refine ⟨j, by rw [show v = .int j from r1.1]; rfl, h1, h2, ?_⟩
      refine lc_go (A := A1) (τ := τ1) q1 q2 q3 (walk_range (lo := 0) (n := j.toNat)) (by unfold rangeD; simp) rfl (fun _ _ _ _ _ => trivial) (fun i τ σ env H w H' x okx hy hx => ?_) oA hf fun p acc e' H2 ok2 q2 => hR _ _ _ _ (leave _ _ _ _ ok2) q2
      obtain ⟨rfl, rfl⟩ := hy
      refine ⟨rfl, okx.pushD fun N => ?_⟩
      unfold rangeD at hx
      rw [List.getElem?_map] at hx
      cases hr : (List.range (j - 0).toNat)[i]? with
      | none => rw [hr] at hx; cases hx
      | some k =>
        rw [hr] at hx
        have e1 : k = i := by
          obtain ⟨hl, e⟩ := List.getElem?_eq_some_iff.mp hr
          rw [List.getElem_range] at e
          exact e.symm
        have e2 : x = .int (0 + (k : Int)) := (Option.some.inj hx).symm
        rw [e2, e1]
        exact ⟨rfl, rfl⟩
  · exact hf.elim
theorem lcsR2 {a b : Expr} {p cpos : Pos} (hgl : Gl X "range") (hm : X.mg "range" = none) (ha : PDs X m [a, b] ta) (okb : BlkOk X.N X.env.scope scope own) (hg : ∀ (s : Shared) (H : Hp) (C : Addr) (cl : List (Str × Addr)) (fp : List Addr), PGV (X.blk s H scope (compEnvC scope cl C X.env) fp) (own.map (·.2)) tg g)
    (ht : ∀ (s : Shared) (H : Hp) (C : Addr) (cl : List (Str × Addr)) (fp : List Addr), PTV (X.blk s H scope (compEnvC scope cl C X.env) fp) m2 ifs tt)
    (he : ∀ (s : Shared) (H : Hp) (C : Addr) (cl : List (Str × Addr)) (fp : List Addr), PD (X.blk s H scope (compEnvC scope cl C X.env) fp) m3 elt te)
    (hst : starEach [a, b] X.env = [(false, eval a X.env), (false, eval b X.env)] := by rfl) (hst2 : starEach [b] X.env = [(false, eval b X.env)] := by rfl)
    (hs : ∀ x, foldedSetIterable (.Call (.Name "range" p) [a, b] [] cpos) X.env x = pure x := by intro _; rfl) : LcS X elt tg (.Call (.Name "range" p) [a, b] [] cpos) ifs scope own (dLcR2 (own.map (·.2)) ta g tt te) := by
  intro W0 tk
  obtain ⟨t0, p0, q0⟩ := ha.ex W0 tk
  obtain ⟨tg', tt', te', g1, g2, g3, q1, q2, q3⟩ := lc_parts (vs := own.map (·.2)) hg ht he
  refine ⟨_, _, _, _, (pi_range2 hgl hm p0 hst hst2), g1, g2, g3, okb, hs, fun A τ σ env H Q W R ok st hW h hR => ?_⟩
  refine q0 A τ σ env H _ W _ ok (fun _ => st rfl) hW h fun as H' env' ok' q => ?_
  obtain ⟨b, ds, f0, f2, hf, hs, o, rr⟩ := ok'.args q
  have l := rr.length
  rw [List.length_map] at l
  split at hf
  · rename_i lo j
    match as, l, rr, ok' with
    | [(v, x), (v2, x2)], _, rr, ok' =>
      obtain ⟨u, vs', g1, g2, e1', e2', r1, u2, vs2, g3, g4, e3', e4', r2, r3⟩ := rr
      cases e1'
      cases e3'
      obtain ⟨h1, hf⟩ := hf
      obtain ⟨A1, τ1, f1, f2, o, rd, oA, leave⟩ := lc_ground (vs := own.map (·.2)) (v := .non) (d := .non) ((Ok.drop (as := [(v, x), (v2, x2)]) ok').pushD (d := .non) fun N => ⟨rfl, rfl⟩) (st rfl) rfl
      refine ⟨lo, j, by rw [show v = .int lo from r1.1, show v2 = .int j from r2.1]; rfl, h1, ?_⟩
      refine lc_go (A := A1) (τ := τ1) q1 q2 q3 (walk_range (lo := lo) (n := (j - lo).toNat)) (by unfold rangeD; simp) rfl (fun _ _ _ _ _ => trivial) (fun i τ σ env H w H' x okx hy hx => ?_) oA hf fun p acc e' H2 ok2 q2 => hR _ _ _ _ (leave _ _ _ _ ok2) q2
      obtain ⟨rfl, rfl⟩ := hy
      refine ⟨rfl, okx.pushD fun N => ?_⟩
      unfold rangeD at hx
      rw [List.getElem?_map] at hx
      cases hr : (List.range (j - lo).toNat)[i]? with
      | none => rw [hr] at hx; cases hx
      | some k =>
        rw [hr] at hx
        have e1 : k = i := by
          obtain ⟨hl, e⟩ := List.getElem?_eq_some_iff.mp hr
          rw [List.getElem_range] at e
          exact e.symm
        have e2 : x = .int (lo + (k : Int)) := (Option.some.inj hx).symm
        rw [e2, e1]
        exact ⟨rfl, rfl⟩
  · exact hf.elim
theorem psd_setLc {i : Nat} {y : Str} {py spos : Pos} (hc : X.calm = true) (hN : X.N.Nodup) (hy : X.N[i]? = some y) (hyl : X.env.scope.names.lookup y = some .local) (h : LcS X elt tg iter ifs scope own td)
    (hsw : swapsWith (.ListComp elt [⟨tg, iter, ifs, 0⟩] scope pos) (some (.Name y py)) spos.line X.env = pure true) (hio : i ∉ io := by decide) :
    PSD X io (.Assign [.Name y py] (.ListComp elt [⟨tg, iter, ifs, 0⟩] scope pos) spos) (sAsg td (gNm i)) := ⟨fun W0 tk => by
  obtain ⟨wi, tg', tt', te', p1, p2, p3, p4, okb, hs, q1⟩ := h W0 tk
  refine ⟨_, ps_setLc hc hN hy hyl hsw p1 okb p2 p3 p4 hs, fun A τ σ env H De W E ok tm fx hW h ee => ?_⟩
  refine q1 A τ σ env H _ W _ ok (fun _ => tm.st) (hW σ) h fun v H' y env' ok' q => ?_
  split at q
  · rename_i d e' hv
    exact ee.nx _ _ H' (Ok.set (i := i) (tk1 ok' hv) tm fun q hq e => hio (by rw [← e]; exact fx q hq)) q
  · exact q.elim⟩
end

/-! ### x op= e -/
section
variable {X : Cx} {io : List Nat} {m : Bool} {e : Expr} {te : TD} {pos : Pos}
theorem psd_aug {i : Nat} {x : Str} {op : Operator} {r : R2} {f : Fn} {pos' : Pos} (hN : X.N.Nodup) (hi : X.N[i]? = some x) (hx : Loc X.env.scope x) (ho : OpR X (inplaceOp op) r) (s : Snd X.K (r2 r) f) (he : PD X m e te) (hio : i ∉ io := by decide)
    (hf : X.fn x = true ∨ X.env.scope.names.lookup x = some .local := by first | exact .inl rfl | exact .inr rfl | assumption) : PSD X io (.AugAssign (.Name x pos') op e pos) (sAsg (dFn f (d2 m (dVar i) te)) (gNm i)) := ⟨fun W0 tk => by
  obtain ⟨t1, p1, q1⟩ := he.ex W0 tk
  refine ⟨_, ps_aug (ti := r) hN hi hx p1 (fun pins s σ H x y v u Q I rx ry q => ho pins s σ H x y v u Q I rx ry q) hf, fun A τ σ env H De W E ok tm fx hW h ee => ?_⟩
  have h : dVar i env (fun x e1 => (m = true → x.stay = true) ∧ te e1 (fun y e2 => (false = true → y.stay = true) ∧ vws e2 [x, y] fun b ds => f ds fun d => match (resT b d).tk e2 with | some (d, e') => gNm i d e' De.nx | none => False) W) W := h
  unfold dVar at h
  split at h
  · rename_i d hd
    obtain ⟨f1, f2, o⟩ := id ok
    obtain ⟨w, hw⟩ := RpE.at' o.en hd
    have ok1 : Ok X.K A ((w, .pl i []) :: τ) σ env H := ok.push fun f _ => ⟨rfl, w, hw, rfl⟩
    refine ⟨w, hw, ?_⟩
    refine q1 A ((w, .pl i []) :: τ) σ env H _ W _ ok1 (fun _ => stays_cons rfl tm.st) (HW.pop (as := [(w, .pl i [])]) (hW σ)) h.2 fun v H' y env' ok' q => ?_
    have ok2 : Ok X.K A ([(w, .pl i []), (v, y)] ++ τ) σ env' H' := ok'.perm (List.Perm.swap _ _ _)
    refine r2_at (ok2.fn (as := [(w, .pl i []), (v, y)]) (k := fun z => match z.tk env' with | some (d, e') => gNm i d e' De.nx | none => False) s q.2 fun u z H2 ok3 q3 => ?_)
    split at q3
    · rename_i d e' hv
      exact ee.nx _ _ H2 (Ok.set (i := i) (tk1 ok3 hv) tm fun q hq e => hio (by rw [← e]; exact fx q hq)) q3
    · exact q3.elim
  · exact h.elim⟩
/-- ints and texts -/
def fIadd : Fn
  | [.int i, .int j], Q => Q (.int (i + j))
  | [.str i, .str j], Q => i.length + j.length ≤ sizeLine ∧ Q (.str (i ++ j))
  | _, _ => False
theorem iop_addA : OpR X (inplaceOp .Add) (fun x y H Q => (∃ i j, x = .int i ∧ y = .int j ∧ Q (.int (i + j)) H) ∨ (∃ i j, x = .str i ∧ y = .str j ∧ i.length + j.length ≤ sizeLine ∧ Q (.str (i ++ j)) H)) := OpR.or iop_add iop_add_str
theorem snd_iadd {K : PySem.W.Frag} : Snd K (r2 fun x y H Q => (∃ i j, x = .int i ∧ y = .int j ∧ Q (.int (i + j)) H) ∨ (∃ i j, x = .str i ∧ y = .str j ∧ i.length + j.length ≤ sizeLine ∧ Q (.str (i ++ j)) H)) fIadd := by
  intro H N vs ds Qd Q r s there h hQ
  unfold fIadd at h
  split at h
  · obtain ⟨v, w, rfl, r1, r2⟩ := rps2 r
    exact ⟨v, w, rfl, .inl ⟨_, _, r1.1, r2.1, hQ.int h⟩⟩
  · obtain ⟨v, w, rfl, r1, r2⟩ := rps2 r
    exact ⟨v, w, rfl, .inr ⟨_, _, r1.1, r2.1, h.1, hQ.str h.2⟩⟩
  · exact h.elim
end
end Pd

namespace Pd
open PySem L2 PyProof.Rows
/-! ### the classes of errors of a law: from what stands in the written part -/
section
variable {P : Program} {K : PySem.W.Frag} {mg : Str → Option Value} {h : Heap}
theorem supfn_mk {st : Stmt} {qual : Str} {dP : Value → Prop} {f D : Addr} {oc dV kV doc pm ct ccl cl : Value} {od an cdd cld : Option Addr} {osl ccs csl : Array (Option Value)} {cc cda : Addr} {vs : Array Value} {file : Str} {tf : Tok}
    (l : K.lookup f = some ⟨oc, od, .func (PySem.W.ksFn "__init__" qual (defArgs st) (defBody st) (defScope st) dV kV doc pm an (.ref cda) ct cc), osl⟩) (c : PySem.W.codeIn K (.ref cda) qual = true) (lc : K.lookup cda = some ⟨ccl, cdd, .fields vs, ccs⟩) (hvs : vs[2]? = some (.str file tf))
    (hf : ((P.main.file : Str) == file) = true) (lcc : K.lookup cc = some ⟨cl, cld, .cell (some (.ref D)), csl⟩) (hd : dP dV) (ty : PySem.W.typeIn K (.ref f) = some (.type "function")) (fn : PySem.W.fnIn K f = true) :
    PdX.SupFn P K qual (defArgs st) (defBody st) (defScope st) dP f D := ⟨⟨oc, dV, kV, doc, pm, ct, ccl, cl, od, an, cdd, cld, osl, ccs, csl, cc, cda, vs, file, tf, l, c, lc, hvs, hf, lcc, hd⟩, ty, fn⟩
theorem exm_mk {C D : Addr} {b : Bool} (h1 : PySem.W.subIn K (.ref D) (.type "BaseException") = some true) (h2 : PySem.W.isClsIn K D = true) (h3 : PySem.W.typeIn K (.ref D) = some (.type "type")) (h4 : PySem.W.subIn K (.ref C) (.ref D) = some b) : PySem.W.exmOne K (.ref C) (.ref D) = some b := by
  have e1 : (PySem.W.subIn K (.ref D) (.type "BaseException") == some true) = true := by rw [h1] <;> rfl
  have e2 : ((PySem.W.clsIn K D).isSome && PySem.W.typeIn K (.ref D) == some (.type "type")) = true := by
    have h2' : (PySem.W.clsIn K D).isSome = true := h2
    rw [h2', h3] <;> rfl
  show (if (PySem.W.subIn K (.ref D) (.type "BaseException") == some true) = true then (if ((PySem.W.clsIn K D).isSome && PySem.W.typeIn K (.ref D) == some (.type "type")) = true then PySem.W.subIn K (.ref C) (.ref D) else none) else none) = some b
  rw [if_pos e1, if_pos e2]
  exact h4
theorem dfl_mk {T : Addr} {c d : Value} {od : Option Addr} {n : Nat} {sl : Array (Option Value)} (l : K.lookup T = some ⟨c, od, .seq #[d] n, sl⟩) : PdX.Dfl K (.ref T) := ⟨T, _, d, n, rfl, l, rfl⟩
/-- MeterError's own part -/
structure ErM (P : Program) (K : PySem.W.Frag) (M fM : Addr) : Prop where
  top : (P.main.scope.names.lookup ("super" : Str)).isSome = false
  sup : PySem.W.nsIn K mainGlobals "super" = some none
  any : PySem.W.nsIn K cStatics "thirdparty.any" = some none
  mfn : ∃ p1 p2 p3 pd q, PdX.SupFn P K "MeterError.__init__" (PdX.mA p1 p2 p3 pd) (PdX.mB q) PdX.mS (PdX.Dfl K) fM M ∧ PdX.SupEv (q 0) (q 1) (q 2) (q 4) [.Name "at" (q 3)]
  mcl : PySem.W.isClsIn K M = true
theorem er_mk {M fM C fC : Addr} {nm nm' q' : Str} {N : Addr} {bs : List Value} {sn : List Str} {sub : List Value} {ab : Bool} {col : Option Bool} {dd : Option Addr} {m0 m1 m2 m3 m5 : Option Value} (X : K.In h) (G : h.Ns mainGlobals mg) (E : ErM P K M fM)
    (cfn : ∃ qual p1 p2 q, PdX.SupFn P K qual (PdX.eA p1 p2) (PdX.eB nm q) PdX.eS (· = .none) fC C ∧ PdX.SupEv (q 0) (q 1) (q 2) (q 5) [.Name "at" (q 3), .Constant (.str nm) 0 (q 4)])
    (aC : PySem.W.nsIn K mainGlobals nm = some (some (.ref C))) (xL : K.lookup C = some (excClassObj nm' q' C N bs (.ref M :: PySem.HandSPX.veTail) true sn sub ab col dd m0 m1 m2 m3 m5 "ValueError.__new__")) (ne : (Value.ref C != Value.ref M) = true) (sC : PySem.W.ks_superIn K C C "__init__" = some (some (.ref fM))) (sM : PySem.W.ks_superIn K C M "__init__" = some (some (.builtin "ValueError.__init__")))
    (subC : PySem.W.mroIn K C (.ref C) = some true) (subM : PySem.W.mroIn K C (.ref M) = some true) (subV : PySem.W.subIn K (.ref C) (.type "ValueError") = some true)
    (sa : PySem.W.findIn K (.ref C) "__setattr__" = some (some (.builtin "object.__setattr__"))) (ga : PySem.W.findIn K (.ref C) "__getattribute__" = some (some (.builtin "BaseException.__getattribute__"))) (gg : PySem.W.findIn K (.ref C) "__getattr__" = some none)
    (na : PySem.W.findIn K (.ref C) "at" = some none) (nn : PySem.W.findIn K (.ref C) "name" = some none) (iC : PySem.W.findIn K (.ref C) "__init__" = some (some (.ref fC))) (kC : PySem.W.keepIn K (.ref C) = true)
    (eC : PySem.W.subIn K (.ref C) (.type "BaseException") = some true) (tC : PySem.W.typeIn K (.ref C) = some (.type "type")) (hC : PySem.W.hasDictIn K C = true) : Er P K mg C nm :=
  ⟨⟨M, fM, fC, ⟨E.top, E.sup, E.any, E.mfn, cfn, Option.isSome_iff_exists.mp E.mcl, ⟨nm', q', N, bs, sn, sub, ab, col, dd, m0, m1, m2, m3, m5, xL⟩, ne, subC, subM, subV, sC, sM, sa, ga, gg, na, nn, iC, kC, eC, tC, hC⟩⟩, PySem.W.mg_of X G aC, aC⟩
end
end Pd

namespace Pd
open PySem L2 PyProof.Rows
/-- what is walked: what is owned is frozen for good -/
def dTk (ta : TD) : TD := fun env Q W => ta env (fun x e => match x.tk e with | some (d, e') => Q (.tmp d) e' | none => False) W
theorem pd_tk {X : Cx} {m : Bool} {e : Expr} {ta : TD} (h : PD X m e ta) : PD X m e (dTk ta) := ⟨fun W0 tk => by
  obtain ⟨t, p, q⟩ := h.ex W0 tk
  refine ⟨t, p, fun A τ σ env H Q W R ok st hW hd hR => q A τ σ env H _ W _ ok st hW hd fun v H' x env' ok' hq => ?_⟩
  split at hq
  · rename_i d e' hv
    exact hR v H' _ e' (tk1 ok' hv) hq
  · exact hq.elim⟩
theorem hu65 {k : Nat} {A : Around} (r : Room k A) : A.units + 65 < cLine := by have := r.un; omega
/-- in, not in: what is looked for and the items may be of any depth -/
def fInA (g : Bool → Bool) : Fn
  | [x, y], Q => match seqD y with
    | some ys => if (atomD x && ys.all atomD) = true then Q (.bl (g (inD x ys))) else pyOk x = true ∧ pyOk y = true ∧ SeqAt.shaped (toPy x) = true ∧ SeqAt.shaped (.list (toPys ys)) = true ∧ Q (.bl (g (ys.any fun z => eqD z x)))
    | none => fIn g [x, y] Q
  | _, _ => False
def rInB (K : PySem.W.Frag) (g : Bool → Bool) : R2 := fun x y H Q => rInA K g x y H Q ∨ ∃ d ds, Dp K H x d ∧ Dp K H y (.list ds) ∧ SeqAt.shaped d = true ∧ SeqAt.shaped (.list ds) = true ∧ Q (.bl (g (ds.any fun z => PyData.eqv z d))) H
theorem op_inB {X : Cx} (hu : X.A.units + 65 < cLine) : OpR X (compareOp .In) (rInB X.K id) := OpR.or (op_inA (by omega)) (op_inD hu)
theorem op_notInB {X : Cx} (hu : X.A.units + 65 < cLine) : OpR X (compareOp .NotIn) (rInB X.K (!·)) := OpR.or (op_notInA (by omega)) (op_notInD hu)
theorem snd_inB {K : PySem.W.Frag} {g : Bool → Bool} : Snd K (r2 (rInB K g)) (fInA g) := by
  intro H N vs ds Qd Q r s there h hQ
  unfold fInA at h
  split at h
  · rename_i x y
    split at h
    · rename_i ys hy
      split at h
      · rename_i ha
        rw [Bool.and_eq_true] at ha
        have h' : fIn g [x, y] Qd := by
          cases y with
          | lst o zs => cases hy; cases x <;> first | exact ⟨ha.1, ha.2, h⟩ | (exfalso; exact Bool.noConfusion ha.1)
          | frl t zs =>
            cases t with
            | true => cases hy
            | false => cases hy; cases x <;> first | exact ⟨ha.1, ha.2, h⟩ | (exfalso; exact Bool.noConfusion ha.1)
          | _ => cases hy
        obtain ⟨v, w, e, q⟩ := snd_in (g := g) H N vs [x, y] Qd Q r s there h' hQ
        exact ⟨v, w, e, .inl q⟩
      · obtain ⟨v, w, rfl, r1, r2⟩ := rps2 r
        obtain ⟨p1, p2, s1, s2, h⟩ := h
        have dx := Rp.dp x p1 r1
        have dy := Rp.dp y p2 r2
        have ey : toPy y = .list (toPys ys) := by
          cases y with
          | lst o zs => cases hy; rfl
          | frl t zs => cases t <;> first | cases hy; rfl | cases hy
          | _ => cases hy
        rw [ey] at dy
        refine ⟨v, w, rfl, .inr ⟨_, _, dx, dy, s1, s2, ?_⟩⟩
        refine hQ.bl ?_
        have e : ((toPys ys).any fun z => PyData.eqv z (toPy x)) = ys.any fun z => eqD z x := by
          rw [toPys_map, List.any_map]; rfl
        rw [e]; exact h
    · obtain ⟨v, w, e, q⟩ := snd_in (g := g) H N vs [x, y] Qd Q r s there h hQ
      exact ⟨v, w, e, .inl q⟩
  · exact h.elim
end Pd

namespace Pd
open PySem
/-- plain data: no list, dict or instance within -/
structure Pl (d : D) : Prop where
  sh : isSh d = true
  ob : noOb d = true
  al : noAl d = true
  fz : fz d = d
  py : pyOk d = true
  cp : cp d = d
  fr : noFr d = true
theorem Pl.int (i : Int) : Pl (.int i) := ⟨rfl, rfl, rfl, rfl, rfl, rfl, rfl⟩
theorem Pl.bl (i : Bool) : Pl (.bl i) := ⟨rfl, rfl, rfl, rfl, rfl, rfl, rfl⟩
theorem Pl.str (i : Str) : Pl (.str i) := ⟨rfl, rfl, rfl, rfl, rfl, rfl, rfl⟩
theorem Pl.non : Pl .non := ⟨rfl, rfl, rfl, rfl, rfl, rfl, rfl⟩
theorem Pl.tup {ds : List D} (h : ∀ d ∈ ds, Pl d) : Pl (.tup ds) := by
  have z : fzs ds = ds := by rw [fzs_map]; exact (List.map_congr_left fun d hd => (h d hd).fz).trans (List.map_id _)
  have y : cps ds = ds := by rw [cps_map]; exact (List.map_congr_left fun d hd => (h d hd).cp).trans (List.map_id _)
  have w : ∀ {ds : List D}, (∀ d ∈ ds, Pl d) → noFrs ds = true := by
    intro ds
    induction ds with
    | nil => intro _; rfl
    | cons a l ih =>
      intro h
      show (noFr a && noFrs l) = true
      rw [(h a List.mem_cons_self).fr, ih fun d hd => h d (List.mem_cons_of_mem _ hd)]; rfl
  refine ⟨?_, ?_, ?_, ?_, ?_, ?_, ?_⟩
  · show isShs ds = true
    rw [isShs_all, List.all_eq_true]; exact fun d hd => (h d hd).sh
  · show noObs ds = true
    rw [noObs_all, List.all_eq_true]; exact fun d hd => (h d hd).ob
  · show noAls ds = true
    rw [noAls_all, List.all_eq_true]; exact fun d hd => (h d hd).al
  · show D.tup (fzs ds) = D.tup ds
    rw [z]
  · show pyOks ds = true
    rw [pyOks_all, List.all_eq_true]; exact fun d hd => (h d hd).py
  · show D.tup (fzs (cps ds)) = D.tup ds
    rw [y, z]
  · exact w h
theorem Pl.tup1 {a : D} (h : Pl a) : Pl (.tup [a]) := Pl.tup fun d hd => by rw [List.mem_singleton] at hd; rw [hd]; exact h
theorem Pl.tup2 {a b : D} (h : Pl a) (h2 : Pl b) : Pl (.tup [a, b]) := Pl.tup fun d hd => by
  rcases List.mem_cons.mp hd with rfl | hd
  · exact h
  · rw [List.mem_singleton] at hd; rw [hd]; exact h2
theorem Pl.tup3 {a b c : D} (h : Pl a) (h2 : Pl b) (h3 : Pl c) : Pl (.tup [a, b, c]) := Pl.tup fun d hd => by
  rcases List.mem_cons.mp hd with rfl | hd
  · exact h
  · rcases List.mem_cons.mp hd with rfl | hd
    · exact h2
    · rw [List.mem_singleton] at hd; rw [hd]; exact h3
theorem Pl.nD (q : Rat) : Pl (nD q) := by
  rcases nD_cases q with ⟨_, e⟩ | ⟨_, e⟩ <;> rw [e]
  · exact Pl.int _
  · exact Pl.tup2 (Pl.int _) (Pl.int _)
class PlF {α : Type} (f : α → D) : Prop where
  pl : ∀ a, Pl (f a)
instance : PlF nD := ⟨Pl.nD⟩
instance : PlF D.int := ⟨Pl.int⟩
instance : PlF D.str := ⟨Pl.str⟩
instance : PlF D.bl := ⟨Pl.bl⟩
instance {α : Type} (g : α → Int) : PlF fun a => D.int (g a) := ⟨fun _ => Pl.int _⟩
instance {α : Type} (g : α → Rat) : PlF fun a => nD (g a) := ⟨fun _ => Pl.nD _⟩
instance {α : Type} (g : α → Str) : PlF fun a => D.str (g a) := ⟨fun _ => Pl.str _⟩
instance {α : Type} (g : α → Bool) : PlF fun a => D.bl (g a) := ⟨fun _ => Pl.bl _⟩
instance {α : Type} : PlF fun _ : α => D.non := ⟨fun _ => Pl.non⟩
instance {α : Type} (f g : α → D) [PlF f] [PlF g] : PlF fun a => D.tup [f a, g a] := ⟨fun a => Pl.tup2 (PlF.pl a) (PlF.pl a)⟩
instance {α : Type} (f g h : α → D) [PlF f] [PlF g] [PlF h] : PlF fun a => D.tup [f a, g a, h a] := ⟨fun a => Pl.tup3 (PlF.pl a) (PlF.pl a) (PlF.pl a)⟩
section
variable {α : Type} {f : α → D} [PlF f] (l : List α)
@[simp] theorem isShs_pl : isShs (l.map f) = true := isShs_map (fun a => (PlF.pl (f := f) a).sh) l
@[simp] theorem noObs_pl : noObs (l.map f) = true := noObs_map (fun a => (PlF.pl (f := f) a).ob) l
@[simp] theorem noAls_pl : noAls (l.map f) = true := noAls_map (fun a => (PlF.pl (f := f) a).al) l
@[simp] theorem pyOks_pl : pyOks (l.map f) = true := pyOks_map (fun a => (PlF.pl (f := f) a).py) l
@[simp] theorem fzs_pl : fzs (l.map f) = l.map f := fzs_mapG (fun a => (PlF.pl (f := f) a).fz) l
@[simp] theorem cps_pl : cps (l.map f) = l.map f := by
  rw [cps_map, List.map_map]
  exact List.map_congr_left fun a _ => (PlF.pl (f := f) a).cp
end
@[simp] theorem noObs_app (a b : List D) : noObs (a ++ b) = (noObs a && noObs b) := by rw [noObs_all, noObs_all, noObs_all, List.all_append]
@[simp] theorem noAls_app (a b : List D) : noAls (a ++ b) = (noAls a && noAls b) := by rw [noAls_all, noAls_all, noAls_all, List.all_append]
@[simp] theorem pyOks_app (a b : List D) : pyOks (a ++ b) = (pyOks a && pyOks b) := by rw [pyOks_all, pyOks_all, pyOks_all, List.all_append]
@[simp] theorem isShs_ap (a b : List D) : isShs (a ++ b) = (isShs a && isShs b) := isShs_append
@[simp] theorem fzs_app (a b : List D) : fzs (a ++ b) = fzs a ++ fzs b := by rw [fzs_map, fzs_map, fzs_map, List.map_append]
@[simp] theorem cps_app (a b : List D) : cps (a ++ b) = cps a ++ cps b := by rw [cps_map, cps_map, cps_map, List.map_append]
theorem deps_map {α : Type} {f : α → D} {n : Nat} (h : ∀ a, dep (f a) ≤ n) (l : List α) : deps (l.map f) ≤ n := deps_le.mpr fun d hd => by
  obtain ⟨a, _, rfl⟩ := List.mem_map.mp hd; exact h a
theorem lenBs_map {α : Type} {f : α → D} (h : ∀ a, lenB (f a) = true) (l : List α) : lenBs (l.map f) = true := by
  rw [lenBs_all, List.all_eq_true]
  intro d hd
  obtain ⟨a, _, rfl⟩ := List.mem_map.mp hd; exact h a
theorem deps_app {a b : List D} {n : Nat} (h : deps a ≤ n) (h2 : deps b ≤ n) : deps (a ++ b) ≤ n := deps_le.mpr fun d hd => (List.mem_append.mp hd).elim (deps_le.mp h d) (deps_le.mp h2 d)
theorem lenBs_app {a b : List D} (h : lenBs a = true) (h2 : lenBs b = true) : lenBs (a ++ b) = true := by
  rw [lenBs_all] at *
  rw [List.all_append, h, h2]; rfl
theorem nD_dep (q : Rat) : dep (nD q) ≤ 1 := by
  rcases nD_cases q with ⟨_, e⟩ | ⟨_, e⟩ <;> rw [e]
  · exact Nat.zero_le _
  · exact Nat.le_refl 1
theorem nD_lenB (q : Rat) : lenB (nD q) = true := by rcases nD_cases q with ⟨_, e⟩ | ⟨_, e⟩ <;> rw [e] <;> rfl
theorem nD_cp (q : Rat) : cp (nD q) = nD q := (Pl.nD q).cp
/-- a comprehension by an invariant of what is gathered and of the frame -/
theorem lcD_inv {α : Type} {vs : List Nat} {g : TGD} {tt : TTD} {te : TD} {Q : List D → EnvD → Prop} {h : α → D} (Inv : Nat → List D → EnvD → Prop) : ∀ {l : List α} {k : Nat} {acc : List D} {env : EnvD}, Inv k acc env →
    (∀ j a acc e, l[j]? = some a → Inv (k + j) acc e → ∀ next : List D → EnvD → Prop, (∀ acc' e', Inv (k + j + 1) acc' e' → next acc' e') → g (h a) e fun e1 => tt e1 (fun b e2 =>
      if b = true then te e2 (fun y e3 => match y.tk e3 with
        | some (d, e4) => acc.length < sizeLine ∧ next (acc ++ [d]) (wipeD e4 vs)
        | none => False) noW
      else next acc (wipeD e2 vs)) noW) → (∀ acc e, Inv (k + l.length) acc e → Q acc e) → lcD vs g tt te Q (l.map h) acc env
  | [], k, acc, env, h0, hs, hd => hd acc env h0
  | a :: l, k, acc, env, h0, hs, hd => by
    refine hs 0 a acc env rfl h0 _ fun acc' e' he' => ?_
    refine lcD_inv Inv (k := k + 1) he' (fun j b acc e hj hI next hn => ?_) fun acc e he => hd acc e ?_
    · exact hs (j + 1) b acc e hj (by rw [show k + (j + 1) = k + 1 + j by omega]; exact hI) next fun acc' e' he' => hn acc' e' (by rw [show k + 1 + j + 1 = k + (j + 1) + 1 by omega]; exact he')
    · rw [List.length_cons, show k + (l.length + 1) = k + 1 + l.length by omega]; exact he
/-- a sorted list, cut where something begins to fail -/
theorem part_mono {α : Type} {p : α → Bool} : ∀ {l : List α}, l.Pairwise (fun a b => p b = true → p a = true) → l.take (l.filter p).length = l.filter p ∧ l.drop (l.filter p).length = l.filter (fun a => !p a)
  | [], _ => ⟨rfl, rfl⟩
  | a :: l, h => by
    obtain ⟨h1, h2⟩ := List.pairwise_cons.mp h
    cases c : p a with
    | false =>
      have no : ∀ x ∈ l, p x = false := fun x hx => by
        cases q : p x with
        | false => rfl
        | true => rw [h1 x hx q] at c; cases c
      have e1 : (a :: l).filter p = [] := List.filter_eq_nil_iff.mpr fun x hx => by
        rcases List.mem_cons.mp hx with rfl | hx
        · rw [c]; exact Bool.false_ne_true
        · rw [no x hx]; exact Bool.false_ne_true
      have e2 : (a :: l).filter (fun a => !p a) = a :: l := List.filter_eq_self.mpr fun x hx => by
        rcases List.mem_cons.mp hx with rfl | hx
        · rw [c]; rfl
        · rw [no x hx]; rfl
      rw [e1, e2]
      exact ⟨rfl, rfl⟩
    | true =>
      obtain ⟨i1, i2⟩ := part_mono h2
      have e1 : (a :: l).filter p = a :: l.filter p := List.filter_cons_of_pos c
      have e2 : (a :: l).filter (fun a => !p a) = l.filter (fun a => !p a) := List.filter_cons_of_neg (by rw [c]; exact Bool.false_ne_true)
      rw [e1, e2]
      exact ⟨by rw [List.length_cons, List.take_succ_cons, i1], by rw [List.length_cons, List.drop_succ_cons, i2]⟩
end Pd

namespace Pd
open PySem
theorem eqD_nD (p q : Rat) : eqD (nD p) (nD q) = decide (p = q) := by
  unfold eqD
  rcases nD_cases p with ⟨d1, e1⟩ | ⟨d1, e1⟩ <;> rcases nD_cases q with ⟨d2, e2⟩ | ⟨d2, e2⟩ <;> rw [e1, e2]
  · simp only [toPy, PyData.eqv]
    by_cases h : p.num = q.num
    · rw [decide_eq_true (Rat.ext h (by rw [d1, d2])), h]; simp
    · rw [decide_eq_false (fun z => h (by rw [z]))]; simpa using h
  · simp only [toPy, toPys, PyData.eqv]
    rw [decide_eq_false (fun z => d2 (by rw [← z]; exact d1))]
  · simp only [toPy, toPys, PyData.eqv]
    rw [decide_eq_false (fun z => d1 (by rw [z]; exact d2))]
  · simp only [toPy, toPys, PyData.eqv, PyData.eqvAll]
    by_cases h : p.num = q.num
    · by_cases h' : (p.den : Int) = q.den
      · rw [decide_eq_true (rat_ext h h'), h, h']; simp
      · rw [decide_eq_false (fun z => h' (by rw [z]))]; simp [h']
    · rw [decide_eq_false (fun z => h (by rw [z]))]; simp [h]
theorem eqA_nD {p q : Rat} (h1 : atomD (nD p) = true) (h2 : atomD (nD q) = true) : eqA (nD p) (nD q) = decide (p = q) := by
  rcases nD_cases p with ⟨d1, e1⟩ | ⟨d1, e1⟩ <;> rcases nD_cases q with ⟨d2, e2⟩ | ⟨d2, e2⟩ <;> rw [e1] at h1 ⊢ <;> rw [e2] at h2 ⊢ <;> first | (exact Bool.noConfusion h1) | (exact Bool.noConfusion h2) | skip
  simp only [eqA]
  by_cases h : p.num = q.num
  · rw [decide_eq_true (Rat.ext h (by rw [d1, d2])), h]; simp
  · rw [decide_eq_false (fun z => h (by rw [z]))]; simpa using h
theorem nD_lay (q : Rat) : (toPy (nD q)).canLay0 = true ∧ (toPy (nD q)).depth ≤ 1 := by
  rcases nD_cases q with ⟨_, e⟩ | ⟨_, e⟩ <;> rw [e]
  · exact ⟨rfl, by simp [toPy, PyData.depth]⟩
  · exact ⟨by simp [toPy, toPys, PyData.canLay0, PyData.canLayAll0], by simp [toPy, toPys, PyData.depth, PyData.depthAll]⟩
theorem nDs_lay : ∀ l : List Rat, PyData.canLayAll0 (toPys (l.map nD)) = true ∧ PyData.depthAll (toPys (l.map nD)) ≤ 1
  | [] => ⟨by simp [toPys, PyData.canLayAll0], by simp [toPys, PyData.depthAll]⟩
  | q :: l => by
    obtain ⟨a, b⟩ := nD_lay q
    obtain ⟨c, d⟩ := nDs_lay l
    exact ⟨by simp [toPys, PyData.canLayAll0, a, c], by simp [toPys, PyData.depthAll]; omega⟩
theorem nD_shaped (q : Rat) : SeqAt.shaped (toPy (nD q)) = true := by
  obtain ⟨a, b⟩ := nD_lay q
  unfold SeqAt.shaped
  rw [a, Bool.true_and, decide_eq_true_iff]; omega
theorem nDs_shaped (l : List Rat) : SeqAt.shaped (.list (toPys (l.map nD))) = true := by
  obtain ⟨a, b⟩ := nDs_lay l
  unfold SeqAt.shaped
  rw [Bool.and_eq_true, decide_eq_true_iff]
  exact ⟨by simp only [PyData.canLay0]; exact a, by simp only [PyData.depth]; omega⟩
/-- in, of exact numbers -/
theorem fInA_nD {g : Bool → Bool} {o : Bool} {q : Rat} {l : List Rat} {Q : D → Prop} : fInA g [nD q, .lst o (l.map nD)] Q ↔ Q (.bl (g (decide (q ∈ l)))) := by
  have e1 : ((l.map nD).any fun z => eqD z (nD q)) = decide (q ∈ l) := by
    rw [List.any_map]
    simp only [Function.comp_def, eqD_nD]
    rw [Bool.eq_iff_iff, List.any_eq_true, decide_eq_true_iff]
    exact ⟨fun ⟨x, hx, e⟩ => of_decide_eq_true e ▸ hx, fun h => ⟨q, h, decide_eq_true rfl⟩⟩
  show (if (atomD (nD q) && (l.map nD).all atomD) = true then _ else _) ↔ _
  split
  · rename_i h
    rw [Bool.and_eq_true] at h
    have e2 : inD (nD q) (l.map nD) = decide (q ∈ l) := by
      unfold inD
      rw [Bool.eq_iff_iff, List.any_eq_true, decide_eq_true_iff]
      have ha := List.all_eq_true.mp h.2
      constructor
      · rintro ⟨x, hx, e⟩
        obtain ⟨y, hy, rfl⟩ := List.mem_map.mp hx
        rw [eqA_nD (ha _ hx) h.1] at e
        exact of_decide_eq_true e ▸ hy
      · intro hq
        have hx : nD q ∈ l.map nD := List.mem_map.mpr ⟨q, hq, rfl⟩
        exact ⟨_, hx, by rw [eqA_nD (ha _ hx) h.1]; exact decide_eq_true rfl⟩
    rw [e2]
  · rw [e1]
    constructor
    · exact fun h => h.2.2.2.2
    · exact fun h => ⟨nD_pyOk _, by show pyOks _ = true; exact pyOks_pl _, nD_shaped q, nDs_shaped l, h⟩
end Pd

namespace Pd
open PySem L2 PyProof.Rows
/-- sorted(xs): items that can be compared -/
def rSortedD (K : PySem.W.Frag) : List V → Hp → VK → Prop := fun vs H Q => ∃ (a : Addr) (L : List (V × D)), vs = [.ref a] ∧ SqL K H a (L.map (·.1)) ∧ (∀ q ∈ L, Dp K H q.1 (toPy q.2)) ∧ PySem.W.AllAlike (L.map fun q => toPy q.2) ∧ PySem.W.Sortable (L.map fun q => toPy q.2) ∧
  (∀ q ∈ L, (toPy q.2).depth ≤ 60) ∧ ∀ p, H p = none → Q (.ref p) (upd H p (.lst ((L.mergeSort (PySem.W.dataLe false fun q => toPy q.2)).map (·.1))))
theorem eachOf {K : PySem.W.Frag} {R : Value → V × D → Prop} : ∀ {L : List (V × D)} {its : List Value}, Vals (L.map (·.1)) its → (∀ q ∈ L, ∀ v, RelV q.1 v → R v q) → PySem.W.EachIs R its L
  | [], _, r, _ => by
    rw [List.map_nil] at r
    cases r
    exact .nil
  | q :: L, _, r, h => by
    rw [List.map_cons] at r
    cases r with
    | cons h1 h2 => exact .cons (h q List.mem_cons_self _ h1) (eachOf (K := K) h2 fun q hq => h q (List.mem_cons_of_mem _ hq))
theorem valsOf : ∀ {L : List (V × D)} {its : List Value}, PySem.W.EachIs (fun v q => RelV q.1 v) its L → Vals (L.map (·.1)) its
  | [], _, r => by cases r; exact .nil
  | q :: L, _, r => by
    cases r with
    | cons h1 h2 => exact .cons h1 (valsOf h2)
theorem cr_sortedD {X : Cx} (hu : X.A.units + 65 < cLine) : CallR X (.builtin "sorted") (rSortedD X.K) := by
  intro pins s σ H vs us Q I r h
  obtain ⟨a, L, rfl, hs, hd, hal, hk, hdep, q⟩ := h
  obtain ⟨its, rv, hl, hz⟩ := I.list hs
  rw [Vals.ref1 r]
  have hLl : L.length ≤ sizeLine := by simpa using hz
  refine PySem.W.sorted_data (bs := L) (enc := fun q => toPy q.2) (R := fun v q => RelV q.1 v) hl.isList (eachOf (K := X.K) rv fun _ _ _ h => h) (eachOf (K := X.K) rv fun q hq v h => Dp.reads I _ _ _ (hd q hq) h) hal hk hLl (fun b hb => by have := hdep b hb; omega) fun out ho eo => ?_
  obtain ⟨ep, he'⟩ := PyProof.Rows.sortedAll_at s.heap its out.toArray
  have rv' := valsOf eo
  have hlen : ((L.mergeSort (PySem.W.dataLe false fun q => toPy q.2)).map (·.1)).length ≤ sizeLine := by
    rw [List.length_map, List.length_mergeSort]; exact hLl
  exact ⟨.ref _, upd H (s.heap.objs.size + 1) (.lst ((L.mergeSort (PySem.W.dataLe false fun q => toPy q.2)).map (·.1))), I.laid (t' := s.toks) (fun _ _ => PyProof.Rows.sortedAll_old) (Nat.le_succ _) ⟨hlen, out, ep, rv', he'⟩, rfl, q _ (I.hok.fresh (Nat.le_succ _))⟩
/-- the data of a sort -/
def SrtOk (xs : List D) : Prop := PySem.W.AllAlike (xs.map toPy) ∧ PySem.W.Sortable (xs.map toPy) ∧ ∀ x ∈ xs, (toPy x).depth ≤ 60
def srtD (xs : List D) : List D := xs.mergeSort (PySem.W.dataLe false toPy)
def fSorted : Fn
  | [x], Q => match seqD x with
    | some xs => pyOks xs = true ∧ SrtOk xs ∧ Q (.lst true (srtD xs))
    | none => False
  | _, _ => False
theorem zip_fst : ∀ {vs : List V} {ds : List D}, ds.length = vs.length → (vs.zip ds).map (·.1) = vs ∧ (vs.zip ds).map (·.2) = ds := by
  intro vs ds h
  exact ⟨List.map_fst_zip (Nat.le_of_eq h.symm), List.map_snd_zip (Nat.le_of_eq h)⟩
theorem Rps.zips {K : PySem.W.Frag} {H : Hp} {N : Addr → Prop} : ∀ {ds : List D} {vs : List V}, Rps K H N ds vs [] → ∀ q ∈ vs.zip ds, Rp K H N q.2 q.1 []
  | [], _, r, q, hq => by rw [r.1] at hq; cases hq
  | d :: ds, vs, r, q, hq => by
    obtain ⟨v, vs', f1, f2, rfl, e, r1, r2⟩ := r
    obtain ⟨rfl, rfl⟩ := List.append_eq_nil_iff.mp e.symm
    rcases List.mem_cons.mp hq with rfl | hq
    · exact r1
    · exact Rps.zips r2 q hq
theorem Rps.ofZip {K : PySem.W.Frag} {H : Hp} {N : Addr → Prop} : ∀ {L : List (V × D)}, (∀ q ∈ L, Rp K H N q.2 q.1 []) → Rps K H N (L.map (·.2)) (L.map (·.1)) []
  | [], _ => ⟨rfl, rfl⟩
  | q :: L, h => ⟨q.1, L.map (·.1), [], [], rfl, rfl, h q List.mem_cons_self, Rps.ofZip fun q hq => h q (List.mem_cons_of_mem _ hq)⟩
theorem snd_sorted {K : PySem.W.Frag} : Snd K (rSortedD K) fSorted := by
  intro H N vs ds Qd Q r s there h hQ
  unfold fSorted at h
  split at h
  · rename_i x
    split at h
    · rename_i xs hx
      obtain ⟨v, rfl, r1⟩ := rps1 r
      obtain ⟨a, us, rfl, sq, rr⟩ := seqAt r1 hx
      obtain ⟨py, ⟨hal, hk, hdep⟩, h⟩ := h
      obtain ⟨e1, e2⟩ := zip_fst rr.length
      have rz := Rps.zips rr
      have mem2 : ∀ q ∈ us.zip xs, q.2 ∈ xs := fun q hq => by
        have := List.mem_map_of_mem (f := (·.2)) hq
        rwa [e2] at this
      have em : ((us.zip xs).map fun q => toPy q.2) = xs.map toPy := by
        conv => rhs; rw [← e2]
        rw [List.map_map]; rfl
      have es : ((us.zip xs).mergeSort (PySem.W.dataLe false fun q => toPy q.2)).map (·.2) = srtD xs := by
        unfold srtD
        have z := List.map_mergeSort (r := PySem.W.dataLe false fun q : V × D => toPy q.2) (s := PySem.W.dataLe false toPy) (f := fun q : V × D => q.2) (l := us.zip xs) (fun a _ b _ => rfl)
        rw [z, e2]
      refine ⟨a, us.zip xs, rfl, by rw [e1]; exact sq, fun q hq => Rp.dp _ (pyOks_mem py (mem2 q hq)) (rz q hq), by rw [em]; exact hal, by rw [em]; exact hk, fun q hq => hdep _ (mem2 q hq), fun p hp => ?_⟩
      have sh : isShs xs = true := isShs_seq (seq_any hx) s
      refine hQ.lst (xs := srtD xs) h ?_ ?_ hp
      · rw [← es]
        exact Rps.ofZip fun q hq => rz q ((List.mergeSort_perm _ _).mem_iff.mp hq)
      · rw [isShs_all, List.all_eq_true]
        intro d hd
        exact isShs_mem sh ((List.mergeSort_perm _ _).mem_iff.mp hd)
    · exact h.elim
  · exact h.elim
/-! ### what comes out -/
theorem srtD_map {α : Type} {f : α → D} {le : α → α → Bool} {l : List α} (h : ∀ a b, PySem.W.dataLe false toPy (f a) (f b) = le a b) : srtD (l.map f) = (l.mergeSort le).map f := by
  unfold srtD
  exact (List.map_mergeSort (r := le) (s := PySem.W.dataLe false toPy) (f := f) (l := l) (fun a _ b _ => (h a b).symm)).symm
theorem srtD_int (l : List Int) : srtD (l.map .int) = (l.mergeSort fun a b => decide (a ≤ b)).map .int :=
  srtD_map fun a b => by
    have := congrFun (congrFun (PySem.W.dataLe_int (fun i : Int => i)) a) b
    exact this
theorem SrtOk.map {α : Type} {f : α → D} {l : List α} (h1 : ∀ a b, PySem.W.alike (toPy (f a)) (toPy (f b)) = true) (h2 : (∀ a, ∃ x r, toPy (f a) = .tuple (x :: r)) ∨ ∀ a, toPy (f a) ≠ .none ∧ ∀ xs, toPy (f a) ≠ .tuple xs) (h3 : ∀ a, (toPy (f a)).depth ≤ 60) : SrtOk (l.map f) := by
  unfold SrtOk
  rw [List.map_map]
  refine ⟨PySem.W.AllAlike.of (enc := toPy ∘ f) h1, ?_, fun x hx => ?_⟩
  · rcases h2 with h2 | h2
    · exact PySem.W.Sortable.tuples (enc := toPy ∘ f) h2
    · exact PySem.W.Sortable.others (enc := toPy ∘ f) h2
  · obtain ⟨a, _, rfl⟩ := List.mem_map.mp hx
    exact h3 a
theorem srtOk_int (l : List Int) : SrtOk (l.map .int) := SrtOk.map (fun a b => by simp [toPy, PySem.W.alike]) (.inr fun a => ⟨by simp [toPy], fun xs => by simp [toPy]⟩) fun a => by simp [toPy, PyData.depth]
/-- of ints -/
theorem fSorted_int {o : Bool} {l : List Int} {Q : D → Prop} : fSorted [.lst o (l.map .int)] Q ↔ Q (.lst true ((l.mergeSort fun a b => decide (a ≤ b)).map .int)) := by
  show (pyOks _ = true ∧ SrtOk _ ∧ _) ↔ _
  rw [srtD_int]
  exact ⟨fun h => h.2.2, fun h => ⟨pyOks_pl _, srtOk_int l, h⟩⟩
end Pd

/-! set(xs) of a list of ints -/
namespace L2
open PySem PyProof.Rows
/-- a new, empty set, as the model lays it -/
def setOb0 (w : World) : Obj := { cls := .type "set", dict := none, data := .set #[] 0 (.fresh 0 0 (!w.params.followText "set-order")) }
section
variable {P : Program} {w : World} {A : Around} {E : Value → Shared → Prop} {s : Shared}
theorem set_of_list {l : Addr} {its : Array Value} (ns : List Int) {Q : Value → Shared → Prop} (nh : A.handled = none) (isl : s.heap.IsList l its) (hints : IntsAre its.toList ns) (few : ns.length + 1 < scanBound)
    (fin : ∀ (h' : Heap) (tk c : Nat), SetR w h' s.heap.objs.size (fun j => decide (j ∈ ns)) c → c ≤ ns.length → (∀ b o, s.heap.get? b = some o → h'.get? b = some o) → Q (.ref s.heap.objs.size) { s with heap := h', toks := tk }) :
    wpAny (model P w) A (call (.type "set") [.ref l]) Q E s := by
  have lens : its.size = ns.length := by have z := IntsAre.length hints; rwa [Array.length_toList] at z
  obtain ⟨_, _, mro⟩ := F.called_set.mro
  have z1 := F.called_set.made; have z2 := F.called_set.sub
  refine wpAny_call (codeAny_of_tree (?_ : _root_.PySem.wpAny _ _ (callAny (.type "set") _) _ _ _))
  refine wpAny_pure ⟨Code.quiet_builtin _ (by decide +kernel), codeAny_builtin F.entry_type_call ?_⟩
  rw [Around.under_plain (weight_type_call_type "set" [.ref l] []) rfl]
  have z3 := F.called_set.notType; have z4 := F.called_set.canCreate; have z5 := F.typeCall_set_1 (.ref l)
  repeat (any_goals (first | assumption | wp_step))
  refine codeAny_mono (code_set_led1 (.ref l) (E := E) (Q₁ := fun ob t => ob = .ref s.heap.objs.size ∧ t = { s with heap := s.heap.push (setOb0 w) }) ⟨rfl, rfl⟩) fun r s₁ hr => ?_
  match r, hr with
  | .error _, hr => exact hr
  | .ok (.ret ob), hr =>
    obtain ⟨rfl, rfl⟩ := hr
    have there : (s.heap.push (setOb0 w)).get? s.heap.objs.size = some (setOb0 w) := Heap.get?_push_size _ rfl
    have ty : Shared.TypeIs { s with heap := s.heap.push (setOb0 w) } (.ref s.heap.objs.size) "set" := ⟨_, there, rfl⟩
    have z6 := F.called_set.init.lookup; have z7 := F.called_set.init.bind (.ref s.heap.objs.size)
    repeat (any_goals (first | assumption | wp_step))
    let G : Value → Shared → Prop := fun r t => r = .none ∧ ∃ h' tk c, t = { s with heap := h', toks := tk } ∧ SetR w h' s.heap.objs.size (fun j => decide (j ∈ ns)) c ∧ c ≤ ns.length ∧ ∀ b o, s.heap.get? b = some o → h'.get? b = some o
    refine codeAny_mono (codeAny_call_builtin (R := wants G E) F.called_set.init.plain F.entry_set_init (check_set_init_1 ty ?_)) fun r₂ s₂ hr₂ => ?_
    · obtain ⟨⟨ocls, odict, odata, osl⟩, look, hc, n, hd⟩ := isl
      simp only at hc hd
      subst hc hd
      have look' : (s.heap.push (setOb0 w)).get? l = some { cls := .type "list", dict := odict, data := .seq its n, slots := osl } := Heap.get?_push_of_some _ look
      have y1 := F.sub_list_set; have y2 := F.sub_list_frozenset
      have y3 : (Value.type "list" == Value.type "dict") = false := by decide
      have isl1 : (s.heap.push (setOb0 w)).IsList l its := ⟨_, look', rfl, n, rfl⟩
      unfold Builtin.«set.__init__» noKeywords Builtin.Frozenset.updateFrom
      generalize hit : pyIter = it
      wp_walk
      subst hit
      refine wpAny_pyIter_list isl1 (wpAny_bind (wpAny_runValue ?_))
      have small : l < s.heap.objs.size := Heap.lt_size look
      have nh3 : A.in1.in1.in1.handled = none := by simp [nh]
      have apart : l ≠ (s.heap.push (setOb0 w)).objs.size := fun z => by
        rw [Heap.size_push] at z
        exact Nat.lt_irrefl _ (Nat.lt_trans (z ▸ small) (Nat.lt_succ_self _))
      have notIn : s.heap.objs.size ∉ [(s.heap.push (setOb0 w)).objs.size, l] := by
        rw [Heap.size_push]
        intro z
        rcases List.mem_cons.mp z with z | z
        · exact Nat.ne_of_lt (Nat.lt_succ_self _) z
        · exact Nat.ne_of_gt small (List.mem_singleton.mp z)
      have each : ∀ (i : Nat) (v : Value), its[i]? = some v → ∃ k t, ns[i]? = some k ∧ v = .int k t := fun i v hv => by
        have hi : i < ns.length := lens ▸ (Array.getElem?_eq_some_iff.mp hv).1
        obtain ⟨t, e⟩ := IntsAre.int_at hints i v (by rw [Array.getElem?_toList]; exact hv)
        refine ⟨ns[i], t, List.getElem?_eq_getElem hi, e.trans ?_⟩
        rw [List.getD_eq_getElem?_getD, List.getElem?_eq_getElem hi]; rfl
      refine set_update_ints ((Walks.list nh3 _ l apart its).toS) s.heap.objs.size notIn ns lens few each (its.size - 0) 0 _ (by omega) (Nat.zero_le _) ⟨⟨_, Heap.get?_push_size _ rfl, rfl, rfl⟩, isl1.push _⟩ ⟨0, Nat.le_refl 0, setR_new_at (Heap.get?_push_of_some _ there)⟩ ?_
      intro t c mv hc ht
      obtain ⟨h', g2, d', tk', os'⟩ := t
      have ⟨q1, q2, q3⟩ : g2 = s.gens ∧ d' = s.drawn ∧ os' = s.os := ⟨mv.gens, mv.drawn, mv.os⟩
      subst q1 q2 q3
      show _root_.PySem.wpAny _ _ _ _ _ _
      refine wpAny_pure (?_ : _root_.PySem.wpAny _ _ (ret Value.none) _ _ _)
      refine wpAny_pure ⟨rfl, h', tk', c, rfl, ht, lens ▸ hc, fun b o e => ?_⟩
      have hb := Heap.lt_size e
      refine mv.heap b o (fun z => ?_) (Heap.get?_push_of_some _ (Heap.get?_push_of_some _ e))
      rcases List.mem_cons.mp z with z | z
      · exact Nat.ne_of_lt hb z
      · rw [List.mem_singleton, Heap.size_push] at z
        exact Nat.ne_of_lt (Nat.lt_succ_of_lt hb) z
    · match r₂, hr₂ with
      | .error _, hr₂ => exact hr₂
      | .ok (.ret r), hr₂ =>
        obtain ⟨rfl, h', tk, c, rfl, k1, k2, k3⟩ := hr₂
        repeat (any_goals (first | assumption | wp_step))
        exact fin _ _ _ k1 k2 k3
end
end L2

namespace L2
open PySem PySem.Spec PyProof.Rows
/-- set(xs), a list of ints -/
def rSetOfL (K : PySem.W.Frag) (w : World) : List V → Hp → VK → Prop := fun vs H Q => ∃ (a : Addr) (ns : List Int), vs = [.ref a] ∧ SqL K H a (ns.map V.int) ∧ ns.length + 1 < scanBound ∧
  ∀ p c, H p = none → c ≤ ns.length → Q (.ref p) (upd H p (SetO w p (fun j => decide (j ∈ ns)) c))
theorem cr_setOfL {X : Cx} (hc : X.calm = true) : CallR X (.type "set") (rSetOfL X.K X.w) := by
  intro pins s σ H vs us Q I r h
  obtain ⟨a, ns, rfl, hs, few, q⟩ := h
  obtain ⟨its, rv, hl, hz⟩ := I.list hs
  rw [Vals.ref1 r]
  refine set_of_list ns (I.ok.hd hc) hl.isList (by simpa using rv.ints) few fun h' tk c R hc' kp => ?_
  exact ⟨.ref _, _, I.laid (t' := tk) kp (Nat.le_refl _) (setO_new R), rfl, q _ c (I.hok.fresh (Nat.le_refl _)) hc'⟩
end L2
namespace Pd
open PySem L2 PyProof.Rows
def rSortSet (K : PySem.W.Frag) (w : World) : List V → Hp → VK → Prop := fun vs H Q => rSetOfL K w vs H fun v H1 => rSortedSet w [v] H1 Q
/-- sorted(set(xs)), ints -/
def fSortSet : Fn
  | [x], Q => match seqD x with
    | some xs => (match intsD xs with
      | some ns => ns.length < 64 ∧ ∀ ys : List Int, ys.Pairwise (· < ·) → (∀ k, k ∈ ys ↔ k ∈ ns) → Q (.lst true (ys.map .int))
      | none => False)
    | none => False
  | _, _ => False
theorem rps_ints {K : PySem.W.Frag} {H : Hp} {N : Addr → Prop} : ∀ l : List Int, Rps K H N (l.map .int) (l.map V.int) []
  | [] => ⟨rfl, rfl⟩
  | i :: l => ⟨.int i, l.map V.int, [], [], rfl, rfl, ⟨rfl, rfl⟩, rps_ints l⟩
theorem snd_sortSet {K : PySem.W.Frag} {w : World} : Snd K (rSortSet K w) fSortSet := by
  intro H N vs ds Qd Q r s there h hQ
  unfold fSortSet at h
  split at h
  · rename_i x
    split at h
    · rename_i xs hx
      split at h
      · rename_i ns hn
        obtain ⟨v, rfl, r1⟩ := rps1 r
        obtain ⟨a, us, rfl, sq, rr⟩ := seqAt r1 hx
        have e := intsD_of rr hn
        subst e
        refine ⟨a, ns, rfl, sq, by unfold scanBound; omega, fun p c hp hc => ⟨p, _, c, rfl, upd_same, by omega, fun ys q h1 h2 h3 hq => ?_⟩⟩
        have hq0 : H q = none := by
          by_cases z : q = p
          · rw [z]; exact hp
          · rwa [upd_ne z] at hq
        refine hQ _ _ _ [q] (h.2 ys h1 fun k => by rw [h2]; simp) ((Ext.upd hp).trans (Ext.upd hq)) ?_ (by simpa using hq0) (by simp) (by show noObs _ = true; exact noObs_pl ys)
        exact ⟨q, ys.map V.int, [], rfl, rfl, upd_same, rps_ints ys⟩
      · exact h.elim
    · exact h.elim
  · exact h.elim
theorem pd_sortSet {X : Cx} {m : Bool} {e : Expr} {td : TD} {p q pos pos2 : Pos} (hc : X.calm = true) (hg1 : Gl X "sorted") (hm1 : X.mg "sorted" = none) (hg2 : Gl X "set") (hm2 : X.mg "set" = none) (h : PD X m e td)
    (hs : starEach [e] X.env = [(false, eval e X.env)] := by rfl) (hs2 : starEach [.Call (.Name "set" q) [e] [] pos2] X.env = [(false, eval (.Call (.Name "set" q) [e] [] pos2) X.env)] := by rfl) (hp1 : (backTo pos2 (starEach ([] : List Expr) X.env)).any (·.1) = false := by rfl) (hp2 : (backTo pos (starEach ([] : List Expr) X.env)).any (·.1) = false := by rfl) :
    PD X m (.Call (.Name "sorted" p) [.Call (.Name "set" q) [e] [] pos2] [] pos) (dFn fSortSet (d1 td)) := by
  refine ⟨fun W0 tk => ?_⟩
  obtain ⟨t1, p1, h1⟩ := h.ex W0 tk
  have hs' : starEach (e :: []) X.env = (false, eval e X.env) :: starEach [] X.env := hs
  have hs2' : starEach (.Call (.Name "set" q) [e] [] pos2 :: []) X.env = (false, eval (.Call (.Name "set" q) [e] [] pos2) X.env) :: starEach [] X.env := hs2
  refine ⟨_, pe_callB (cr_sortedSet hc) hg1 hm1 bt_sorted (pa_cons (pe_callTy (cr_setOfL hc) hg2 hm2 bt_set (pa_cons p1 pa_nil hs') (by decide) (by decide) hs' hp1) pa_nil hs2') (by decide) (by decide) hs2' hp2, fun A τ σ env H Q W R ok st hW hd hR => ?_⟩
  refine h1 A τ σ env H _ W _ ok st hW hd fun v1 H1 x1 e1 ok1 q1 => ?_
  exact ok1.fn (as := [(v1, x1)]) (Q := R) (k := fun z => Q z e1) snd_sortSet q1.2 fun w z H'' ok'' k => hR w H'' z e1 ok'' k
end Pd

/-! try with several clauses, each «except X as n» -/
namespace L2
open PySem PySem.Spec PyProof.Rows
abbrev ClV := Addr → Value → Option Addr → TS
/-- the ends of a clause whose name stands in slot i -/
def Ends.gone (D : Ends) (i : Nat) : Ends := { nx := fun τ G => D.nx (τ.set i none) G, rt := D.rt, bk := fun τ G => D.bk (τ.set i none) G, ct := fun τ G => D.ct (τ.set i none) G }
def wManyAs (K : PySem.W.Frag) (Wo : WX) (D : Ends) : List (Value × Nat × ClV) → WX
  | [] => Wo
  | (c, i, ts) :: r => fun cl d τ G => ∃ b, PySem.W.exmOne K cl c = some b ∧ (b = true → ∀ a, G a = none → ts a cl d (D.gone i) (τ.set i (some (.ref a))) G) ∧ (b = false → wManyAs K Wo D r cl d τ G)
inductive HdsAs (X : Cx) : List ExceptHandler → List (Value × Nat × ClV) → Prop
  | nil : HdsAs X [] []
  | cons {x n : Str} {c : Value} {i : Nat} {ts : ClV} {b₁ : Stmt} {rest : List Stmt} {p1 p2 : Pos} {hs : List ExceptHandler} {l : List (Value × Nat × ClV)} (names : Names X x c) (slot : X.N[i]? = some n) (lcl : X.env.kindOf n = some .local)
      (ok : ∀ (a : Addr) (oe : Obj) (cl : Value) (d : Option Addr) (pn : List (Addr × Obj)), Zc cl d oe → (∃ vs, oe.data = .fields vs) → PSs (X.suite a ((a, oe) :: pn)) (b₁ :: rest) (ts a cl d)) (r : HdsAs X hs l) :
      HdsAs X (.ExceptHandler (some (.Name x p1)) (some n) (b₁ :: rest) p2 :: hs) ((c, i, ts) :: l)
section
variable {X : Cx} {body : List Stmt} {h₁ : ExceptHandler} {hs : List ExceptHandler} {l : List (Value × Nat × ClV)} {pos : Pos} {tb : WX → TS} {Wo : WX}
theorem ps_try_manyAs (stk : X.stack = X.env :: X.outer) (frm : X.env.frame = some X.env.locals) (nd : X.N.Nodup) (tk : Takes X Wo)
    (hb : ∀ (W : WX) (pn : List (Addr × Obj)) (xe : Value → Shared → Prop), Takes (X.tr pn xe) W → PassesOwn (model X.prog X.w) X.A X.env xe → PSs (X.tr pn xe) body (tb W))
    (hh : HdsAs X (h₁ :: hs) l) : PS X (.Try body (h₁ :: hs) [] [] pos) (fun D σ H => tb (wManyAs X.K Wo D l) D σ H) := by
  refine ⟨fun pins s σ H D I h => ?_⟩
  have oki := I.ok
  have frames : X.A.frames = some (X.env :: X.outer) := by rw [oki.frames, stk]
  refine wpAny_Try_except ?_
  let xe' : Value → Shared → Prop := fun e t => wpAny (model X.prog X.w) X.A (noteFrame e X.env) (fun _ t2 => wpAny (model X.prog X.w) X.A (setFlight e none) (fun _ t3 => wpAny (model X.prog X.w) X.A (handleBy e X.env (h₁ :: hs)) (SP X pins D) X.xe t3) X.xe t2) X.xe t
  refine wpAny_mono ((hb (wManyAs X.K Wo D l) (X.pn ++ pins) xe' (fun u s' xx => ?_) PassesOwn.looking).run [] s σ H D (I.toTry _) h) (fun f s1 hsp => ?_) (fun e s1 he => he)
  · obtain ⟨a, B, sI, pins', τ, G, cl, d, rfl, J', nb, up, sky, na, os, ag, w⟩ := xx
    have J : Inv X pins τ G sI := J'.ofTry oki
    have sky1 : Sky B (X.env :: X.outer) a (Zc cl d) X.env.locals s'.heap := by rw [← stk]; exact sky
    show wpAny (model X.prog X.w) X.A (noteFrame (.ref a) X.env) _ _ _
    refine Sky.land Zc.steady frames frm sky1 fun h3 fl upp => ?_
    have J3 : Inv X pins τ G { s' with heap := h3 } := J.landed nb fl.1 (up.trans upp) os ag
    obtain ⟨oe, fv, at3, zz, df⟩ := fl.there
    have nofr : a ∉ frs (X.env :: X.outer) := fun hm => by
      obtain ⟨_, o2, at2, hnf⟩ := fl.2.2.1.mem hm
      rw [at3] at at2; cases at2
      exact hnf _ df
    have nL : a ≠ X.env.locals := fun z => nofr (List.mem_filterMap.mpr ⟨X.env, List.mem_cons_self, by rw [frm, z]⟩)
    have nF : a ∉ X.fs := fun hm => by
      obtain ⟨e, he, q⟩ := List.mem_filterMap.mp hm
      exact nofr (List.mem_filterMap.mpr ⟨e, List.mem_cons_of_mem _ he, q⟩)
    have S3 := J3.suite at3 df na nL nF
    have go : ∀ {hs' : List ExceptHandler} {l' : List (Value × Nat × ClV)}, HdsAs X hs' l' → wManyAs X.K Wo D l' cl d τ G → wpAny (model X.prog X.w) X.A (handleBy (.ref a) X.env hs') (SP X pins D) X.xe { s' with heap := h3 } := by
      intro hs' l' hk
      induction hk with
      | nil =>
        intro w
        refine wpAny_handleBy_nil ?_
        obtain ⟨_, _, _, oe, vs, T, oT, ts', he, hz, hd, hT, hr⟩ := id fl
        unfold PySem.passOn
        refine wpAny_bind (wpAny_field he hd hT ?_)
        rw [if_neg (by simp : ¬ ((Value.ref T == Value.none) = true))]
        have fin : wpAny (model X.prog X.w) X.A (setFlight (.ref a) X.env.frame) (fun _ t => wpAny (model X.prog X.w) X.A (throw (.ref a) : Sem Flow) (SP X pins D) X.xe t) X.xe { s' with heap := h3 } := by
          rw [frm]
          exact HandSPX.setFlight_upZ fl fun h4 hh4 up4 => wpAny_throw (tk _ _ ⟨a, B, sI, pins, τ, G, cl, d, rfl, J, nb, (up.trans upp).trans up4, .inr (.inr (by rw [stk]; exact hh4)), na, os, ag, w⟩)
        first
          | exact wpAny_bind (wpAny_pure (wpAny_bind fin))
          | exact wpAny_bind fin
      | @cons x n c i ts b₁ rest p1 p2 hs2 l2 names slot lcl oks r ih =>
        intro w
        obtain ⟨b, tst, yes, no⟩ := w
        refine wpAny_handleBy_cons (codeAny_handlers_test ?_) (by intro q; cases q)
        have look : PySem.W.Looks (model X.prog X.w) h3 (typeOf (.ref a)) cl := fun A Q E s k q => wpAny_typeOf_ref (k _ _ at3) (by rw [zz.1]; exact q)
        have lm := PySem.W.exm_one (M := model X.prog X.w) J3.kIn look tst
        have named : ∀ {Q : Value → Shared → Prop} {E : Value → Shared → Prop}, Q c { s' with heap := h3 } → wpAny (model X.prog X.w) (X.A.mark (some (.ref a))) (eval (.Name x p1) X.env) Q E { s' with heap := h3 } := fun {Q E} q => by
          obtain ⟨hg, hdb, hm | ⟨hm, hv, hn⟩⟩ := names
          · exact ld_glob (X := X.suite a ((a, oe) :: (X.pn ++ pins))) S3 hg hm q hdb
          · exact ld_blt (X := X.suite a ((a, oe) :: (X.pn ++ pins))) S3 hg hm hv q hn hdb
        refine named (lm.here ?_)
        cases b with
        | true =>
          refine codeAny_handlers_suite_as (HandSPX.lands_againZ fl fun h4 fl4 up4 => ?_)
          have J4 : Inv X pins τ G { s' with heap := h4 } := J.landed nb fl4.1 ((up.trans upp).trans up4) os ag
          obtain ⟨o4, v4, at4, z4, d4⟩ := fl4.there
          have S4 := J4.suite at4 d4 na nL nF
          refine store_ok (X := X.suite a ((a, o4) :: (X.pn ++ pins))) (v := .ref a) S4 nd slot (.inl lcl) rfl (fun s5 S5 => ?_) (.inr lcl)
          refine wpAny_mono ((oks a o4 cl d (X.pn ++ pins) z4 ⟨_, d4⟩).run [] s5 _ G _ S5 (yes rfl a na)) (fun f s6 hsp => ?_) (fun _ _ z => False.elim z)
          have off : ∀ {σ6 : St} {H6 : Hp} {Q : Shared → Prop}, Inv (X.suite a ((a, o4) :: (X.pn ++ pins))) [] σ6 H6 s6 → (∀ s7, Inv X pins (σ6.set i none) H6 s7 → Q s7) → wpAny (model X.prog X.w) X.A (do bindName X.env n .none; unbindBehindTheSuite X.env n p2) (fun _ s7 => Q s7) X.xe s6 := fun {σ6 H6 Q} S6 hq => gone_ok (S6.unsuite oki) nd slot lcl hq
          match f, hsp with
          | .next, ⟨_, _, S6, q6⟩ => exact off S6 fun s7 J7 => ⟨_, _, J7, q6⟩
          | .brk, ⟨_, _, S6, q6⟩ => exact off S6 fun s7 J7 => ⟨_, _, J7, q6⟩
          | .cont, ⟨_, _, S6, q6⟩ => exact off S6 fun s7 J7 => ⟨_, _, J7, q6⟩
          | .ret u, ⟨_, _, _, S6, r6, q6⟩ => exact off S6 fun s7 J7 => ⟨_, _, _, J7, r6, q6⟩
        | false =>
          show wpAny _ X.A (handleBy (.ref a) X.env hs2) _ _ _
          exact ih (no rfl)
    exact go hh w
  · match f, hsp with
    | .next, ⟨_, _, J', q⟩ => exact wpAny_execs_nil ⟨_, _, J'.ofTry oki, q⟩
    | .brk, ⟨_, _, J', q⟩ => exact ⟨_, _, J'.ofTry oki, q⟩
    | .cont, ⟨_, _, J', q⟩ => exact ⟨_, _, J'.ofTry oki, q⟩
    | .ret u, ⟨_, _, _, J', r, q⟩ => exact ⟨_, _, _, J'.ofTry oki, r, q⟩
end
end L2
namespace Pd
open PySem L2 PyProof.Rows
/-- a clause: the names of the errors that it takes, its slot, its suite -/
structure Cla where
  L : List Str
  i : Nat
  ts : Addr → D → TSD
def clD (De : EndsD) (W : WD) (N : List Str) (ex : Exn) (e : EnvD) : List Cla → Prop
  | [] => ex.nm ∈ N ∧ W ex e
  | c :: r => if ex.nm ∈ c.L then ∀ a, c.ts a ex.d { nx := fun e' => De.nx (e'.set c.i none), rt := De.rt, bk := fun e' => De.bk (e'.set c.i none), ct := fun e' => De.ct (e'.set c.i none) } (e.set c.i (some (.raw (.ref a)))) noW
    else clD De W N ex e r
def sTryMany (N : List Str) (tb : TSD) (cs : List Cla) : TSD := fun De env W => tb De env fun ex e => clD De W N ex e cs
/-- the clauses of a try; O: the errors that may come -/
inductive ClsOk (X : Cx) (io : List Nat) (O : List Str) : List ExceptHandler → List (Value × Nat × ClV) → List Cla → Prop
  | nil : ClsOk X io O [] [] []
  | cons {x n : Str} {c : Value} {i : Nat} {L : List Str} {ts : Addr → D → TSD} {b₁ : Stmt} {rest : List Stmt} {p1 p2 : Pos} {hs : List ExceptHandler} {l : List (Value × Nat × ClV)} {cs : List Cla} (names : Names X x c) (slot : X.N[i]? = some n) (lcl : X.env.kindOf n = some .local) (hio : i ∉ io)
      (hE : ∀ nm ∈ O, ∃ C, Er X.prog X.K X.mg C nm ∧ PySem.W.exmOne X.K (.ref C) c = some (decide (nm ∈ L)))
      (hsu : ∀ (a : Addr) (v : V) (d : D) (pn : List (Addr × Obj)), flat d = some v → AtX (X.suite a pn) a v → PSsD (X.suite a pn) io (b₁ :: rest) (ts a d)) (r : ClsOk X io O hs l cs) :
      ClsOk X io O (.ExceptHandler (some (.Name x p1)) (some n) (b₁ :: rest) p2 :: hs) ((c, i, tsV X.K io ts) :: l) (⟨L, i, ts⟩ :: cs)
theorem ClsOk.hds {X : Cx} {io : List Nat} {O : List Str} {hs : List ExceptHandler} {l : List (Value × Nat × ClV)} {cs : List Cla} (h : ClsOk X io O hs l cs) : HdsAs X hs l := by
  induction h with
  | nil => exact .nil
  | cons names slot lcl hio hE hsu r ih => exact .cons names slot lcl (fun a oe cl d pn hz hf => pss_suite hz hf hsu) ih
/-- every error that may come out of the body is one of O -/
def exIn (O : List Str) (W : WD) : WD := fun ex e => ex.nm ∈ O ∧ W ex e
theorem psd_tryMany {X : Cx} {io : List Nat} {O N : List Str} {body : List Stmt} {h₁ : ExceptHandler} {hs : List ExceptHandler} {l : List (Value × Nat × ClV)} {cs : List Cla} {pos : Pos} {tb : TSD} (stk : X.stack = X.env :: X.outer) (frm : X.env.frame = some X.env.locals) (nd : X.N.Nodup)
    (hb : ∀ (pn : List (Addr × Obj)) (xe : Value → Shared → Prop), PassesOwn (model X.prog X.w) X.A X.env xe → PSsD (X.tr pn xe) io body tb) (hc : ClsOk X io O (h₁ :: hs) l cs) (hO : ∀ c ∈ cs, ∀ nm ∈ c.L, nm ∈ O) (hN : ∀ nm ∈ N, nm ∈ O) :
    PSD X io (.Try body (h₁ :: hs) [] [] pos) (sTryMany N tb cs) := by
  refine ⟨fun W0 tk => ⟨_, ps_try_manyAs stk frm nd tk (tb := fun W => tCl X.K io tb W) (fun W pn xe tk' hp => psd_cl (hb pn xe hp) tk') hc.hds, fun A τ σ env H De W E ok tm fx hW h ee => ?_⟩⟩
  refine ⟨A, τ, env, De, _, ok, tm, fx, fun σ' env' H' ex cls d ok' hx hw => ?_, h, ee⟩
  have go : ∀ {hs : List ExceptHandler} {l : List (Value × Nat × ClV)} {cs : List Cla}, ClsOk X io O hs l cs → (∀ c ∈ cs, ∀ nm ∈ c.L, nm ∈ O) → clD De W N ex env' cs → wManyAs X.K W0 E l cls d σ' H' := by
    intro hs l cs hk
    induction hk with
    | nil =>
      intro _ hw
      exact hW σ' _ _ ex _ _ ok' hx hw.2
    | @cons x n c i L ts b₁ rest p1 p2 hs2 l2 cs2 names slot lcl hio hE hsu r ih =>
      intro hO hw
      have hin : ex.nm ∈ O := by
        by_cases hL : ex.nm ∈ L
        · exact hO _ List.mem_cons_self _ hL
        · rw [clD, if_neg hL] at hw
          have : ∀ {cs : List Cla}, (∀ c ∈ cs, ∀ nm ∈ c.L, nm ∈ O) → clD De W N ex env' cs → ex.nm ∈ O := by
            intro cs
            induction cs with
            | nil => intro _ hw; exact hN _ hw.1
            | cons c r ih =>
              intro hO hw
              rw [clD] at hw
              split at hw
              · rename_i hc
                exact hO _ List.mem_cons_self _ hc
              · exact ih (fun c hc => hO c (List.mem_cons_of_mem _ hc)) hw
          exact this (fun c hc => hO c (List.mem_cons_of_mem _ hc)) hw
      obtain ⟨C', R, hm⟩ := hE _ hin
      obtain ⟨C, v, dd, hns, rfl, hfl, rfl, hH⟩ := id hx
      have eC : C' = C := by
        have z := R.ns
        rw [hns] at z
        cases z; rfl
      subst eC
      have hne : ∀ q ∈ A.fx, q.1 ≠ i := fun q hq e => hio (by rw [← e]; exact fx q hq)
      refine ⟨_, hm, fun hb a na => ?_, fun hb => ?_⟩
      · have hL := of_decide_eq_true hb
        rw [clD, if_pos hL] at hw
        have hr := hw a
        have ok2 : Ok X.K A τ (σ'.set i (some (.ref a))) (env'.set i (some (.raw (.ref a)))) H' := Ok.set (ok'.pushD (v := .ref a) (d := .raw (.ref a)) fun N => ⟨rfl, rfl⟩) tm hne
        refine ⟨dd, v, ex.nm, ex.d, rfl, ⟨_, rfl, R.xf⟩, hH, hfl, A.less dd, τ, _, _, noW, ok2.pin tm hH, tm, fx, fun _ _ _ _ _ _ _ _ z => z.elim, hr, ⟨?_, ?_, ?_, ?_⟩⟩
        · exact fun σ2 env2 H2 o2 q hn => ee.nx _ _ _ ((Ok.unpin ok2 hH o2 hn).unset tm hne) q
        · exact fun u x2 σ2 env2 H2 o2 q hn => ee.rt _ x2 _ _ _ (Ok.unpin ok2 hH o2 hn) q
        · exact fun σ2 env2 H2 o2 q hn => ee.bk _ _ _ ((Ok.unpin ok2 hH o2 hn).unset tm hne) q
        · exact fun σ2 env2 H2 o2 q hn => ee.ct _ _ _ ((Ok.unpin ok2 hH o2 hn).unset tm hne) q
      · have hL := of_decide_eq_false hb
        rw [clD, if_neg hL] at hw
        exact ih (fun c hc => hO c (List.mem_cons_of_mem _ hc)) hw
  exact go hc hO hw
end Pd

namespace Pd
open PySem L2 PyProof.Rows
/-! ### constants of the module -/
section
variable {X : Cx} {x : Str} {pos : Pos}
theorem pd_globI {i : Int} (hg : Gl X x) (hm : ∃ t, X.mg x = some (.int i t)) (hd : (x == ("__debug__" : Str)) = false := by decide) : PD X false (.Name x pos) (dC (.int i)) := by
  obtain ⟨t, hm⟩ := hm
  exact pd_glob (v := .int i) hg hm ⟨t, rfl⟩ (fun _ _ => ⟨rfl, rfl⟩) hd
theorem pd_globS {i : Str} (hg : Gl X x) (hm : ∃ t, X.mg x = some (.str i t)) (hd : (x == ("__debug__" : Str)) = false := by decide) : PD X false (.Name x pos) (dC (.str i)) := by
  obtain ⟨t, hm⟩ := hm
  exact pd_glob (v := .str i) hg hm ⟨t, rfl⟩ (fun _ _ => ⟨rfl, rfl⟩) hd
theorem pd_globT {d : D} (hg : Gl X x) (hm : ∃ a, X.mg x = some (.ref a) ∧ ∀ H N, Rp X.K H N d (.ref a) []) (hd : (x == ("__debug__" : Str)) = false := by decide) : PD X false (.Name x pos) (dC d) := by
  obtain ⟨a, hm, hr⟩ := hm
  exact pd_glob (v := .ref a) hg hm rfl hr hd
end
/-- atoms as the written part has them -/
def wrV : D → V
  | .bl b => .bl b
  | .int i => .int i
  | .str x => .str x
  | _ => .non
theorem rps_wr {K : PySem.W.Frag} {H : Hp} {N : Addr → Prop} : ∀ {ds : List D}, ds.all atomD = true → Rps K H N ds (ds.map wrV) []
  | [], _ => ⟨rfl, rfl⟩
  | d :: ds, h => by
    rw [List.all_cons, Bool.and_eq_true] at h
    refine ⟨wrV d, ds.map wrV, [], [], rfl, rfl, ?_, rps_wr h.2⟩
    cases d <;> first | exact ⟨rfl, rfl⟩ | exact Bool.noConfusion h.1
theorem wrT {K : PySem.W.Frag} {a : Addr} {ds : List D} {od : Option Addr} {its : Array Value} {n : Nat} {sl : Array (Option Value)} (l : K.lookup a = some ⟨.type "tuple", od, .seq its n, sl⟩) (hs : its.size ≤ sizeLine) (ha : ds.all atomD = true) (hv : Vals (ds.map wrV) its.toList) :
    ∀ (H : Hp) (N : Addr → Prop), Rp K H N (.frl true ds) (.ref a) [] := fun H N =>
  ⟨rfl, a, ds.map wrV, rfl, .inr ⟨_, its, n, l, rfl, rfl, hs, hv⟩, rps_wr ha⟩
theorem wrL {K : PySem.W.Frag} {a : Addr} {ds : List D} {its : Array Value} {n : Nat} {sl : Array (Option Value)} (l : K.lookup a = some ⟨.type "list", none, .seq its n, sl⟩) (hs : its.size ≤ sizeLine) (ha : ds.all atomD = true) (hv : Vals (ds.map wrV) its.toList) :
    ∀ (H : Hp) (N : Addr → Prop), Rp K H N (.frl false ds) (.ref a) [] := fun H N =>
  ⟨rfl, a, ds.map wrV, rfl, .inr ⟨_, its, n, l, rfl, rfl, rfl, hs, hv⟩, rps_wr ha⟩
@[simp] theorem atI_c4 {α : Type} (a b c d e : α) (l : List α) : L2.atI (a :: b :: c :: d :: e :: l) 4 = some e := atI_ofNat (j := 4) rfl
@[simp] theorem atI_c5 {α : Type} (a b c d e f : α) (l : List α) : L2.atI (a :: b :: c :: d :: e :: f :: l) 5 = some f := atI_ofNat (j := 5) rfl
@[simp] theorem atI_c6 {α : Type} (a b c d e f g : α) (l : List α) : L2.atI (a :: b :: c :: d :: e :: f :: g :: l) 6 = some g := atI_ofNat (j := 6) rfl
@[simp] theorem atI_c7 {α : Type} (a b c d e f g h : α) (l : List α) : L2.atI (a :: b :: c :: d :: e :: f :: g :: h :: l) 7 = some h := atI_ofNat (j := 7) rfl
@[simp] theorem atI_c8 {α : Type} (a b c d e f g h i : α) (l : List α) : L2.atI (a :: b :: c :: d :: e :: f :: g :: h :: i :: l) 8 = some i := atI_ofNat (j := 8) rfl
@[simp] theorem atI_c9 {α : Type} (a b c d e f g h i k : α) (l : List α) : L2.atI (a :: b :: c :: d :: e :: f :: g :: h :: i :: k :: l) 9 = some k := atI_ofNat (j := 9) rfl
instance {α β : Type} (f : β → D) (g : α → β) [PlF f] : PlF (f ∘ g) := ⟨fun a => PlF.pl (f := f) (g a)⟩
@[simp] theorem intsD_map : ∀ l : List Int, intsD (l.map .int) = some l
  | [] => rfl
  | a :: l => by
    show (intsD (l.map .int)).map (a :: ·) = _
    rw [intsD_map l]; rfl
@[simp] theorem intsD_comp {α : Type} (g : α → Int) (l : List α) : intsD (l.map (D.int ∘ g)) = some (l.map g) := by rw [← List.map_map]; exact intsD_map _
@[simp] theorem intsD_fun {α : Type} (g : α → Int) (l : List α) : intsD (l.map fun a => D.int (g a)) = some (l.map g) := intsD_comp g l
end Pd

namespace Pd
open PySem L2 PyProof.Rows
/-! ### dicts: new ones, what is laid into them -/
/-- a dict's things behind d[k] = v -/
def dput (ks xs : List D) (k d : D) : List D × List D := match lkI ks k with
  | some i => (ks, xs.set i d)
  | none => (ks ++ [k], xs ++ [d])
def dputs : List D → List D → List (D × D) → List D × List D
  | ks, xs, [] => (ks, xs)
  | ks, xs, p :: ps => dputs (dput ks xs p.1 p.2).1 (dput ks xs p.1 p.2).2 ps
section
variable {κ : Type} [DecidableEq κ] {f : κ → D}
theorem lkI_none {ks : List D} {k : D} (h : lkI ks k = none) : k ∉ ks := by
  induction ks with
  | nil => simp
  | cons a ks ih =>
    rw [lkI] at h
    by_cases e : a = k
    · rw [if_pos e] at h; cases h
    · rw [if_neg e] at h
      have h' : lkI ks k = none := by
        cases z : lkI ks k with
        | none => rfl
        | some i => rw [z] at h; cases h
      intro hm
      rcases List.mem_cons.mp hm with q | q
      · exact e q.symm
      · exact ih h' q
theorem any_zip (inj : ∀ a b, f a = f b → a = b) (k : κ) : ∀ (kk : List κ) (vs : List V), kk.length = vs.length → ((kk.zip vs).any fun kv => decide (kv.1 = k)) = (lkI (kk.map f) (f k)).isSome
  | [], _, _ => rfl
  | a :: kk, [], h => by cases h
  | a :: kk, v :: vs, h => by
    have h' : kk.length = vs.length := by simpa using h
    have ih := any_zip inj k kk vs h'
    rw [List.zip_cons_cons, List.any_cons, List.map_cons, lkI]
    by_cases e : a = k
    · simp [e]
    · have e' : ¬ f a = f k := fun z => e (inj _ _ z)
      rw [if_neg e', ih]
      simp [e]
theorem map_zip_none (k : κ) (v : V) : ∀ (kk : List κ) (vs : List V), k ∉ kk → (kk.zip vs).map (fun kv => if kv.1 = k then (kv.1, v) else kv) = kk.zip vs
  | [], _, _ => rfl
  | a :: kk, [], _ => rfl
  | a :: kk, w :: vs, h => by
    have h1 : ¬ a = k := fun e => h (by rw [e]; exact List.mem_cons_self)
    rw [List.zip_cons_cons, List.map_cons, map_zip_none k v kk vs (fun z => h (List.mem_cons_of_mem _ z)), if_neg h1]
theorem putK_zip (inj : ∀ a b, f a = f b → a = b) (k : κ) (v : V) (kk : List κ) (vs : List V) (hl : kk.length = vs.length) (nd : kk.Nodup) :
    (∀ i, lkI (kk.map f) (f k) = some i → putK (kk.zip vs) k v = kk.zip (vs.set i v)) ∧ (lkI (kk.map f) (f k) = none → putK (kk.zip vs) k v = (kk ++ [k]).zip (vs ++ [v])) := by
  refine ⟨fun i e => ?_, fun e => ?_⟩
  · unfold putK
    rw [any_zip inj k kk vs hl, e, if_pos (show (some i).isSome = true from rfl)]
    induction kk generalizing vs i with
    | nil => cases e
    | cons a kk ih =>
      cases vs with
      | nil => cases hl
      | cons w vs =>
        have hl' : kk.length = vs.length := by simpa using hl
        rw [List.map_cons, lkI] at e
        by_cases q : a = k
        · subst q
          rw [if_pos rfl] at e
          cases e
          rw [List.zip_cons_cons, List.map_cons, if_pos rfl, map_zip_none a v kk vs (List.nodup_cons.mp nd).1]
          rfl
        · rw [if_neg (fun z => q (inj _ _ z))] at e
          cases z : lkI (kk.map f) (f k) with
          | none => rw [z] at e; cases e
          | some j =>
            rw [z] at e
            cases e
            rw [List.zip_cons_cons, List.map_cons, if_neg q, ih vs hl' (List.nodup_cons.mp nd).2 j z]
            rfl
  · unfold putK
    rw [any_zip inj k kk vs hl, e, if_neg (by simp), List.zip_append hl]
    rfl
end
section
variable {K : PySem.W.Frag} {A : Anc} {H H' : Hp} {N : Addr → Prop} {σ : St} {env : EnvD} {τ : List (V × T)}
theorem nodup_of_map {α β : Type} (g : α → β) {l : List α} (h : (l.map g).Nodup) : l.Nodup := by
  induction l with
  | nil => exact List.nodup_nil
  | cons a l ih =>
    rw [List.map_cons] at h
    have h' := List.nodup_cons.mp h
    exact List.nodup_cons.mpr ⟨fun z => h'.1 (List.mem_map_of_mem z), ih h'.2⟩
/-- a key as a value -/
def KeyV (H : Hp) (t : Nat) (k : D) (y : V) : Prop := (t = 0 ∧ ∃ q : Key, k = kD q ∧ y = kV q) ∨ (t = 1 ∧ ∃ (q : List Key) (b : Addr), k = tD q ∧ y = .ref b ∧ H b = some (.tup (q.map kV)))
theorem keyV_of {t : Nat} {k : D} {y : V} {fp : List Addr} (h : Rp K H N k y fp) (e : kOk t k = true) : KeyV H t k y := by
  match t with
  | 0 => exact .inl ⟨rfl, key0 h e⟩
  | 1 => exact .inr ⟨rfl, key1 h e⟩
  | t + 2 => exact nomatch e
theorem kOk_noAl {t : Nat} {k : D} (e : kOk t k = true) : noAl k = true := by
  match t with
  | 0 => cases k <;> first | rfl | cases e
  | 1 =>
    cases k with
    | tup xs =>
      have e' : (xs.all fun x => match x with | .int _ => true | .str _ => true | _ => false) = true := e
      show noAls xs = true
      clear e
      induction xs with
      | nil => rfl
      | cons x xs ih =>
        rw [List.all_cons, Bool.and_eq_true] at e'
        show (noAl x && noAls xs) = true
        rw [ih e'.2]
        cases x <;> first | rfl | cases e'.1
    | _ => cases e
  | t + 2 => exact nomatch e
/-- what a dict's object is behind the storing -/
theorem DO_put {t : Nat} {ks : List D} {vs : List V} {k : D} {y v : V} {o : HO} {p : Addr} (h : DO t ks vs o) (hp : H p = some o) (nd : ks.Nodup) (hl : ks.length < sizeLine) (hk : KeyV H t k y) :
    ∃ o', DPut H p y v (upd H p o') ∧ (∀ i, lkI ks k = some i → DO t ks (vs.set i v) o') ∧ (lkI ks k = none → DO t (ks ++ [k]) (vs ++ [v]) o') ∧ Mut (H p) := by
  rcases h with ⟨rfl, kk, rfl, l, rfl⟩ | ⟨rfl, kk, rfl, l, rfl⟩
  · rcases hk with ⟨_, q, rfl, rfl⟩ | ⟨z, _⟩
    · have pz := putK_zip (f := kD) (fun _ _ => kD_inj) q v kk vs l (nodup_of_map kD nd)
      refine ⟨.dK (putK (kk.zip vs) q v), DPut.k hp (by rw [List.length_zip]; rw [List.length_map] at hl; omega), fun i e => .inl ⟨rfl, kk, rfl, by rw [List.length_set]; exact l, by rw [pz.1 i e]⟩,
        fun e => .inl ⟨rfl, kk ++ [q], by rw [List.map_append]; rfl, by simp [l], by rw [pz.2 e]⟩, by rw [hp]; trivial⟩
    · cases z
  · rcases hk with ⟨z, _⟩ | ⟨_, q, b, rfl, rfl, hb⟩
    · cases z
    · have pz := putK_zip (f := tD) (fun _ _ => tD_inj) q v kk vs l (nodup_of_map tD nd)
      refine ⟨.dT (putK (kk.zip vs) q v), DPut.t hp hb (by rw [List.length_zip]; rw [List.length_map] at hl; omega), fun i e => .inr ⟨rfl, kk, rfl, by rw [List.length_set]; exact l, by rw [pz.1 i e]⟩,
        fun e => .inr ⟨rfl, kk ++ [q], by rw [List.map_append]; rfl, by simp [l], by rw [pz.2 e]⟩, by rw [hp]; trivial⟩
/-- a dict that is a temporary is written -/
theorem Ok.dput1 {y kv : V} {d k : D} {p : Addr} {t : Nat} {ks xs : List D} (ok : Ok K A ((y, .tmp d) :: (.ref p, .tmp (.dic true t ks xs)) :: τ) σ env H) (hk : KeyV H t k kv) (nd0 : ks.Nodup) (hl : ks.length < sizeLine) (st : stays τ) :
    ∃ o', DPut H p kv y (upd H p o') ∧ Ok K A ((.ref p, .tmp (.dic true t (dput ks xs k d).1 (dput ks xs k d).2)) :: τ) σ env (upd H p o') := by
  obtain ⟨fa, f0, f2, o, ra, r0⟩ := Ok.cut (as := [(y, .tmp d), (.ref p, .tmp (.dic true t ks xs))]) ok
  obtain ⟨fd, fl, rfl, rd, rl⟩ := id ra
  have rl' := RpTs.of1 rl
  obtain ⟨a, vs, fp', ea, ow, ⟨ho, la, lo⟩, rr⟩ := rl'
  cases ea
  have ow' : fl = p :: fp' := ow
  subst ow'
  obtain ⟨o', hput, do1, do2, mu⟩ := DO_put (v := y) lo la nd0 hl hk
  refine ⟨o', hput, ?_⟩
  have nd := o.ndA
  have nda := List.nodup_append.mp nd
  have nac : p ∉ fp' := (List.nodup_cons.mp nda.2.1).1
  have nad : p ∉ fd := fun h => nda.2.2 p h p List.mem_cons_self rfl
  have kp : ∀ b u, H b = some u → ¬ (b = p) → upd H p o' b = some u := fun b u e n => by rw [upd_ne n]; exact e
  have mm : ∀ b, b = p → Mut (H b) ∧ A.nn (fd ++ p :: fp' ++ f0 ++ f2) b := fun b e => by
    subst e
    exact ⟨mu, .inr (by simp)⟩
  obtain ⟨vs', g, rs, sub, ndg, dO⟩ : ∃ (vs' : List V) (g : List Addr), Rps K H (A.nn (fd ++ p :: fp' ++ f0 ++ f2)) (dput ks xs k d).2 vs' g ∧ (∀ b ∈ g, b ∈ fd ∨ b ∈ fp') ∧ g.Nodup ∧ DO t (dput ks xs k d).1 vs' o' := by
    unfold dput
    cases e : lkI ks k with
    | none =>
      have r3 := Rps.append rr (Rps.cons rd Rps.nil)
      rw [List.append_nil] at r3
      exact ⟨vs ++ [y], fp' ++ fd, r3, fun b hb => (List.mem_append.mp hb).symm, List.nodup_append.mpr ⟨(List.nodup_cons.mp nda.2.1).2, nda.1, fun b hb c hc e => nda.2.2 c hc b (List.mem_cons_of_mem _ hb) e.symm⟩, do2 e⟩
    | some i =>
      have hi : i < xs.length := by
        have h1 := (List.getElem?_eq_some_iff.mp (lkI_get e)).1
        rw [rr.length, ← DO_len lo]; exact h1
      obtain ⟨f1, fm, f2', efp, rs⟩ := Rps.setAt (i := i) rr hi rd
      refine ⟨vs.set i y, f1 ++ fd ++ f2', rs, fun b hb => ?_, ?_, do1 i e⟩
      · rw [efp]
        simp only [List.mem_append] at hb ⊢
        rcases hb with (z | z) | z
        · exact .inr (.inl (.inl z))
        · exact .inl z
        · exact .inr (.inr z)
      · have nd1 : (fd ++ (f1 ++ fm ++ f2')).Nodup := by
          rw [efp] at nda
          exact List.nodup_append.mpr ⟨nda.1, (List.nodup_cons.mp nda.2.1).2, fun b hb c hc e => nda.2.2 b hb c (List.mem_cons_of_mem _ hc) e⟩
        have pm : (fd ++ (f1 ++ fm ++ f2')).Perm (fm ++ (f1 ++ fd ++ f2')) := by
          refine List.perm_iff_count.mpr fun a => ?_
          simp only [List.count_append]
          omega
        exact (List.nodup_append.mp (pm.nodup_iff.mp nd1)).2.1
  have sub' : ∀ b, b ∈ (p :: g) → b ∈ fd ++ p :: fp' := fun b hb => by
    rcases List.mem_cons.mp hb with z | z
    · simp [z]
    · rcases sub b z with z | z <;> simp [z]
  have n : ∀ b, A.nn ((p :: g) ++ f0 ++ f2) b → A.nn (fd ++ p :: fp' ++ f0 ++ f2) b ∨ H b = none := fun b z => .inl (z.imp id fun z => by
    rw [List.append_assoc] at z ⊢
    rcases List.mem_append.mp z with z | z
    · exact List.mem_append_left _ (sub' b z)
    · exact List.mem_append_right _ z)
  have npg : p ∉ g := fun h => (sub p h).elim nad nac
  have tt := Okk.turn (M := fun b => b = p) (as' := [(.ref p, .tmp (.dic true t (dput ks xs k d).1 (dput ks xs k d).2))]) (fa' := p :: g) (H' := upd H p o') o ra r0 kp (fun b e => by subst e; simp) (.inr st)
    (List.nodup_cons.mpr ⟨npg, ndg⟩) (fun b hb => .inl (sub' b hb)) (RpTs.one ?_)
  · exact ⟨_, _, tt⟩
  · exact ⟨p, vs', g, rfl, rfl, ⟨o', upd_same, dO⟩, Rps.frame (M := fun b => b = p) kp mm n _ (fun b hb e => npg (e ▸ hb)) rs⟩
theorem dput_nodup {ks xs : List D} {k d : D} (h : ks.Nodup) : (dput ks xs k d).1.Nodup := by
  unfold dput
  cases e : lkI ks k with
  | some i => exact h
  | none => exact List.nodup_append.mpr ⟨h, by simp, fun a ha b hb z => lkI_none e (by rw [← List.mem_singleton.mp hb, ← z]; exact ha)⟩
theorem dput_len {ks xs : List D} {k d : D} : (dput ks xs k d).1.length ≤ ks.length + 1 := by
  unfold dput
  cases e : lkI ks k with
  | some i => show ks.length ≤ _; omega
  | none => simp
/-- .. at all pairs of a display -/
theorem Ok.dfill {p : Addr} (st : stays τ) : ∀ (kvs : List (Key × V)) (ds ks xs : List D) (acc : List (Key × V)) (H : Hp), Ok K A ((kvs.map (·.2)).zip (ds.map .tmp) ++ (.ref p, .tmp (.dic true 0 ks xs)) :: τ) σ env H → kvs.length = ds.length → ks.Nodup → ks.length + kvs.length < sizeLine → H p = some (.dK acc) →
    Ok K A ((.ref p, .tmp (.dic true 0 (dputs ks xs ((kvs.map fun kv => kD kv.1).zip ds)).1 (dputs ks xs ((kvs.map fun kv => kD kv.1).zip ds)).2)) :: τ) σ env (upd H p (.dK (mergeK acc kvs)))
  | [], [], ks, xs, acc, H, ok, _, nd, _, hp => by
    have e : upd H p (.dK (mergeK acc [])) = H := by
      funext b
      by_cases q : b = p
      · subst q; rw [upd_same, hp]; rfl
      · rw [upd_ne q]
    rw [e]; exact ok
  | [], _ :: _, _, _, _, _, _, h, _, _, _ => by cases h
  | _ :: _, [], _, _, _, _, _, h, _, _, _ => by cases h
  | kv :: kvs, d :: ds, ks, xs, acc, H, ok, h, nd, hl, hp => by
    have h' : kvs.length = ds.length := by simpa using h
    rw [List.length_cons] at hl
    have okp : Ok K A ((kv.2, .tmp d) :: (.ref p, .tmp (.dic true 0 ks xs)) :: ((kvs.map (·.2)).zip (ds.map .tmp) ++ τ)) σ env H := by
      refine ok.perm ?_
      rw [List.map_cons, List.map_cons, List.zip_cons_cons]
      exact List.Perm.cons _ List.perm_middle
    have st2 : stays ((kvs.map (·.2)).zip (ds.map .tmp) ++ τ) := by
      intro x hx
      rcases List.mem_append.mp hx with hx | hx
      · have := (List.of_mem_zip hx).2
        obtain ⟨d', _, e⟩ := List.mem_map.mp this
        rw [← e]; rfl
      · exact st x hx
    obtain ⟨o', g, ok2⟩ := Ok.dput1 (k := kD kv.1) (kv := kV kv.1) okp (.inl ⟨rfl, kv.1, rfl, rfl⟩) nd (by omega) st2
    have eo : o' = .dK (putK acc kv.1 kv.2) := by
      rcases g with ⟨kvs', q, e1, e2, _, e3⟩ | ⟨kvs', q, b, e1, _⟩
      · rw [hp] at e1; cases e1
        have : q = kv.1 := by
          have : kD q = kD kv.1 := by
            cases q <;> cases hq : kv.1 <;> rw [hq] at e2 <;> cases e2 <;> rfl
          exact kD_inj this
        subst this
        have e4 := congrFun e3 p
        rw [upd_same, upd_same] at e4
        exact Option.some.inj e4
      · rw [hp] at e1; cases e1
    subst eo
    have ok3 := ok2.perm (List.perm_middle.symm)
    have r := Ok.dfill st kvs ds _ _ _ _ ok3 h' (dput_nodup nd) (by have := dput_len (ks := ks) (xs := xs) (k := kD kv.1) (d := d); omega) upd_same
    have eu : ∀ (o1 o2 : HO), upd (upd H p o1) p o2 = upd H p o2 := fun o1 o2 => by
      funext b
      by_cases q : b = p
      · subst q; rw [upd_same, upd_same]
      · rw [upd_ne q, upd_ne q, upd_ne q]
    rw [eu] at r
    exact r
end
/-! ### displays -/
abbrev TKD := EnvD → (List (D × D) → EnvD → Prop) → WD → Prop
structure PKD (X : Cx) (pos : Pos) (keys : List (Option Expr)) (vals : List Expr) (td : TKD) : Prop where
  ex : ∀ (W0 : L2.WX), Takes X W0 → ∃ trs, PPs X pos keys vals trs ∧ ∀ (A : Anc) (τ : List (V × T)) (σ : St) (env : EnvD) (H : Hp) (Q : List (D × D) → EnvD → Prop) (W : WD) (R : List (V × V) → Hp → Prop),
    Ok X.K A τ σ env H → stays τ → HW X.K W0 A τ σ W → td env Q W → (∀ (kvs : List (Key × V)) (ds : List D) H' env', Ok X.K A ((kvs.map (·.2)).zip (ds.map .tmp) ++ τ) σ env' H' → kvs.length = ds.length → Q ((kvs.map fun kv => kD kv.1).zip ds) env' → R (kvs.map fun kv => (kV kv.1, kv.2)) H') → tPairs trs σ H R
def dkNil : TKD := fun env Q _ => Q [] env
def dkCons (tk tv : TD) (tr : TKD) : TKD := fun env Q W => tk env (fun x e0 => match x.vw e0 with
  | some (_, k) => kOk 0 k = true ∧ tv e0 (fun y e1 => match y.tk e1 with
    | some (d, e2) => tr e2 (fun ps e3 => Q ((k, d) :: ps) e3) W
    | none => False) W
  | none => False) W
def dDisp (tr : TKD) : TD := fun env Q W => tr env (fun ps e => ps.length ≤ 15 ∧ Q (.tmp (.dic true 0 (dputs [] [] ps).1 (dputs [] [] ps).2)) e) W
def dDicK : TD := fun env Q _ => Q (.tmp (.dic true 0 [] [])) env
def dDicT : TD := fun env Q _ => Q (.tmp (.dic true 1 [] [])) env
section
variable {X : Cx} {io : List Nat} {m m1 m2 : Bool} {a b o i k v : Expr} {ta tb to ti tk tv : TD} {tr : TKD} {pos : Pos} {keys : List (Option Expr)} {vals : List Expr}
theorem pkd_nil : PKD X pos [] [] dkNil := ⟨fun W0 _ => ⟨[], pps_nil, fun A τ σ env H Q W R ok _ _ h hR => hR [] [] H env ok rfl h⟩⟩
theorem pkd_cons (hk : PD X m1 k tk) (hv : PD X m2 v tv) (hr : PKD X pos keys vals tr) : PKD X pos (some k :: keys) (v :: vals) (dkCons tk tv tr) := ⟨fun W0 tk0 => by
  obtain ⟨t1, p1, q1⟩ := hk.ex W0 tk0
  obtain ⟨t2, p2, q2⟩ := hv.ex W0 tk0
  obtain ⟨trs, p3, q3⟩ := hr.ex W0 tk0
  refine ⟨(t1, t2) :: trs, pps_cons p1 p2 p3, fun A τ σ env H Q W R ok st hW h hR => ?_⟩
  refine q1 A τ σ env H _ W _ ok (fun _ => st) hW h fun kv H1 x e0 ok1 h1 => ?_
  split at h1
  · rename_i bb kd hx
    obtain ⟨hk0, h1⟩ := h1
    have rk := ok1.atom hx (kOk_noAl hk0) (fun _ => False)
    obtain ⟨kq, rfl, rfl⟩ := key0 rk hk0
    have ok2 : Ok X.K A τ σ e0 H1 := Ok.drop (as := [_]) ok1
    refine q2 A τ σ e0 H1 _ W _ ok2 (fun _ => st) hW h1 fun y H2 ty e1 ok3 h2 => ?_
    split at h2
    · rename_i d e2 hv2
      have ok4 := tk1 ok3 hv2
      refine q3 A ((y, .tmp d) :: τ) σ e2 H2 _ W _ ok4 (stays_cons rfl st) (HW.pop (as := [_]) hW) h2 fun kvs ds H3 e3 ok5 hl q => ?_
      refine hR ((kq, y) :: kvs) (d :: ds) H3 e3 ?_ ?_ q
      · refine ok5.perm ?_
        simp only [List.map_cons, List.zip_cons_cons]
        exact List.perm_middle
      · simp [hl]
    · exact h2.elim
  · exact h1.elim⟩
theorem pd_disp (h : PKD X pos keys vals tr) (hall : keys.all (·.isSome) = true := by rfl) (hl : keys.length = vals.length := by rfl) (h0 : keys ≠ [] := by exact fun z => nomatch z) (h15 : keys.length ≤ 15 := by decide) : PD X true (.Dict keys vals pos) (dDisp tr) := ⟨fun W0 tk0 => by
  obtain ⟨trs, p, q⟩ := h.ex W0 tk0
  refine ⟨_, pe_disp p hall hl h0 h15, fun A τ σ env H Q W R ok st hW hd hR => fun p hp => ?_⟩
  have ok1 : Ok X.K A ((.ref p, .tmp (.dic true 0 [] [])) :: τ) σ env (upd H p (.dK [])) := Ok.mk (as := []) (ds := []) (vs := []) (o := .dK []) (d := .dic true 0 [] []) ok rfl hp [p] (.inr rfl) fun N fp r => ⟨p, [], fp, rfl, rfl, ⟨_, upd_same, .inl ⟨rfl, [], rfl, rfl, rfl⟩⟩, r⟩
  refine q A _ σ env _ _ W _ ok1 (stays_cons rfl (st rfl)) (HW.pop (as := [_]) hW) hd fun kvs ds H2 e2 ok2 hl2 h2 => ?_
  have hp2 : H2 p = some (.dK []) := by
    have ok3 := Ok.drop ok2
    obtain ⟨fa, f0, f2, o, ra, r0⟩ := Ok.cut (as := [(.ref p, .tmp (.dic true 0 [] []))]) ok3
    obtain ⟨a, vs, fp', ea, _, ⟨ho, la, lo⟩, _⟩ := RpTs.of1 ra
    cases ea
    rcases lo with ⟨_, kk, e1, e2, e3⟩ | ⟨z, _⟩
    · have : kk = [] := List.map_eq_nil_iff.mp e1.symm
      subst this
      rw [la, e3]; rfl
    · cases z
  have h15' : kvs.length ≤ 15 := by
    have := h2.1
    rw [List.length_zip, List.length_map, ← hl2] at this
    omega
  have hz : (15 : Nat) < sizeLine := by rw [sizeLine_eq]; decide
  exact ⟨hp2, kvs, rfl, h15', hR _ _ _ _ (Ok.dfill (st rfl) kvs ds [] [] [] H2 ok2 hl2 List.nodup_nil (by simp only [List.length_nil]; omega) hp2) h2.2⟩⟩
theorem pd_dnewK : PD X false (.Dict [] [] pos) dDicK := ⟨fun W0 tk0 => ⟨tDNewK, pe_dnewK, fun A τ σ env H Q W R ok _ _ hd hR => fun p hp =>
  hR _ _ _ _ (Ok.mk (as := []) (ds := []) (vs := []) (o := .dK []) (d := .dic true 0 [] []) ok rfl hp [p] (.inr rfl) fun N fp r => ⟨p, [], fp, rfl, rfl, ⟨_, upd_same, .inl ⟨rfl, [], rfl, rfl, rfl⟩⟩, r⟩) hd⟩⟩
theorem pd_dnewT : PD X false (.Dict [] [] pos) dDicT := ⟨fun W0 tk0 => ⟨tDNewT, pe_dnewT, fun A τ σ env H Q W R ok _ _ hd hR => fun p hp =>
  hR _ _ _ _ (Ok.mk (as := []) (ds := []) (vs := []) (o := .dT []) (d := .dic true 1 [] []) ok rfl hp [p] (.inr rfl) fun N fp r => ⟨p, [], fp, rfl, rfl, ⟨_, upd_same, .inr ⟨rfl, [], rfl, rfl, rfl⟩⟩, r⟩) hd⟩⟩
/-- a[k] = .., a dict -/
def gSubD (m2 : Bool) (to ti : TD) : TGD := fun d env Q => d2 m2 to ti env (fun xs e => match xs with
  | [.pl j p, y] => (match y.vw e with
    | some (_, k) => (match plAt e j p with
      | some (.dic true t ks xs) => kOk t k = true ∧ ks.Nodup ∧ ks.length < sizeLine ∧ Q (plPut e j p (.dic true t (dput ks xs k d).1 (dput ks xs k d).2))
      | _ => False)
    | _ => False)
  | _ => False) noW
theorem pgd_subD (hu : X.A.units + 1 < cLine) (ho : PD X m1 o to) (hi : PD X m2 i ti) (ha : ∀ v, assign (.Subscript o i pos) X.env v = (do
      let ov ← holding [v] (eval o X.env)
      let iv ← holding [v, ov] (eval i X.env)
      standAt pos
      holding [v, ov, iv] (setItem ov iv v)
      release [v, ov, iv] []) := by intro _; rfl) : PGD X io (.Subscript o i pos) (gSubD m2 to ti) := ⟨by
  obtain ⟨t1, t2, p1, p2, h⟩ := two ho hi (W0 := fun _ _ _ _ => False) takesF
  refine ⟨_, pg_sub p1 p2 (set_dict hu) ha, fun A τ σ env H v d Q R ok tm fx hd hR => ?_⟩
  refine h A ((v, .tmp d) :: τ) σ env H _ noW _ ok (fun _ => tm.cons.st) (fun _ _ _ _ _ _ _ z => z.elim) hd fun ov kv H' x y e ok' q => ?_
  split at q
  · rename_i _ j p y' exs
    cases exs
    split at q
    · rename_i b k hk
      split at q
      · rename_i t ks xs hp
        obtain ⟨hk0, nd, hl, q⟩ := q
        have ok1 : Ok X.K A ((kv, y) :: (ov, .pl j p) :: (v, .tmp d) :: τ) σ e H' := ok'.perm (List.Perm.swap _ _ _)
        have rk := ok1.atom hk (kOk_noAl hk0) (fun _ => False)
        obtain ⟨env1, ok2, back⟩ := Ok.at (Ok.drop (as := [(kv, y)]) ok1) hp
        obtain ⟨a, eo⟩ : ∃ a, ov = .ref a := by
          obtain ⟨fa, f0, f2, o, ra, r0⟩ := Ok.cut (as := [(ov, .tmp (.dic true t ks xs))]) ok2
          obtain ⟨a, vs, fp', ea, _⟩ := RpTs.of1 ra
          exact ⟨a, ea⟩
        subst eo
        obtain ⟨o', g, ok3⟩ := Ok.dput1 (k := k) (ok2.perm (List.Perm.swap _ _ _)) (keyV_of rk hk0) nd hl tm.st
        exact ⟨a, _, rfl, g, hR _ _ _ (back ok3) q⟩
      · exact q.elim
    · exact q.elim
  · exact q.elim⟩
end
end Pd

namespace Pd
open PySem L2 PyProof.Rows
/-- texts that are written out are compared as Lean's own -/
theorem strE {a b : String} : (Str.ofString a = Str.ofString b) = (a = b) := by
  refine propext ⟨fun h => ?_, fun h => by rw [h]⟩
  rw [Str.ofString_eq_toList, Str.ofString_eq_toList] at h
  have h1 : a.toList.map Char.toNat = b.toList.map Char.toNat := by injection h with h; injection h
  have inj : ∀ (l m : List Char), l.map Char.toNat = m.map Char.toNat → l = m := by
    intro l
    induction l with
    | nil => intro m h; cases m with
      | nil => rfl
      | cons _ _ => cases h
    | cons x l ih => intro m h; cases m with
      | nil => cases h
      | cons y m =>
        rw [List.map_cons, List.map_cons] at h
        injection h with h1 h2
        have e : x = y := Char.ext (UInt32.toNat_inj.mp h1)
        rw [e, ih m h2]
  exact String.toList_injective (inj _ _ h1)
example : ((("ab" : Str) = ("ac" : Str)) = False) := by simp [strE]
end Pd

namespace Pd
open PySem L2 PyProof.Rows
/-! ### instances: fields -/
/-- f is no name of these classes -/
def FdOk (K : PySem.W.Frag) (Cs : List Str) (f : Str) : Prop := ∀ C ∈ Cs, ∀ Ca, PySem.W.nsIn K mainGlobals C = some (some (.ref Ca)) → Cls K Ca ∧ NoAttr K Ca f
def dFld (Cs : List Str) (f : Str) (ta : TD) : TD := fun env Q W => ta env (fun x e => match x with
  | .pl j p => (match plAt e j p with
    | some (.obj C ns xs) => C ∈ Cs ∧ (match lk ns xs f with
      | some el => if isSh el = true then Q (.tmp el) e else Q (.pl j (p ++ [.fld f])) e
      | none => False)
    | _ => False)
  | _ => False) W
section
variable {X : Cx} {io : List Nat} {m m1 m2 : Bool} {a b o : Expr} {ta to : TD} {pos : Pos} {Cs : List Str} {f : Str}
theorem pd_fld (F : FdOk X.K Cs f) (ha : PD X m a ta) (hb : attributeBase a f X.env (eval a X.env) = eval a X.env := by rfl) : PD X m (.Attribute a f pos) (dFld Cs f ta) := ⟨fun W0 tk => by
  obtain ⟨t1, p1, q1⟩ := ha.ex W0 tk
  refine ⟨_, pe_fld p1 hb, fun A τ σ env H Q W R ok st hW hd hR => ?_⟩
  refine q1 A τ σ env H _ W _ ok st hW hd fun v H1 x e ok1 h1 => ?_
  split at h1
  · rename_i j p
    split at h1
    · rename_i C ns xs hc
      obtain ⟨hC, h1⟩ := h1
      split at h1
      · rename_i el he
        obtain ⟨d, hd, ho, hs⟩ := plAt_of hc
        obtain ⟨f1, f2, o⟩ := id ok1
        obtain ⟨g1, g2, eg, rt, r0⟩ := id o.ts
        obtain ⟨ez, w, hw, hv⟩ := id rt
        subst ez
        obtain ⟨fp, rc, hfp⟩ := o.look hd hs ho hw hv
        obtain ⟨a, dx, vs, fp', rfl, ww, l, ⟨Ca, cn, hh⟩, rr⟩ := rc
        obtain ⟨i, i1, i2⟩ := lk_of he
        obtain ⟨u, g1, fm, g3, e1, e2, e3⟩ := rr.get i2
        have lu : (ns.zip vs).lookup f = some u := by rw [lookup_zip]; exact (lk_at i1).trans e1
        obtain ⟨c1, c2⟩ := F C hC Ca cn
        have ok4 : Ok X.K A τ σ e H1 := Ok.drop (as := [(.ref a, .pl j p)]) ok1
        have okk : Okk X.K A τ σ e H1 g2 f2 := by
          rw [eg] at o
          exact ⟨r0.congr (fun a z => by rw [eg]; exact z), o.en, o.nd, o.un, o.keep, o.anc, o.fix⟩
        refine ⟨a, Ca, dx, _, u, rfl, hh, c1, c2, lu, ?_⟩
        split at h1
        · rename_i hsh
          have z : fm = [] := Rp.sh _ hsh e3
          subst z
          refine hR u H1 (.tmp el) e ⟨[] ++ g2, f2, ⟨[], g2, rfl, ?_, okk.ts⟩, okk.en, okk.nd, okk.un, okk.keep, okk.anc, okk.fix⟩ h1
          rw [eg] at e3
          exact e3
        · exact hR u H1 _ e (ok4.push (x := .pl j (p ++ [.fld f])) fun f' hN => ⟨rfl, w, hw, VAt.snoc hv (show VStep H1 (.ref a) (.fld f) u from ⟨a, Ca, dx, _, rfl, hh, lu⟩)⟩) h1
      · exact h1.elim
    · exact h1.elim
  · exact h1.elim⟩
end
/-- an instance's fields behind o.f = v -/
def fput (ns : List Str) (xs : List D) (f : Str) (d : D) : List Str × List D := match lkI ns f with
  | some i => (ns, xs.set i d)
  | none => (ns ++ [f], xs ++ [d])
theorem putF_zip (f : Str) (v : V) : ∀ (ns : List Str) (vs : List V), ns.length = vs.length →
    (∀ i, lkI ns f = some i → putF f v (ns.zip vs) = ns.zip (vs.set i v)) ∧ (lkI ns f = none → putF f v (ns.zip vs) = (ns ++ [f]).zip (vs ++ [v]))
  | [], [], _ => ⟨fun i e => (nomatch e), fun _ => rfl⟩
  | [], _ :: _, h => by cases h
  | _ :: _, [], h => by cases h
  | g :: ns, w :: vs, h => by
    obtain ⟨h1, h2⟩ := putF_zip f v ns vs (by simpa using h)
    have e : putF f v ((g :: ns).zip (w :: vs)) = if g = f then (g, v) :: ns.zip vs else (g, w) :: putF f v (ns.zip vs) := rfl
    rw [e, lkI]
    by_cases q : g = f
    · rw [if_pos q, if_pos q]
      exact ⟨fun i z => (by cases z; rfl), fun z => (nomatch z)⟩
    · rw [if_neg q, if_neg q]
      refine ⟨fun i z => ?_, fun z => ?_⟩
      · cases c : lkI ns f with
        | none => rw [c] at z; cases z
        | some j => rw [c] at z; cases z; rw [h1 j c]; rfl
      · cases c : lkI ns f with
        | none => rw [h2 c]; rfl
        | some j => rw [c] at z; cases z
section
variable {K : PySem.W.Frag} {A : Anc} {H H' : Hp} {N : Addr → Prop} {σ : St} {env : EnvD} {τ : List (V × T)}
/-- an instance that is a temporary is written -/
theorem Ok.fput1 {y : V} {d : D} {p : Addr} {C f : Str} {ns : List Str} {xs : List D} (ok : Ok K A ((y, .tmp d) :: (.ref p, .tmp (.obj C ns xs)) :: τ) σ env H) (st : stays τ) :
    ∃ Ca dx fs, PySem.W.nsIn K mainGlobals C = some (some (.ref Ca)) ∧ H p = some (.ins Ca dx fs) ∧ fs.length = ns.length ∧ Ok K A ((.ref p, .tmp (.obj C (fput ns xs f d).1 (fput ns xs f d).2)) :: τ) σ env (upd H p (.ins Ca dx (putF f y fs))) := by
  obtain ⟨fa, f0, f2, o, ra, r0⟩ := Ok.cut (as := [(y, .tmp d), (.ref p, .tmp (.obj C ns xs))]) ok
  obtain ⟨fd, fl, rfl, rd, rl⟩ := id ra
  have rl' := RpTs.of1 rl
  obtain ⟨a, dx, vs, fp', ea, ow, ll, ⟨Ca, cn, hh⟩, rr⟩ := rl'
  cases ea
  subst ow
  refine ⟨Ca, dx, _, cn, hh, by rw [List.length_zip, ll, Nat.min_self], ?_⟩
  have mu : Mut (H p) := by rw [hh]; trivial
  obtain ⟨pz1, pz2⟩ := putF_zip f y ns vs ll
  generalize ho' : (HO.ins Ca dx (putF f y (ns.zip vs))) = o'
  have nd := o.ndA
  have nda := List.nodup_append.mp nd
  have nac : p ∉ fp' := (List.nodup_cons.mp nda.2.1).1
  have nad : p ∉ fd := fun h => nda.2.2 p h p List.mem_cons_self rfl
  have kp : ∀ b u, H b = some u → ¬ (b = p) → upd H p o' b = some u := fun b u e n => by rw [upd_ne n]; exact e
  have mm : ∀ b, b = p → Mut (H b) ∧ A.nn (fd ++ p :: fp' ++ f0 ++ f2) b := fun b e => by
    subst e
    exact ⟨mu, .inr (by simp)⟩
  obtain ⟨vs', g, rs, sub, ndg, dO, dL⟩ : ∃ (vs' : List V) (g : List Addr), Rps K H (A.nn (fd ++ p :: fp' ++ f0 ++ f2)) (fput ns xs f d).2 vs' g ∧ (∀ b ∈ g, b ∈ fd ∨ b ∈ fp') ∧ g.Nodup ∧ putF f y (ns.zip vs) = (fput ns xs f d).1.zip vs' ∧ (fput ns xs f d).1.length = vs'.length := by
    unfold fput
    cases e : lkI ns f with
    | none =>
      have r3 := Rps.append rr (Rps.cons rd Rps.nil)
      rw [List.append_nil] at r3
      exact ⟨vs ++ [y], fp' ++ fd, r3, fun b hb => (List.mem_append.mp hb).symm, List.nodup_append.mpr ⟨(List.nodup_cons.mp nda.2.1).2, nda.1, fun b hb c hc e => nda.2.2 c hc b (List.mem_cons_of_mem _ hb) e.symm⟩, pz2 e, by simp [ll]⟩
    | some i =>
      have hi : i < xs.length := by
        have h1 := (List.getElem?_eq_some_iff.mp (lkI_get e)).1
        rw [rr.length, ← ll]; exact h1
      obtain ⟨f1, fm, f2', efp, rs⟩ := Rps.setAt (i := i) rr hi rd
      refine ⟨vs.set i y, f1 ++ fd ++ f2', rs, fun b hb => ?_, ?_, pz1 i e, by rw [List.length_set]; exact ll⟩
      · rw [efp]
        simp only [List.mem_append] at hb ⊢
        rcases hb with (z | z) | z
        · exact .inr (.inl (.inl z))
        · exact .inl z
        · exact .inr (.inr z)
      · have nd1 : (fd ++ (f1 ++ fm ++ f2')).Nodup := by
          rw [efp] at nda
          exact List.nodup_append.mpr ⟨nda.1, (List.nodup_cons.mp nda.2.1).2, fun b hb c hc e => nda.2.2 b hb c (List.mem_cons_of_mem _ hc) e⟩
        have pm : (fd ++ (f1 ++ fm ++ f2')).Perm (fm ++ (f1 ++ fd ++ f2')) := by
          refine List.perm_iff_count.mpr fun a => ?_
          simp only [List.count_append]
          omega
        exact (List.nodup_append.mp (pm.nodup_iff.mp nd1)).2.1
  have sub' : ∀ b, b ∈ (p :: g) → b ∈ fd ++ p :: fp' := fun b hb => by
    rcases List.mem_cons.mp hb with z | z
    · simp [z]
    · rcases sub b z with z | z <;> simp [z]
  have n : ∀ b, A.nn ((p :: g) ++ f0 ++ f2) b → A.nn (fd ++ p :: fp' ++ f0 ++ f2) b ∨ H b = none := fun b z => .inl (z.imp id fun z => by
    rw [List.append_assoc] at z ⊢
    rcases List.mem_append.mp z with z | z
    · exact List.mem_append_left _ (sub' b z)
    · exact List.mem_append_right _ z)
  have npg : p ∉ g := fun h => (sub p h).elim nad nac
  have tt := Okk.turn (M := fun b => b = p) (as' := [(.ref p, .tmp (.obj C (fput ns xs f d).1 (fput ns xs f d).2))]) (fa' := p :: g) (H' := upd H p o') o ra r0 kp (fun b e => by subst e; simp) (.inr st)
    (List.nodup_cons.mpr ⟨npg, ndg⟩) (fun b hb => .inl (sub' b hb)) (RpTs.one ?_)
  · exact ⟨_, _, tt⟩
  · exact ⟨p, dx, vs', g, rfl, rfl, dL, ⟨Ca, cn, by rw [upd_same, ← ho', dO]⟩, Rps.frame (M := fun b => b = p) kp mm n _ (fun b hb e => npg (e ▸ hb)) rs⟩
end
/-- o.f = .., by values -/
def gFldV (K : PySem.W.Frag) (to : TE) (f : Str) : TG := fun v σ H Q => to σ H fun x H1 => ∃ a C dx fs, x = .ref a ∧ H1 a = some (.ins C dx fs) ∧ Cls K C ∧ NoAttr K C f ∧ fs.length < 1000 ∧ Q σ (upd H1 a (.ins C dx (putF f v fs)))
def gFld (Cs : List Str) (f : Str) (to : TD) : TGD := fun d env Q => to env (fun x e => match x with
  | .pl j p => (match plAt e j p with
    | some (.obj C ns xs) => C ∈ Cs ∧ ns.length < 1000 ∧ Q (plPut e j p (.obj C (fput ns xs f d).1 (fput ns xs f d).2))
    | _ => False)
  | _ => False) noW
section
variable {X : Cx} {io : List Nat} {m m1 m2 : Bool} {o : Expr} {to : TD} {pos : Pos} {Cs : List Str} {f : Str}
theorem pg_fldV {to : TE} (ho : PE X o to) (ha : ∀ v, assign (.Attribute o f pos) X.env v = (do
      let ov ← holding [v] (eval o X.env)
      standAt pos.atName
      holding [v, ov] (setAttr ov f v)
      release [v, ov] []) := by intro _; rfl) : PG X (.Attribute o f pos) (gFldV X.K to f) := by
  refine ⟨fun pins s σ H v u Q I r h => ?_⟩
  rw [ha]
  refine wpAny_bind (wpAny_holding (thn (ho.run pins s σ H _ I h) fun ov s1 ⟨x, H1, I1, r1, a, C, dx, fs, ex, ea, c, n, l, q1⟩ => ?_))
  subst ex
  obtain rfl : ov = Value.ref a := r1
  refine wpAny_bind (wpAny_standAt (wpAny_bind (wpAny_holding (setattr_ok I1 ea c n l r fun s3 I3 => ?_))))
  exact wpAny_release ⟨σ, _, I3, q1⟩
theorem pgd_fld (F : FdOk X.K Cs f) (ho : PD X m o to) (ha : ∀ v, assign (.Attribute o f pos) X.env v = (do
      let ov ← holding [v] (eval o X.env)
      standAt pos.atName
      holding [v, ov] (setAttr ov f v)
      release [v, ov] []) := by intro _; rfl) : PGD X io (.Attribute o f pos) (gFld Cs f to) := ⟨by
  obtain ⟨t1, p1, q1⟩ := ho.ex (fun _ _ _ _ => False) takesF
  refine ⟨_, pg_fldV p1 ha, fun A τ σ env H v d Q R ok tm fx hd hR => ?_⟩
  refine q1 A ((v, .tmp d) :: τ) σ env H _ noW _ ok (fun _ => tm.cons.st) (fun _ _ _ _ _ _ _ z => z.elim) hd fun ov H' x e ok' q => ?_
  split at q
  · rename_i j p
    split at q
    · rename_i C ns xs hp
      obtain ⟨hC, hl, q⟩ := q
      obtain ⟨env1, ok2, back⟩ := Ok.at ok' hp
      obtain ⟨a, eo⟩ : ∃ a, ov = .ref a := by
        obtain ⟨fa, f0, f2, o, ra, r0⟩ := Ok.cut (as := [(ov, .tmp (.obj C ns xs))]) ok2
        obtain ⟨a, _, vs, fp', ea, _⟩ := RpTs.of1 ra
        exact ⟨a, ea⟩
      subst eo
      obtain ⟨Ca, dx, fs, cn, hh, le, ok3⟩ := Ok.fput1 (f := f) (ok2.perm (List.Perm.swap _ _ _)) tm.st
      obtain ⟨c1, c2⟩ := F C hC Ca cn
      exact ⟨a, Ca, dx, fs, rfl, hh, c1, c2, by rw [le]; exact hl, hR _ _ _ (back ok3) q⟩
    · exact q.elim
  · exact q.elim⟩
end
end Pd

namespace Pd
open PySem L2 PyProof.Rows
/-! ### methods -/
/-- a method that may be called -/
def CalM (P : Program) (w : World) (K : PySem.W.Frag) (mg : Str → Option Value) (base : Heap) (k : Nat) (C m : Str) (ps : List Str) (S : SD) : Prop :=
  ∃ Ca f fd, PySem.W.nsIn K mainGlobals C = some (some (.ref Ca)) ∧ Cls K Ca ∧ Meth K Ca m f ∧ FnOk P w K mg base (L2.CX P w) k f fd ps (SpD K [0] S) ∧ Binds K fd ps []
theorem CalM.mono {P : Program} {w : World} {K : PySem.W.Frag} {mg : Str → Option Value} {base : Heap} {k j : Nat} {C m : Str} {ps : List Str} {S : SD} (h : CalM P w K mg base k C m ps S) (l : k ≤ j) : CalM P w K mg base j C m ps S := by
  obtain ⟨Ca, f, fd, a, b, c, F, d⟩ := h
  exact ⟨Ca, f, fd, a, b, c, F.mono l, d⟩
/-- x is an instance of C, no attribute of its own is named m -/
def isOb (C m : Str) (x : T) (e : EnvD) : Prop := match x with
  | .pl j p => (match plAt e j p with
    | some (.obj C' ns _) => C' = C ∧ lkI ns m = none
    | _ => False)
  | _ => False
/-- o.m(..): what stands at o's place may change -/
def dMeth (C m : Str) (m2 : Bool) (S : SD) (ta : TD) (ts : TDs) : TD := fun env Q W => ta env (fun x e0 => (m2 = true → x.stay = true) ∧ isOb C m x e0 ∧ ts e0 (fun xs e => match cAs [0] e 0 (x :: xs) with
  | some cs => (cs.filterMap CA.root).Nodup ∧ S (cs.map CA.d) (fun r e' => cback cs e' e fun e2 => Q (.tmp r) e2) (fun ex e' => cback cs e' e fun e2 => W ex e2)
  | none => False) W) W
section
variable {X : Cx} {CX : CXT} {k : Nat} {Ca g : Addr} {fd : FuncData} {ps : List Str} {sp : Sp} {x m C : Str} {p pos apos : Pos} {e o : Expr} {es : List Expr} {ta : TE} {t : TA} {E : St → XK} {S : SD} {m1 m2 : Bool} {td : TD} {ts : TDs}
/-- a method's call, by values, what passes is told by the frame -/
def tMth (Ca : Addr) (m : Str) (sp : Sp) (E : St → XK) (ta : TE) (t : TA) : TE := fun σ H Q => ta σ H fun x H1 => (∃ a dx fs, x = V.ref a ∧ H1 a = some (HO.ins Ca dx fs) ∧ fs.lookup m = none) ∧ t σ H1 fun vs H2 => sp (x :: vs) H2 Q (E σ)
theorem pe_mth {pl : Sem Bool} (ho : PE X o ta) (cl : Cls X.K Ca) (M : Meth X.K Ca m g) (F : FnOk X.prog X.w X.K X.mg X.base CX k g fd ps sp) (rm : Room k X.A) (B : Binds X.K fd ps []) (px : ∀ σ, PassesAt CX X σ (E σ)) (hs : PA X (e :: es) t)
    (h1 : starEach (e :: es) X.env = (false, eval e X.env) :: starEach es X.env := by rfl) (h2 : (backTo pos (starEach es X.env)).any (·.1) = false := by rfl)
    (h3 : eval (.Call (.Attribute o m apos) (e :: es) [] pos) X.env = (do
      let ov ← eval o X.env
      standAt apos.atName
      let (fv, fst) ← holding [ov] (getMethod ov m pl)
      callWith pos fv fst (backTo pos (starEach (e :: es) X.env)) (backToKw pos (keywordEach [] X.env))) := by rfl) :
    PE X (.Call (.Attribute o m apos) (e :: es) [] pos) (tMth Ca m sp E ta t) := by
  refine ⟨fun pn z σ H Q I h => ?_⟩
  refine PySem.W.methodCall_KW (pl := pl) (thn (ho.run pn z σ H _ I h) fun ov z1 ⟨y, H1, I1, ry, ⟨a, dx, fs, ey, ea, nl⟩, q⟩ => ?_) h3
  subst ey
  cases (show ov = Value.ref a from ry)
  refine getmeth_ok I1 ea cl M nl ?_
  refine PySem.W.callWith_K (first := [.ref a]) (h₀ := X.base) I.ok.mod.kin M.kp (thn (hs.run pos pn z1 σ H1 _ I1 q) fun us z2 ⟨vs, H2, I2, rv, q2⟩ => ⟨I2.kIn, ?_⟩) h1 h2
  exact run_fnS F rm B (px σ) I2 (us := Value.ref a :: us) (vs := V.ref a :: vs) (.cons rfl rv) q2
theorem pe_mth0 {pl : Sem Bool} (ho : PE X o ta) (cl : Cls X.K Ca) (M : Meth X.K Ca m g) (F : FnOk X.prog X.w X.K X.mg X.base CX k g fd ps sp) (rm : Room k X.A) (B : Binds X.K fd ps []) (px : ∀ σ, PassesAt CX X σ (E σ))
    (h3 : eval (.Call (.Attribute o m apos) [] [] pos) X.env = (do
      let ov ← eval o X.env
      standAt apos.atName
      let (fv, fst) ← holding [ov] (getMethod ov m pl)
      callWith pos fv fst (backTo pos (starEach [] X.env)) (backToKw pos (keywordEach [] X.env))) := by rfl) :
    PE X (.Call (.Attribute o m apos) [] [] pos) (tMth Ca m sp E ta tNil) := by
  refine ⟨fun pn z σ H Q I h => ?_⟩
  refine PySem.W.methodCall_KW (pl := pl) (thn (ho.run pn z σ H _ I h) fun ov z1 ⟨y, H1, I1, ry, ⟨a, dx, fs, ey, ea, nl⟩, q⟩ => ?_) h3
  subst ey
  cases (show ov = Value.ref a from ry)
  refine getmeth_ok I1 ea cl M nl ?_
  exact PySem.W.callWith_K0 (first := [.ref a]) I1.kIn M.kp (run_fnS F rm B (px σ) I1 (us := [Value.ref a]) (vs := [V.ref a]) (.cons rfl .nil) q)
theorem isOb_at {K : PySem.W.Frag} {A : Anc} {τ : List (V × T)} {σ : St} {env : EnvD} {H : Hp} {v : V} {y : T} (ok : Ok K A ((v, y) :: τ) σ env H) (h : isOb C m y env) (cn : PySem.W.nsIn K mainGlobals C = some (some (.ref Ca))) : ∃ a dx fs, v = V.ref a ∧ H a = some (HO.ins Ca dx fs) ∧ fs.lookup m = none := by
  unfold isOb at h
  split at h
  · rename_i j p
    split at h
    · rename_i C' ns xs hc
      obtain ⟨rfl, nl⟩ := h
      obtain ⟨env1, ok2, _⟩ := Ok.at ok hc
      obtain ⟨fa, f0, f2, o, ra, r0⟩ := Ok.cut (as := [(v, .tmp (.obj C' ns xs))]) ok2
      obtain ⟨a, dx, vs, fp', rfl, ww, l, ⟨Ca', cn', hh⟩, rr⟩ := RpTs.of1 ra
      rw [cn] at cn'
      cases cn'
      refine ⟨a, dx, _, rfl, hh, ?_⟩
      rw [lookup_zip]
      unfold lk
      rw [nl]; rfl
    · exact h.elim
  · exact h.elim
theorem pd_meth {pl : Sem Bool} (C0 : CalM X.prog X.w X.K X.mg X.base k C m ps S) (rm : Room k X.A) (ho : PD X m1 o td) (hs : PDs X m2 (e :: es) ts)
    (h1 : starEach (e :: es) X.env = (false, eval e X.env) :: starEach es X.env := by rfl) (h2 : (backTo pos (starEach es X.env)).any (·.1) = false := by rfl)
    (h3 : eval (.Call (.Attribute o m apos) (e :: es) [] pos) X.env = (do
      let ov ← eval o X.env
      standAt apos.atName
      let (fv, fst) ← holding [ov] (getMethod ov m pl)
      callWith pos fv fst (backTo pos (starEach (e :: es) X.env)) (backToKw pos (keywordEach [] X.env))) := by rfl) :
    PD X true (.Call (.Attribute o m apos) (e :: es) [] pos) (dMeth C m m2 S td ts) := ⟨fun W0 tk => by
  obtain ⟨Ca, g, fd, cn, cl, M, F, B⟩ := C0
  obtain ⟨t1, p1, q1⟩ := ho.ex W0 tk
  obtain ⟨t2, p2, q2⟩ := hs.ex W0 tk
  refine ⟨_, pe_mth (E := WE W0) (pl := pl) p1 cl M F rm B (fun σ => passAt tk σ) p2 h1 h2 h3, fun A τ σ env H Q W R ok st hW hd hR => ?_⟩
  refine q1 A τ σ env H _ W _ ok (fun _ => st rfl) hW hd fun v H1 x e0 ok1 ⟨sx, hi, hq⟩ => ⟨isOb_at ok1 hi cn, ?_⟩
  refine q2 A ((v, x) :: τ) σ e0 H1 _ W _ ok1 (fun z => stays_cons (sx z) (st rfl)) (HW.pop (as := [(v, x)]) hW) hq fun as H2 e2 ok2 q => ?_
  split at q
  · rename_i cs hc
    exact Ok.callIO (as := (v, x) :: as) (k := Q) (W := W) (ok2.perm List.perm_middle) (st rfl) hc q.1 q.2 hW fun u y env' H' ok' hk => hR u H' y env' ok' hk
  · exact q.elim⟩
theorem pd_meth0 {pl : Sem Bool} (C0 : CalM X.prog X.w X.K X.mg X.base k C m ps S) (rm : Room k X.A) (ho : PD X m1 o td)
    (h3 : eval (.Call (.Attribute o m apos) [] [] pos) X.env = (do
      let ov ← eval o X.env
      standAt apos.atName
      let (fv, fst) ← holding [ov] (getMethod ov m pl)
      callWith pos fv fst (backTo pos (starEach [] X.env)) (backToKw pos (keywordEach [] X.env))) := by rfl) :
    PD X true (.Call (.Attribute o m apos) [] [] pos) (dMeth C m false S td dNil) := ⟨fun W0 tk => by
  obtain ⟨Ca, g, fd, cn, cl, M, F, B⟩ := C0
  obtain ⟨t1, p1, q1⟩ := ho.ex W0 tk
  refine ⟨_, pe_mth0 (E := WE W0) (pl := pl) p1 cl M F rm B (fun σ => passAt tk σ) h3, fun A τ σ env H Q W R ok st hW hd hR => ?_⟩
  refine q1 A τ σ env H _ W _ ok (fun _ => st rfl) hW hd fun v H1 x e0 ok1 ⟨sx, hi, q⟩ => ⟨isOb_at ok1 hi cn, ?_⟩
  have q : match cAs [0] e0 0 [x] with
    | some cs => (cs.filterMap CA.root).Nodup ∧ S (cs.map CA.d) (fun r e' => cback cs e' e0 fun e2 => Q (.tmp r) e2) (fun ex e' => cback cs e' e0 fun e2 => W ex e2)
    | none => False := q
  split at q
  · rename_i cs hc
    exact Ok.callIO (as := [(v, x)]) (k := Q) (W := W) ok1 (st rfl) hc q.1 q.2 hW fun u y env' H' ok' hk => hR u H' y env' ok' hk
  · exact q.elim⟩
end
end Pd

namespace Pd
open PySem L2 PyProof.Rows
/-! ### a new instance -/
section
variable {K : PySem.W.Frag} {A : Anc} {H H' : Hp} {N : Addr → Prop} {σ : St} {env : EnvD} {τ : List (V × T)} {v : V} {d : D}
/-- all places are of the frame -/
def plIn (n : Nat) (τ : List (V × T)) : Prop := ∀ x ∈ τ, ∀ j p, x.2 = .pl j p → j < n
theorem RpTs.plIn : ∀ {τ : List (V × T)} {f : List Addr}, RpTs K H σ N τ f → Pd.plIn σ.length τ
  | [], f, _ => by intro x hx; cases hx
  | y :: τ, f, h => by
    obtain ⟨f1, f2, e, r1, r2⟩ := h
    intro x hx j p ex
    rcases List.mem_cons.mp hx with rfl | hx
    · rw [ex] at r1
      obtain ⟨_, w, hw, _⟩ := r1
      exact (List.getElem?_eq_some_iff.mp hw).1
    · exact RpTs.plIn r2 x hx j p ex
theorem RpTs.wide {s : St} : ∀ {τ : List (V × T)} {f : List Addr}, RpTs K H σ N τ f → RpTs K H (σ ++ s) N τ f
  | [], f, h => h
  | (v, x) :: τ, f, h => by
    obtain ⟨f1, f2, e, r1, r2⟩ := h
    refine ⟨f1, f2, e, ?_, RpTs.wide r2⟩
    cases x with
    | tmp d => exact r1
    | bor d => exact r1
    | pl j p =>
      obtain ⟨z, w, hw, hv⟩ := r1
      exact ⟨z, w, by rw [List.getElem?_append_left (List.getElem?_eq_some_iff.mp hw).1]; exact hw, hv⟩
theorem RpTs.slim {s : St} : ∀ {τ : List (V × T)} {f : List Addr}, Pd.plIn σ.length τ → RpTs K H (σ ++ s) N τ f → RpTs K H σ N τ f
  | [], f, _, h => h
  | (v, x) :: τ, f, pi, h => by
    obtain ⟨f1, f2, e, r1, r2⟩ := h
    refine ⟨f1, f2, e, ?_, RpTs.slim (fun y hy => pi y (List.mem_cons_of_mem _ hy)) r2⟩
    cases x with
    | tmp d => exact r1
    | bor d => exact r1
    | pl j p =>
      obtain ⟨z, w, hw, hv⟩ := r1
      refine ⟨z, w, ?_, hv⟩
      rw [List.getElem?_append_left (pi _ List.mem_cons_self j p rfl)] at hw
      exact hw
theorem RpE.wide : ∀ {env : EnvD} {σ : St} {f g : List Addr}, RpE K H N env σ f → Rp K H N d v g → RpE K H N (env ++ [some d]) (σ ++ [some v]) (f ++ g)
  | [], σ, f, g, h, r => by
    rw [h.1, h.2]
    exact ⟨some v, [], g, [], rfl, by simp, r, rfl, rfl⟩
  | x :: env, σ, f, g, h, r => by
    obtain ⟨u, σ', f1, f2, rfl, rfl, r1, r2⟩ := h
    exact ⟨u, σ' ++ [some v], f1, f2 ++ g, rfl, by rw [List.append_assoc], r1, RpE.wide r2 r⟩
theorem RpE.slim : ∀ {env : EnvD} {σ : St} {f : List Addr}, env.length = σ.length → RpE K H N (env ++ [some d]) (σ ++ [some v]) f → ∃ f1 f2, f = f1 ++ f2 ∧ RpE K H N env σ f1 ∧ Rp K H N d v f2
  | [], [], f, _, h => by
    obtain ⟨u, σ', f1, f2, e, rfl, r1, r2⟩ := h
    cases e
    rw [r2.2, List.append_nil]
    exact ⟨[], f1, rfl, ⟨rfl, rfl⟩, r1⟩
  | [], _ :: _, f, l, h => by cases l
  | _ :: _, [], f, l, h => by cases l
  | x :: env, y :: σ, f, l, h => by
    obtain ⟨u, σ', f1, f2, e, rfl, r1, r2⟩ := h
    cases e
    obtain ⟨g1, g2, rfl, q1, q2⟩ := RpE.slim (by simpa using l) r2
    exact ⟨f1 ++ g1, g2, by rw [List.append_assoc], ⟨_, _, f1, g1, rfl, rfl, r1, q1⟩, q2⟩
/-- the top one becomes a slot -/
theorem Ok.wide (ok : Ok K A ((v, .tmp d) :: τ) σ env H) : Ok K A τ (σ ++ [some v]) (env ++ [some d]) H := by
  obtain ⟨fa, f0, f2, o, ra, r0⟩ := Ok.cut (as := [(v, .tmp d)]) ok
  have rd := RpTs.of1 ra
  have pm : (f0 ++ (f2 ++ fa)).Perm (fa ++ f0 ++ f2) := by
    refine List.perm_iff_count.mpr fun a => ?_
    simp only [List.count_append]
    omega
  have iff : ∀ a, a ∈ f0 ++ (f2 ++ fa) ↔ a ∈ fa ++ f0 ++ f2 := fun a => pm.mem_iff
  have n : ∀ a, A.nn (f0 ++ (f2 ++ fa)) a → A.nn (fa ++ f0 ++ f2) a := fun a z => z.imp id (iff a).mp
  refine ⟨f0, f2 ++ fa, RpTs.wide (r0.congr n), RpE.wide (o.en.congr n) (Rp.grow rd (Ext.refl H) fun a z => .inl (n a z)), pm.nodup_iff.mpr o.nd, fun a ha => o.un a ((iff a).mp ha), o.keep, o.anc, fun q hq => ?_⟩
  have hf := o.fix q hq
  rw [List.getElem?_append_left (List.getElem?_eq_some_iff.mp hf).1]
  exact hf
theorem Ok.slim (l : env.length = σ.length) (pi : plIn σ.length τ) (fx : ∀ q ∈ A.fx, q.1 < σ.length) (ok : Ok K A τ (σ ++ [some v]) (env ++ [some d]) H) : Ok K A ((v, .tmp d) :: τ) σ env H := by
  obtain ⟨f1, f2, o⟩ := ok
  obtain ⟨g1, g2, rfl, re, rd⟩ := RpE.slim l o.en
  have pm : ((g2 ++ f1) ++ g1).Perm (f1 ++ (g1 ++ g2)) := by
    refine List.perm_iff_count.mpr fun a => ?_
    simp only [List.count_append]
    omega
  have iff : ∀ a, a ∈ (g2 ++ f1) ++ g1 ↔ a ∈ f1 ++ (g1 ++ g2) := fun a => pm.mem_iff
  have n : ∀ a, A.nn ((g2 ++ f1) ++ g1) a → A.nn (f1 ++ (g1 ++ g2)) a := fun a z => z.imp id (iff a).mp
  refine ⟨g2 ++ f1, g1, ⟨g2, f1, rfl, Rp.grow rd (Ext.refl H) fun a z => .inl (n a z), (RpTs.slim pi o.ts).congr n⟩, re.congr n, pm.nodup_iff.mpr o.nd, fun a ha => o.un a ((iff a).mp ha), o.keep, o.anc, fun q hq => ?_⟩
  have hf := o.fix q hq
  rw [List.getElem?_append_left (fx q hq)] at hf
  exact hf
end
/-! views as arguments -/
theorem vw_wide {e : EnvD} {y : Option D} {x : T} {r : Bool × D} (h : x.vw e = some r) : x.vw (e ++ [y]) = some r := by
  cases x with
  | tmp d => exact h
  | bor d => exact h
  | pl j p =>
    simp only [T.vw] at h ⊢
    cases q : e[j]? with
    | none => rw [q] at h; cases h
    | some z => rw [List.getElem?_append_left (List.getElem?_eq_some_iff.mp q).1, q]; rw [q] at h; exact h
theorem cAs_wide {y : Option D} : ∀ {xs : List T} {e : EnvD} {k : Nat} {cs : List CA}, cAs [] e k xs = some cs → cAs [0] (e ++ [y]) (k + 1) xs = some cs
  | [], e, k, cs, h => h
  | x :: xs, e, k, cs, h => by
    rw [cAs] at h ⊢
    have d1 : decide (k ∈ ([] : List Nat)) = false := by simp
    have d2 : decide (k + 1 ∈ [0]) = false := by simp
    rw [d1] at h
    rw [d2]
    split at h
    · rename_i c hc
      have hc' : cA false (e ++ [y]) x = some c := by
        unfold cA at hc ⊢
        rw [if_neg (by simp)] at hc ⊢
        split at hc
        · rename_i dd hv
          rw [vw_wide hv]; exact hc
        · cases hc
      rw [hc']
      split at h
      · rename_i cs' hcs
        rw [cAs_wide hcs]; exact h
      · cases h
    · cases h
theorem cAs_vws : ∀ {xs : List T} {e : EnvD} {k : Nat} {cs : List CA}, cAs [] e k xs = some cs → ∀ c ∈ cs, ∃ d, c = .vw d
  | [], e, k, cs, h => by cases h; intro c hc; cases hc
  | x :: xs, e, k, cs, h => by
    rw [cAs] at h
    have d1 : decide (k ∈ ([] : List Nat)) = false := by simp
    rw [d1] at h
    split at h
    · rename_i c hc
      split at h
      · rename_i cs' hcs
        cases h
        intro c' hc'
        rcases List.mem_cons.mp hc' with rfl | hc'
        · unfold cA at hc
          rw [if_neg (by simp)] at hc
          split at hc
          · cases hc; exact ⟨_, rfl⟩
          · cases hc
        · exact cAs_vws hcs c' hc'
      · cases h
    · cases h
def nback : List CA → EnvD → Prop
  | [], _ => True
  | _ :: cs, _ :: e => nback cs e
  | _, _ => False
theorem cback_vws {Q : EnvD → Prop} {e : EnvD} : ∀ {cs : List CA} {e1 : EnvD}, (∀ c ∈ cs, ∃ d, c = .vw d) → (cback cs e1 e Q ↔ nback cs e1 ∧ Q e)
  | [], e1, _ => by
    have : cback [] e1 e Q ↔ Q e := by cases e1 <;> exact Iff.rfl
    rw [this]
    exact ⟨fun q => ⟨trivial, q⟩, fun q => q.2⟩
  | c :: cs, [], hv => by
    obtain ⟨d, rfl⟩ := hv c List.mem_cons_self
    exact ⟨fun z => z.elim, fun z => z.1.elim⟩
  | c :: cs, z :: e1, hv => by
    obtain ⟨d, rfl⟩ := hv c List.mem_cons_self
    have r : cback cs e1 e Q ↔ nback cs e1 ∧ Q e := cback_vws fun c hc => hv c (List.mem_cons_of_mem _ hc)
    cases z <;> exact r
theorem root_vws : ∀ {cs : List CA}, (∀ c ∈ cs, ∃ d, c = .vw d) → cs.filterMap CA.root = []
  | [], _ => rfl
  | c :: cs, hv => by
    obtain ⟨d, rfl⟩ := hv c List.mem_cons_self
    rw [List.filterMap_cons]
    exact root_vws (cs := cs) fun c hc => hv c (List.mem_cons_of_mem _ hc)
/-- a class that may be made -/
def CalC (P : Program) (w : World) (K : PySem.W.Frag) (mg : Str → Option Value) (base : Heap) (k : Nat) (C : Str) (ps : List Str) (S : SD) : Prop :=
  ∃ Ca f fd, PySem.W.nsIn K mainGlobals C = some (some (.ref Ca)) ∧ mg C = some (.ref Ca) ∧ Mk K Ca f ∧ FnOk P w K mg base (L2.CX P w) k f fd ps (SpD K [0] S) ∧ Binds K fd ps []
theorem CalC.mono {P : Program} {w : World} {K : PySem.W.Frag} {mg : Str → Option Value} {base : Heap} {k j : Nat} {C : Str} {ps : List Str} {S : SD} (h : CalC P w K mg base k C ps S) (l : k ≤ j) : CalC P w K mg base j C ps S := by
  obtain ⟨Ca, f, fd, a, b, c, F, d⟩ := h
  exact ⟨Ca, f, fd, a, b, c, F.mono l, d⟩
/-- C(..) -/
def dMake (C : Str) (S : SD) (ts : TDs) : TD := fun env Q W => ts env (fun xs e => match cAs [] e 0 xs with
  | some cs => S (.obj C [] [] :: cs.map CA.d) (fun r e' => match e' with
      | some d' :: e1 => nback cs e1 ∧ r = .non ∧ Q (.tmp d') e
      | _ => False) (fun ex e' => match e' with
      | some _ :: e1 => nback cs e1 ∧ W ex e
      | _ => False)
  | none => False) W
section
variable {X : Cx} {CX : CXT} {k : Nat} {Ca g : Addr} {fd : FuncData} {ps : List Str} {sp : Sp} {x C : Str} {p pos : Pos} {e : Expr} {es : List Expr} {t : TA} {E : St → XK} {S : SD} {m : Bool} {ts : TDs}
def tNew (Ca : Addr) (sp : Sp) (E : St → XK) (t : TA) : TE := fun σ H Q => t σ H fun vs H1 => ∀ a dx, H1 a = none → H1 dx = none → dx ≠ a →
  sp (.ref a :: vs) (upd (upd H1 dx (.own a)) a (.ins Ca dx [])) (fun r H2 => r = .non ∧ Q (.ref a) H2) (E σ)
theorem run_new {pn : List (Addr × Obj)} {σ : St} {H : Hp} {z : Shared} {Q : VK} {us : List Value} {vs : List V} {E1 : XK} (M : Mk X.K Ca g) (F : FnOk X.prog X.w X.K X.mg X.base CX k g fd ps sp) (rm : Room (k + 1) X.A) (B : Binds X.K fd ps []) (px : PassesAt CX X σ E1)
    (I : Inv X pn σ H z) (rv : Vals vs us) (h : ∀ a dx, H a = none → H dx = none → dx ≠ a → sp (.ref a :: vs) (upd (upd H dx (.own a)) a (.ins Ca dx [])) (fun r H2 => r = .non ∧ Q (.ref a) H2) E1) :
    wpAny (model X.prog X.w) X.A (call (.ref Ca) us) (EP X pn σ Q) X.xe z := by
  have n0 := I.hok.fresh (Nat.le_refl z.heap.objs.size)
  have n1 := I.hok.fresh (Nat.le_succ z.heap.objs.size)
  have q0 := h (z.heap.objs.size + 1) z.heap.objs.size n1 n0 (Nat.ne_of_lt (Nat.lt_succ_self _))
  have J := Inv.made (C := Ca) I
  have rv2 : Vals (V.ref (z.heap.objs.size + 1) :: vs) (Value.ref (z.heap.objs.size + 1) :: us) := .cons rfl rv
  have len : (Value.ref (z.heap.objs.size + 1) :: us).length = ps.length := rv2.length.symm.trans (F.len _ _ _ _ q0)
  have bt := B _ (Value.ref (z.heap.objs.size + 1) :: us) J.kIn (by rw [List.append_nil]; exact len)
  rw [List.append_nil] at bt
  refine wpAny_call (make_map (f := g) I.kIn M.makes M.init (beq_iff_eq.mp M.fn) (codeAny_mono (F.run _ X.stack _ _ _ _ _ _ E1 (rm.make Ca us []) (J.env0.make Ca us []) bt rv2 q0) fun r z2 hz => ?_))
  rcases r with ex | fl
  · exact px pn _ _ ex z2 J hz
  · cases fl with
    | ret u =>
      obtain ⟨y, H2, J2, ry, ey, q3⟩ := J.after hz
      subst ey
      exact ⟨ry, ⟨V.ref (z.heap.objs.size + 1), H2, J2, rfl, q3⟩⟩
    | _ => exact (show False from hz).elim
theorem pe_new (M : Mk X.K Ca g) (F : FnOk X.prog X.w X.K X.mg X.base CX k g fd ps sp) (rm : Room (k + 1) X.A) (hg : Gl X x) (hm : X.mg x = some (.ref Ca)) (B : Binds X.K fd ps []) (px : ∀ σ, PassesAt CX X σ (E σ)) (ha : PA X (e :: es) t)
    (h0 : (x == ("__debug__" : Str)) = false := by decide) (h1 : starEach (e :: es) X.env = (false, eval e X.env) :: starEach es X.env := by rfl) (h2 : (backTo pos (starEach es X.env)).any (·.1) = false := by rfl) :
    PE X (.Call (.Name x p) (e :: es) [] pos) (tNew Ca sp E t) := by
  refine ⟨fun pn z σ H Q I h => wpAny_Call_Name_kw (ld_glob I hg hm ?_ h0)⟩
  exact PySem.W.callWith_K (h₀ := X.base) I.ok.mod.kin M.kp (thn (ha.run pos pn z σ H _ I h) fun us z1 ⟨vs, H1, I1, r, q⟩ => ⟨I1.kIn, run_new M F rm B (px σ) I1 r q⟩) h1 h2
theorem pe_new0 (M : Mk X.K Ca g) (F : FnOk X.prog X.w X.K X.mg X.base CX k g fd ps sp) (rm : Room (k + 1) X.A) (hg : Gl X x) (hm : X.mg x = some (.ref Ca)) (B : Binds X.K fd ps []) (px : ∀ σ, PassesAt CX X σ (E σ))
    (h0 : (x == ("__debug__" : Str)) = false := by decide) : PE X (.Call (.Name x p) [] [] pos) (tNew Ca sp E tNil) := by
  refine ⟨fun pn z σ H Q I h => wpAny_Call_Name_kw (ld_glob I hg hm ?_ h0)⟩
  exact PySem.W.callWith_K0 I.kIn M.kp (run_new (us := []) M F rm B (px σ) I .nil h)
/-- what the promise of __init__ wants -/
theorem new_go {W0 : L2.WX} {A : Anc} {as τ : List (V × T)} {σ : St} {env : EnvD} {H : Hp} {Q : T → EnvD → Prop} {W : WD} {R : VK} {cs : List CA} {a dx : Addr} {K : PySem.W.Frag} (ok : Ok K A (as ++ τ) σ env H) (st : stays τ) (cn : PySem.W.nsIn K mainGlobals C = some (some (.ref Ca)))
    (hc : cAs [] env 0 (as.map (·.2)) = some cs) (h : S (.obj C [] [] :: cs.map CA.d) (fun r e' => match e' with
      | some d' :: e1 => nback cs e1 ∧ r = .non ∧ Q (.tmp d') env
      | _ => False) (fun ex e' => match e' with
      | some _ :: e1 => nback cs e1 ∧ W ex env
      | _ => False)) (hW : HW K W0 A τ σ W) (hR : ∀ v H' x env', Ok K A ((v, x) :: τ) σ env' H' → Q x env' → R v H') (ha : H a = none) (hd : H dx = none) (ne : dx ≠ a) :
    SpD K [0] S (.ref a :: as.map (·.1)) (upd (upd H dx (.own a)) a (.ins Ca dx [])) (fun r H2 => r = .non ∧ R (.ref a) H2) (WE W0 σ) := by
  have pi : plIn σ.length τ := by
    obtain ⟨fa, f0, f2, o, ra, r0⟩ := Ok.cut ok
    exact r0.plIn
  have fx : ∀ q ∈ A.fx, q.1 < σ.length := by
    obtain ⟨f1, f2, o⟩ := id ok
    exact fun q hq => (List.getElem?_eq_some_iff.mp (o.fix q hq)).1
  have le : env.length = σ.length := Ok.len ok
  have ha' : upd H dx (.own a) a = none := by rw [upd_ne (Ne.symm ne)]; exact ha
  have ok1 : Ok K A (as ++ τ) σ env (upd H dx (.own a)) := ok.ext (Ext.upd hd)
  have ok2 : Ok K A ((.ref a, .tmp (.obj C [] [])) :: (as ++ τ)) σ env (upd (upd H dx (.own a)) a (.ins Ca dx [])) := Ok.mk (as := []) (ds := []) (vs := []) (o := .ins Ca dx []) (d := .obj C [] []) ok1 rfl ha' [a] (.inr rfl) fun N fp r => ⟨a, dx, [], fp, rfl, rfl, rfl, ⟨Ca, cn, upd_same⟩, r⟩
  have ok3 := ok2.wide
  have gt : (env ++ [some (D.obj C [] [])])[env.length]? = some (some (.obj C [] [])) := by rw [List.getElem?_append_right (Nat.le_refl _), Nat.sub_self]; rfl
  have gs : (σ ++ [some (V.ref a)])[env.length]? = some (some (.ref a)) := by rw [le, List.getElem?_append_right (Nat.le_refl _), Nat.sub_self]; rfl
  have ok4 : Ok K A (((.ref a, .pl env.length []) :: as) ++ τ) (σ ++ [some (.ref a)]) (env ++ [some (.obj C [] [])]) (upd (upd H dx (.own a)) a (.ins Ca dx [])) := ok3.push (x := .pl env.length []) fun f _ => ⟨rfl, _, gs, rfl⟩
  have hv := cAs_vws hc
  have hc4 : cAs [0] (env ++ [some (.obj C [] [])]) 0 (((V.ref a, T.pl env.length []) :: as).map (·.2)) = some (.io env.length [] (.obj C [] []) (.obj C [] []) :: cs) := by
    rw [List.map_cons, cAs]
    have d1 : decide (0 ∈ [0]) = true := by simp
    rw [d1, cAs_wide hc]
    unfold cA
    rw [if_pos rfl]
    simp only [gt, owp, D.subs]
    rfl
  have setl : ∀ y : Option D, (env ++ [some (D.obj C [] [])]).set env.length y = env ++ [y] := fun y => by
    rw [List.set_append_right _ _ (Nat.le_refl _), Nat.sub_self]; rfl
  refine Ok.callIO (W0 := fun cls d _ H' => W0 cls d σ H') (as := (.ref a, .pl env.length []) :: as) (k := fun y e2 => ∃ d', y = .tmp .non ∧ e2 = env ++ [some d'] ∧ Q (.tmp d') env) (W := fun ex e2 => ∃ d', e2 = env ++ [some d'] ∧ W ex env) ok4 st hc4 ?_ ?_ ?_ ?_
  · rw [List.filterMap_cons]
    show (env.length :: cs.filterMap CA.root).Nodup
    rw [root_vws hv]; simp
  · have e1 : (fun (r : D) (e' : EnvD) => match e' with
        | some d' :: e1 => nback cs e1 ∧ r = .non ∧ Q (.tmp d') env
        | _ => False) = fun r e' => cback (.io env.length [] (.obj C [] []) (.obj C [] []) :: cs) e' (env ++ [some (.obj C [] [])]) fun e2 => ∃ d', T.tmp r = .tmp .non ∧ e2 = env ++ [some d'] ∧ Q (.tmp d') env := by
      funext r e'
      refine propext ?_
      cases e' with
      | nil => exact Iff.rfl
      | cons z e1 =>
        cases z with
        | none => exact Iff.rfl
        | some d' =>
          show _ ↔ cback cs e1 ((env ++ [some (D.obj C [] [])]).set env.length (some d')) _
          rw [setl, cback_vws hv]
          constructor
          · rintro ⟨a, rfl, b⟩; exact ⟨a, d', rfl, rfl, b⟩
          · rintro ⟨a, d2, b, c, e⟩
            have c' := List.append_cancel_left c
            cases b; cases c'
            exact ⟨a, rfl, e⟩
    have e2 : (fun (ex : Exn) (e' : EnvD) => match e' with
        | some _ :: e1 => nback cs e1 ∧ W ex env
        | _ => False) = fun ex e' => cback (.io env.length [] (.obj C [] []) (.obj C [] []) :: cs) e' (env ++ [some (.obj C [] [])]) fun e2 => ∃ d', e2 = env ++ [some d'] ∧ W ex env := by
      funext r e'
      refine propext ?_
      cases e' with
      | nil => exact Iff.rfl
      | cons z e1 =>
        cases z with
        | none => exact Iff.rfl
        | some d' =>
          show _ ↔ cback cs e1 ((env ++ [some (D.obj C [] [])]).set env.length (some d')) _
          rw [setl, cback_vws hv]
          constructor
          · rintro ⟨a, b⟩; exact ⟨a, d', rfl, b⟩
          · rintro ⟨a, d2, c, e⟩; exact ⟨a, e⟩
    rw [e1, e2] at h
    exact h
  · rintro env' H' ex cls d okr e ⟨d', rfl, w⟩
    exact hW env H' ex cls d (Ok.drop (as := [_]) (Ok.slim le pi fx okr)) e w
  · rintro v y env' H' okr ⟨d', rfl, rfl, q⟩
    have ev : v = .non := by
      obtain ⟨fa, f0, f2, o, ra, r0⟩ := Ok.cut (as := [(v, .tmp .non)]) okr
      exact (RpTs.of1 ra).1
    exact ⟨ev, hR _ H' _ env (Ok.slim le pi fx (Ok.drop (as := [_]) okr)) q⟩
theorem pd_make (C0 : CalC X.prog X.w X.K X.mg X.base k C ps S) (rm : Room (k + 1) X.A) (hg : Gl X C) (ha : PDs X m (e :: es) ts)
    (h0 : (C == ("__debug__" : Str)) = false := by decide) (h1 : starEach (e :: es) X.env = (false, eval e X.env) :: starEach es X.env := by rfl) (h2 : (backTo pos (starEach es X.env)).any (·.1) = false := by rfl) :
    PD X true (.Call (.Name C p) (e :: es) [] pos) (dMake C S ts) := ⟨fun W0 tk => by
  obtain ⟨Ca, g, fd, cn, hm, M, F, B⟩ := C0
  obtain ⟨t1, p1, q1⟩ := ha.ex W0 tk
  refine ⟨_, pe_new (E := WE W0) M F rm hg hm B (fun σ => passAt tk σ) p1 h0 h1 h2, fun A τ σ env H Q W R ok st hW hd hR => ?_⟩
  refine q1 A τ σ env H _ W _ ok (fun _ => st rfl) hW hd fun as H1 e1 ok1 q a dx n1 n2 ne => ?_
  split at q
  · rename_i cs hc
    exact new_go ok1 (st rfl) cn hc q hW hR n1 n2 ne
  · exact q.elim⟩
theorem pd_make0 (C0 : CalC X.prog X.w X.K X.mg X.base k C ps S) (rm : Room (k + 1) X.A) (hg : Gl X C) (h0 : (C == ("__debug__" : Str)) = false := by decide) :
    PD X true (.Call (.Name C p) [] [] pos) (dMake C S dNil) := ⟨fun W0 tk => by
  obtain ⟨Ca, g, fd, cn, hm, M, F, B⟩ := C0
  refine ⟨_, pe_new0 (E := WE W0) M F rm hg hm B (fun σ => passAt tk σ) h0, fun A τ σ env H Q W R ok st hW hd hR => ?_⟩
  intro a dx n1 n2 ne
  exact new_go (as := []) (cs := []) ok (st rfl) cn rfl hd hW hR n1 n2 ne⟩
end
end Pd

namespace Pd
open PySem L2 PyProof.Rows
/-! ### o.f op= v -/
def sFAug (Cs : List Str) (f : Str) (fn : Fn) (to tv : TD) : TSD := fun De env W => to env (fun x e0 => match x with
  | .pl j p => (match plAt e0 j p with
    | some (.obj C ns xs) => C ∈ Cs ∧ ns.length < 1000 ∧ (match lk ns xs f with
      | some el => isSh el = true ∧ tv e0 (fun y e => vws e [.tmp el, y] fun b ds => fn ds fun d => match (resT b d).tk e with
        | some (d', e') => (match plAt e' j p with
          | some (.obj C' ns' xs') => C' = C ∧ ns'.length = ns.length ∧ De.nx (plPut e' j p (.obj C' (fput ns' xs' f d').1 (fput ns' xs' f d').2))
          | _ => False)
        | none => False) W
      | none => False)
    | _ => False)
  | _ => False) W
section
variable {X : Cx} {io : List Nat} {m : Bool} {o v : Expr} {to tv : TD} {pos tpos : Pos} {Cs : List Str} {f : Str} {op : Operator} {r : R2} {fn : Fn}
theorem psd_fldaug (F : FdOk X.K Cs f) (hop : OpR X (inplaceOp op) r) (s : Snd X.K (r2 r) fn) (ho : PD X m o to) (hv : PD X false v tv) : PSD X io (.AugAssign (.Attribute o f tpos) op v pos) (sFAug Cs f fn to tv) := ⟨fun W0 tk => by
  obtain ⟨t1, p1, q1⟩ := ho.ex W0 tk
  obtain ⟨t2, p2, q2⟩ := hv.ex W0 tk
  refine ⟨_, ps_fldaug (rd := r) p1 p2 (fun pins s σ H x y v u Q I rx ry q => hop pins s σ H x y v u Q I rx ry q), fun A τ σ env H De W E ok tm fx hW h ee => ?_⟩
  refine q1 A τ σ env H _ W _ ok (fun _ => tm.st) (hW σ) h fun ov H1 x e0 ok1 h1 => ?_
  split at h1
  · rename_i j p
    split at h1
    · rename_i C ns xs hc
      obtain ⟨hC, hl, h1⟩ := h1
      split at h1
      · rename_i el he
        obtain ⟨hsh, h1⟩ := h1
        obtain ⟨d, hd, ho', hs⟩ := plAt_of hc
        obtain ⟨f1, f2, o'⟩ := id ok1
        obtain ⟨g1, g2, eg, rt, r0⟩ := id o'.ts
        obtain ⟨ez, w, hw, hv'⟩ := id rt
        subst ez
        obtain ⟨fp, rc, hfp⟩ := o'.look hd hs ho' hw hv'
        obtain ⟨a, dx, vs, fp', rfl, ww, l, ⟨Ca, cn, hh⟩, rr⟩ := rc
        obtain ⟨i, i1, i2⟩ := lk_of he
        obtain ⟨u, g1, fm, g3, e1, e2, e3⟩ := rr.get i2
        have lu : (ns.zip vs).lookup f = some u := by rw [lookup_zip]; exact (lk_at i1).trans e1
        obtain ⟨c1, c2⟩ := F C hC Ca cn
        have z : fm = [] := Rp.sh _ hsh e3
        subst z
        have ok2 : Ok X.K A ((u, .tmp el) :: (.ref a, .pl j p) :: τ) σ e0 H1 := ⟨f1, f2, ⟨[], f1, rfl, e3, o'.ts⟩, o'.en, o'.nd, o'.un, o'.keep, o'.anc, o'.fix⟩
        refine ⟨a, Ca, dx, _, u, rfl, hh, c1, c2, lu, ?_⟩
        refine q2 A ((u, .tmp el) :: (.ref a, .pl j p) :: τ) σ e0 H1 _ W _ ok2 (fun z => nomatch z) (HW.pop (as := [(u, .tmp el), (.ref a, .pl j p)]) (hW σ)) h1 fun y H2 ty e ok3 h2 => ?_
        have ok4 : Ok X.K A ([(u, .tmp el), (y, ty)] ++ ((.ref a, .pl j p) :: τ)) σ e H2 := ok3.perm (List.Perm.swap _ _ _)
        refine r2_at (ok4.fn (as := [(u, .tmp el), (y, ty)]) (k := fun z => match z.tk e with
          | some (d', e') => (match plAt e' j p with
            | some (.obj C' ns' xs') => C' = C ∧ ns'.length = ns.length ∧ De.nx (plPut e' j p (.obj C' (fput ns' xs' f d').1 (fput ns' xs' f d').2))
            | _ => False)
          | none => False) s h2 fun z tz H3 ok5 h3 => ?_)
        split at h3
        · rename_i d' e' hz
          have ok6 := tk1 ok5 hz
          split at h3
          · rename_i C' ns' xs' hp
            obtain ⟨rfl, hl2, h3⟩ := h3
            obtain ⟨env1, ok7, back⟩ := Ok.at (ok6.perm (List.Perm.swap _ _ _)) hp
            obtain ⟨Ca', dx', fs', cn', hh', le, ok8⟩ := Ok.fput1 (f := f) (ok7.perm (List.Perm.swap _ _ _)) tm.st
            rw [cn] at cn'
            cases cn'
            exact ⟨dx', fs', hh', by rw [le, hl2]; exact hl, ee.nx _ _ _ (back ok8) h3⟩
          · exact h3.elim
        · exact h3.elim
      · exact h1.elim
    · exact h1.elim
  · exact h1.elim⟩
end
theorem fdOk_nil {K : PySem.W.Frag} {f : Str} : FdOk K [] f := fun _ h => nomatch h
theorem fdOk_cons {K : PySem.W.Frag} {C f : Str} {Cs : List Str} {Ca : Addr} (a : PySem.W.nsIn K mainGlobals C = some (some (.ref Ca))) (c : Cls K Ca) (n : NoAttr K Ca f) (h : FdOk K Cs f) : FdOk K (C :: Cs) f := fun C' hC Cb cn => by
  rcases List.mem_cons.mp hC with rfl | hC
  · rw [a] at cn
    cases cn
    exact ⟨c, n⟩
  · exact h C' hC Cb cn
end Pd

namespace Pd
open PySem L2 PyProof.Rows
/-! ### d.get(k), d.get(k, x) -/
def isDic (x : T) (e : EnvD) : Prop := match x with
  | .pl j p => (match plAt e j p with | some (.dic _ _ _ _) => True | _ => False)
  | _ => False
def getP (x y : T) (e : EnvD) (Q : T → Prop) (Qn : Prop) : Prop := match x with
  | .pl j p => (match plAt e j p with
    | some (.dic o t ks vs) => (match y.vw e with
      | some (_, k) => kOk t k = true ∧ (match lk ks vs k with
        | some el => if isSh el = true then Q (.tmp el) else if o = true then Q (.pl j (p ++ [.key k])) else if noOb el = true then Q (.bor (fz el)) else False
        | none => Qn)
      | none => False)
    | _ => False)
  | _ => False
def dGet1 (m2 : Bool) (ta ty : TD) : TD := fun env Q W => ta env (fun x e0 => (m2 = true → x.stay = true) ∧ isDic x e0 ∧ ty e0 (fun y e => getP x y e (fun r => Q r e) (Q (.tmp .non) e)) W) W
def dGet2 (m2 m3 : Bool) (ta ty tx : TD) : TD := fun env Q W => ta env (fun x e0 => ((m2 || m3) = true → x.stay = true) ∧ isDic x e0 ∧ ty e0 (fun y e1 => (m3 = true → y.stay = true) ∧ tx e1 (fun z e => getP x y e (fun r => Q r e) (Q z e)) W) W) W
section
variable {K : PySem.W.Frag} {A : Anc} {τ : List (V × T)} {σ : St} {env : EnvD} {H : Hp} {v y : V} {x ty : T}
theorem isDic_at (ok : Ok K A ((v, x) :: τ) σ env H) (h : isDic x env) : ∃ a, v = .ref a ∧ IsD H a := by
  unfold isDic at h
  split at h
  · rename_i j p
    split at h
    · rename_i o t ks vs hc
      obtain ⟨env1, ok2, _⟩ := Ok.at ok hc
      obtain ⟨fa, f0, f2, o', ra, r0⟩ := Ok.cut (as := [(v, .tmp (.dic o t ks vs))]) ok2
      obtain ⟨a, us, fp', rfl, ww, l, rr⟩ := RpTs.of1 ra
      refine ⟨a, rfl, ?_⟩
      obtain ⟨ho, rd, d⟩ : ∃ ho, Rd H a ho ∧ DO t ks us ho := by
        cases o with
        | true => obtain ⟨ho, l1, l2⟩ := l; exact ⟨ho, .inl l1, l2⟩
        | false => obtain ⟨_, ho, l1, l2⟩ := l; exact ⟨ho, .inl l1, l2⟩
      rcases d with ⟨_, kk, _, _, rfl⟩ | ⟨_, kk, _, _, rfl⟩
      · exact .inl ⟨_, rd⟩
      · exact .inr ⟨_, rd⟩
    · exact h.elim
  · exact h.elim
theorem getP_at {Q : T → Prop} {Qn : Prop} {R : V → Prop} {zv : V} (ok : Ok K A ((y, ty) :: (v, x) :: τ) σ env H) (h : getP x ty env Q Qn) (hR : ∀ w z, Ok K A ((w, z) :: τ) σ env H → Q z → R w) (hn : Qn → R zv) : ∃ a o, v = .ref a ∧ DGet H a y o ∧ R (o.getD zv) := by
  unfold getP at h
  split at h
  · rename_i j p
    split at h
    · rename_i o t ks xs hc
      split at h
      · rename_i b k hk
        obtain ⟨hk0, h⟩ := h
        have rk := ok.atom hk (kOk_noAl hk0)
        have ok2 : Ok K A ((v, .pl j p) :: τ) σ env H := Ok.drop (as := [(y, ty)]) ok
        obtain ⟨d, hd, ho, hs⟩ := plAt_of hc
        obtain ⟨f1, f2, o'⟩ := id ok2
        obtain ⟨g1, g2, eg, rt, r0⟩ := id o'.ts
        obtain ⟨ez, w, hw, hv⟩ := id rt
        subst ez
        obtain ⟨fp, rc, hfp⟩ := o'.look hd hs ho hw hv
        obtain ⟨a, vs, f, rfl, dg, rr, hown, ob, rd, dO⟩ := dicGet2 rc (rk _) hk0
        have ok4 : Ok K A τ σ env H := Ok.drop (as := [(.ref a, .pl j p)]) ok2
        have okk : Okk K A τ σ env H g2 f2 := by
          rw [eg] at o'
          exact ⟨r0.congr (fun a z => by rw [eg]; exact z), o'.en, o'.nd, o'.un, o'.keep, o'.anc, o'.fix⟩
        cases q : lk ks xs k with
        | none =>
          rw [q] at h
          have qv : lk ks vs k = none := by
            unfold lk at q ⊢
            cases c : lkI ks k with
            | none => rfl
            | some i =>
              rw [c] at q
              have h1 := (List.getElem?_eq_some_iff.mp (lkI_get c)).1
              have q' : xs[i]? = none := q
              have h2 : i < xs.length := by rw [rr.length, ← DO_len dO]; exact h1
              rw [List.getElem?_eq_getElem h2] at q'
              cases q'
          rw [qv] at dg
          exact ⟨a, none, rfl, dg, hn h⟩
        | some el =>
          rw [q] at h
          obtain ⟨i, i1, i2⟩ := lk_of q
          obtain ⟨u, g1, fm, g3, e1, e2, e3⟩ := rr.get i2
          have lv : lk ks vs k = some u := (lk_at i1).trans e1
          rw [lv] at dg
          refine ⟨a, some u, rfl, dg, ?_⟩
          have h : if isSh el = true then Q (.tmp el) else if o = true then Q (.pl j (p ++ [.key k])) else if noOb el = true then Q (.bor (fz el)) else False := h
          split at h
          · rename_i hsh
            have z : fm = [] := Rp.sh _ hsh e3
            subst z
            refine hR u (.tmp el) ⟨[] ++ g2, f2, ⟨[], g2, rfl, ?_, okk.ts⟩, okk.en, okk.nd, okk.un, okk.keep, okk.anc, okk.fix⟩ h
            rw [eg] at e3
            exact e3
          · split at h
            · exact hR u _ (ok4.push (x := .pl j (p ++ [.key k])) fun f' hN => ⟨rfl, w, hw, VAt.snoc hv (show VStep H (.ref a) (.key k) u from ⟨a, ob, t, ks, vs, rfl, rd, dO, lv⟩)⟩) h
            · split at h
              · rename_i hnob
                exact hR u _ (ok4.push (x := .bor (fz el)) fun f' hN => ⟨rfl, by rw [fz_isSh]; exact hnob, Rp.fz (fun _ z => z.elim) el hnob (fun _ _ z => z) e3⟩) h
              · exact h.elim
      · exact h.elim
    · exact h.elim
  · exact h.elim
end
section
variable {X : Cx} {m1 m2 m3 : Bool} {o e f : Expr} {ta ty tx : TD} {apos cpos : Pos}
theorem pd_get1 (hu : X.A.units + 1 < cLine) (ho : PD X m1 o ta) (he : PD X m2 e ty) (hm : M1 X o "get" apos e cpos := by exact ⟨rfl, rfl, rfl, rfl⟩) : PD X (m1 || m2) (.Call (.Attribute o "get" apos) [e] [] cpos) (dGet1 m2 ta ty) := ⟨fun W0 tk => by
  obtain ⟨t1, p1, q1⟩ := ho.ex W0 tk
  obtain ⟨t2, p2, q2⟩ := he.ex W0 tk
  refine ⟨_, pe_dget1 hu p1 p2 hm, fun A τ σ env H Q W R ok st hW hd hR => ?_⟩
  refine q1 A τ σ env H _ W _ ok (fun z => st (by rw [z]; rfl)) hW hd fun v H1 x e0 ok1 ⟨sx, hi, h1⟩ => ?_
  obtain ⟨a, rfl, isd⟩ := isDic_at ok1 hi
  refine ⟨a, rfl, isd, ?_⟩
  refine q2 A ((.ref a, x) :: τ) σ e0 H1 _ W _ ok1 (fun z => stays_cons (sx z) (st (by rw [z, Bool.or_true]))) (HW.pop (as := [(.ref a, x)]) hW) h1 fun y H2 ty' e2 ok2 h2 => ?_
  obtain ⟨a', ov, ea, dg, r⟩ := getP_at (R := fun w => R w H2) (zv := .non) ok2 h2 (fun w z okw q => hR w H2 z e2 okw q) (fun q => hR _ H2 (.tmp .non) e2 ((Ok.drop (as := [(y, ty'), (.ref a, x)]) ok2).pushD (d := .non) fun N => ⟨rfl, rfl⟩) q)
  cases ea
  exact ⟨ov, dg, r⟩⟩
theorem pd_get2 (hu : X.A.units + 1 < cLine) (ho : PD X m1 o ta) (he : PD X m2 e ty) (hf : PD X m3 f tx) (hm : M2 X o "get" apos e f cpos := by exact ⟨rfl, rfl, rfl, rfl⟩) : PD X (m1 || (m2 || m3)) (.Call (.Attribute o "get" apos) [e, f] [] cpos) (dGet2 m2 m3 ta ty tx) := ⟨fun W0 tk => by
  obtain ⟨t1, p1, q1⟩ := ho.ex W0 tk
  obtain ⟨t2, p2, q2⟩ := he.ex W0 tk
  obtain ⟨t3, p3, q3⟩ := hf.ex W0 tk
  refine ⟨_, pe_dget2 hu p1 p2 p3 hm, fun A τ σ env H Q W R ok st hW hd hR => ?_⟩
  refine q1 A τ σ env H _ W _ ok (fun z => st (by rw [z]; rfl)) hW hd fun v H1 x e0 ok1 ⟨sx, hi, h1⟩ => ?_
  obtain ⟨a, rfl, isd⟩ := isDic_at ok1 hi
  refine ⟨a, rfl, isd, ?_⟩
  refine q2 A ((.ref a, x) :: τ) σ e0 H1 _ W _ ok1 (fun z => stays_cons (sx (by rw [z]; rfl)) (st (by rw [z]; simp))) (HW.pop (as := [(.ref a, x)]) hW) h1 fun y H2 ty' e2 ok2 ⟨sy, h2⟩ => ?_
  refine q3 A ((y, ty') :: (.ref a, x) :: τ) σ e2 H2 _ W _ ok2 (fun z => stays_cons (sy z) (stays_cons (sx (by rw [z]; simp)) (st (by rw [z]; simp)))) (HW.pop (as := [(y, ty'), (.ref a, x)]) hW) h2 fun z H3 tz e3 ok3 h3 => ?_
  have okz : Ok X.K A ((y, ty') :: (.ref a, x) :: τ) σ e3 H3 := Ok.drop (as := [(z, tz)]) ok3
  have okd : Ok X.K A ((z, tz) :: τ) σ e3 H3 := by
    have p : Ok X.K A ([(y, ty'), (.ref a, x)] ++ ((z, tz) :: τ)) σ e3 H3 := ok3.perm (by
      refine (List.Perm.swap _ _ _).trans (List.Perm.cons _ (List.Perm.swap _ _ _)))
    exact Ok.drop p
  obtain ⟨a', ov, ea, dg, r⟩ := getP_at (R := fun w => R w H3) (zv := z) okz h3 (fun w z okw q => hR w H3 z e3 okw q) (fun q => hR _ H3 tz e3 okd q)
  cases ea
  exact ⟨ov, dg, r⟩⟩
end
end Pd

namespace Pd
open PySem L2 PyProof.Rows
/-! ### dict(a list of pairs) -/
def pairD : D → Option (D × D)
  | .tup [k, v] => some (k, v)
  | .frl true [k, v] => some (k, v)
  | _ => none
def pairsD : List D → Option (List (D × D))
  | [] => some []
  | x :: xs => match pairD x, pairsD xs with
    | some p, some ps => if kOk 0 p.1 = true then some (p :: ps) else none
    | _, _ => none
def fDictP : Fn
  | [x], Q => match seqD x with
    | some xs => (match pairsD xs with
      | some ps => Q (.dic true 0 (dputs [] [] ps).1 (dputs [] [] ps).2)
      | none => False)
    | none => False
  | _, _ => False
def rDictP (K : PySem.W.Frag) : List V → Hp → VK → Prop := fun xs H Q => ∃ (a : Addr) (ps : List Addr) (kvs : List (Key × V)), xs = [.ref a] ∧ SqL K H a (ps.map V.ref) ∧ Paired (fun p kv => SqT K H p [kV kv.1, kv.2]) ps kvs ∧
    ∀ p, H p = none → Q (.ref p) (upd H p (.dK (mergeK [] kvs)))
section
variable {K : PySem.W.Frag} {H : Hp} {N : Addr → Prop}
theorem pairs_rps : ∀ {xs : List D} {us : List V} {ps : List (D × D)}, Rps K H N xs us [] → isShs xs = true → pairsD xs = some ps → ∃ (as : List Addr) (kvs : List (Key × V)), us = as.map V.ref ∧ Paired (fun p kv => SqT K H p [kV kv.1, kv.2]) as kvs ∧ ps.map (·.1) = kvs.map (fun kv => kD kv.1) ∧ Rps K H N (ps.map (·.2)) (kvs.map (·.2)) [] ∧ isShs (ps.map (·.2)) = true ∧ ps.length = kvs.length
  | [], us, ps, r, _, h => by
    cases h
    rw [r.1]
    exact ⟨[], [], rfl, .nil, rfl, Rps.nil, rfl, rfl⟩
  | x :: xs, us, ps, r, s, h => by
    obtain ⟨v, us', f1, f2, rfl, e, r1, r2⟩ := r
    obtain ⟨rfl, rfl⟩ := List.append_eq_nil_iff.mp e.symm
    rw [isShs, Bool.and_eq_true] at s
    rw [pairsD] at h
    cases hp : pairD x with
    | none => rw [hp] at h; cases h
    | some p =>
      cases hq : pairsD xs with
      | none => rw [hp, hq] at h; cases h
      | some qs =>
        rw [hp, hq] at h
        have h : (if kOk 0 p.1 = true then some (p :: qs) else none) = some ps := h
        split at h
        · rename_i hk
          cases h
          obtain ⟨as, kvs, e1, e2, e3, e4, e5, e6⟩ := pairs_rps r2 s.2 hq
          have tw : ∃ a w1 w2, v = V.ref a ∧ SqT K H a [w1, w2] ∧ Rps K H N [p.1, p.2] [w1, w2] [] ∧ isShs [p.1, p.2] = true := by
            have go : ∀ ys, tupD x = some ys → ys = [p.1, p.2] → isShs ys = true → ∃ a w1 w2, v = V.ref a ∧ SqT K H a [w1, w2] ∧ Rps K H N [p.1, p.2] [w1, w2] [] ∧ isShs [p.1, p.2] = true := fun ys h1 h2 h3 => by
              subst h2
              obtain ⟨a, ws, rfl, sq, rr⟩ := tupAtK r1 h1
              obtain ⟨w1, w2, rfl, q1, q2⟩ := rps2 rr
              exact ⟨a, w1, w2, rfl, sq, rr, h3⟩
            unfold pairD at hp
            split at hp
            · cases hp
              exact go _ rfl rfl s.1
            · cases hp
              exact go _ rfl rfl s.1
            · cases hp
          obtain ⟨a, w1, w2, rfl, sq, rr, sp⟩ := tw
          obtain ⟨w1', w2', e0, q1, q2⟩ := rps2 rr
          cases e0
          obtain ⟨q, k1, rfl⟩ := key0 q1 hk
          have s2 : isSh p.2 = true := by
            have : (isSh p.1 && (isSh p.2 && true)) = true := sp
            simp at this
            exact this.2
          refine ⟨a :: as, (q, w2) :: kvs, by rw [e1]; rfl, .cons sq e2, by simp [k1, e3], ?_, ?_, by simp [e6]⟩
          · exact ⟨w2, _, [], [], rfl, rfl, q2, e4⟩
          · show (isSh p.2 && isShs (qs.map (·.2))) = true
            rw [s2, e5]; rfl
        · cases h
theorem merge_rps : ∀ {ps : List (D × D)} {kvs : List (Key × V)} {kk : List Key} {xs : List D} {vs : List V}, ps.map (·.1) = kvs.map (fun kv => kD kv.1) → Rps K H N (ps.map (·.2)) (kvs.map (·.2)) [] → isShs (ps.map (·.2)) = true → ps.length = kvs.length → Rps K H N xs vs [] → isShs xs = true → kk.length = vs.length → kk.Nodup →
    ∃ (kk' : List Key) (vs' : List V), mergeK (kk.zip vs) kvs = kk'.zip vs' ∧ (dputs (kk.map kD) xs ps).1 = kk'.map kD ∧ Rps K H N (dputs (kk.map kD) xs ps).2 vs' [] ∧ isShs (dputs (kk.map kD) xs ps).2 = true ∧ kk'.length = vs'.length
  | [], [], kk, xs, vs, _, _, _, _, r, s, l, nd => ⟨kk, vs, rfl, rfl, r, s, l⟩
  | [], _ :: _, _, _, _, _, _, _, h, _, _, _, _ => by cases h
  | _ :: _, [], _, _, _, _, _, _, h, _, _, _, _ => by cases h
  | p :: ps, kv :: kvs, kk, xs, vs, hk, hr, hs, hl, r, s, l, nd => by
    rw [List.map_cons, List.map_cons] at hk
    injection hk with hk1 hk2
    obtain ⟨w, ws, f1, f2, e1, e2, r1, r2⟩ := hr
    rw [List.map_cons] at e1
    cases e1
    obtain ⟨rfl, rfl⟩ := List.append_eq_nil_iff.mp e2.symm
    have hs' : (isSh p.2 && isShs (ps.map (·.2))) = true := hs
    rw [Bool.and_eq_true] at hs'
    have pz := putK_zip (f := kD) (fun _ _ => kD_inj) kv.1 kv.2 kk vs l nd
    show ∃ (kk' : List Key) (vs' : List V), mergeK (putK (kk.zip vs) kv.1 kv.2) kvs = _ ∧ (dputs (dput (kk.map kD) xs p.1 p.2).1 (dput (kk.map kD) xs p.1 p.2).2 ps).1 = _ ∧ Rps K H N (dputs (dput (kk.map kD) xs p.1 p.2).1 (dput (kk.map kD) xs p.1 p.2).2 ps).2 _ [] ∧ isShs (dputs (dput (kk.map kD) xs p.1 p.2).1 (dput (kk.map kD) xs p.1 p.2).2 ps).2 = true ∧ _
    rw [hk1]
    unfold dput
    cases c : lkI (kk.map kD) (kD kv.1) with
    | some i =>
      rw [pz.1 i c]
      have hi : i < xs.length := by
        have h1 := (List.getElem?_eq_some_iff.mp (lkI_get c)).1
        rw [List.length_map] at h1
        rw [r.length, ← l]; exact h1
      obtain ⟨g1, gm, g2, eg, rs⟩ := Rps.setAt (i := i) r hi r1
      obtain ⟨g12, z2⟩ := List.append_eq_nil_iff.mp eg.symm
      obtain ⟨z1, zm⟩ := List.append_eq_nil_iff.mp g12
      subst z1 zm z2
      refine merge_rps hk2 r2 hs'.2 (by simpa using hl) rs ?_ (by rw [List.length_set]; exact l) nd
      rw [isShs_all, List.all_eq_true]
      intro d hd
      rcases List.mem_or_eq_of_mem_set hd with h | h
      · rw [isShs_all, List.all_eq_true] at s; exact s d h
      · rw [h]; exact hs'.1
    | none =>
      rw [pz.2 c]
      have e : kk.map kD ++ [kD kv.1] = (kk ++ [kv.1]).map kD := by simp
      rw [e]
      have r3 := Rps.append r (Rps.cons r1 Rps.nil)
      refine merge_rps hk2 r2 hs'.2 (by simpa using hl) r3 ?_ (by simp [l]) ?_
      · rw [isShs_append, s]; show (true && (isSh p.2 && true)) = true; rw [hs'.1]; rfl
      · refine List.nodup_append.mpr ⟨nd, by simp, fun a ha b hb z => ?_⟩
        have := lkI_none c
        rw [List.mem_singleton] at hb
        subst hb
        subst z
        exact this (List.mem_map_of_mem ha)
end
theorem snd_dictP {K : PySem.W.Frag} : Snd K (rDictP K) fDictP := by
  intro H N vs ds Qd Q r s there h hQ
  unfold fDictP at h
  split at h
  · rename_i x
    obtain ⟨v, rfl, r1⟩ := rps1 r
    split at h
    · rename_i xs hx
      obtain ⟨a, us, rfl, sq, rr⟩ := seqAt r1 hx
      have sx : isShs xs = true := by
        have s1 : isSh x = true := by
          have : (isSh x && true) = true := s
          simpa using this
        unfold seqD at hx
        split at hx
        · cases hx
          have : (!_ && isShs xs) = true := s1
          rw [Bool.and_eq_true] at this
          exact this.2
        · cases hx; exact s1
        · cases hx
      split at h
      · rename_i ps hp
        obtain ⟨as, kvs, rfl, pr, e3, e4, e5, e6⟩ := pairs_rps rr sx hp
        refine ⟨a, as, kvs, rfl, sq, pr, fun p hpn => ?_⟩
        obtain ⟨kk', vs', m1, m2, m3, m4, m5⟩ := merge_rps (kk := []) (xs := []) (vs := []) e3 e4 e5 e6 Rps.nil rfl rfl List.nodup_nil
        refine hQ _ (.ref p) _ [p] h (Ext.upd hpn) ⟨p, vs', [], rfl, rfl, ⟨_, upd_same, .inl ⟨rfl, kk', m2, m5, by rw [← m1]; rfl⟩⟩, Rps.grow m3 (Ext.upd hpn) fun a z => ?_⟩ (by simpa using hpn) (by simp) (isShs_noObs _ m4)
        rcases z with z | z
        · exact .inl z
        · exact .inr (by rw [List.mem_singleton.mp z]; exact hpn)
      · exact h.elim
    · exact h.elim
  · exact h.elim
theorem cr_dictP {X : Cx} (hc : X.calm = true) : CallR X (.type "dict") (rDictP X.K) := call_dictP hc
end Pd

namespace Pd
open PySem L2 PyProof.Rows
/-! ### xs[::-1] -/
def rRevL (K : PySem.W.Frag) : V → Hp → VK → Prop := fun x H Q => ∃ a xs, x = .ref a ∧ SqL K H a xs ∧ ∀ p, H p = none → Q (.ref p) (upd H p (.lst xs.reverse))
def fRev : Fn
  | [x], Q => match seqD x with
    | some xs => Q (.lst true xs.reverse)
    | none => False
  | _, _ => False
section
variable {K : PySem.W.Frag} {H : Hp} {N : Addr → Prop}
theorem Rps.rev : ∀ {ds : List D} {vs : List V}, Rps K H N ds vs [] → Rps K H N ds.reverse vs.reverse []
  | [], vs, r => by rw [r.1]; exact Rps.nil
  | d :: ds, vs, r => by
    obtain ⟨v, vs', f1, f2, rfl, e, r1, r2⟩ := r
    obtain ⟨rfl, rfl⟩ := List.append_eq_nil_iff.mp e.symm
    rw [List.reverse_cons, List.reverse_cons]
    exact Rps.append (Rps.rev r2) (Rps.cons r1 Rps.nil)
end
theorem snd_rev {K : PySem.W.Frag} : Snd K (r1 (rRevL K)) fRev := by
  intro H N vs ds Qd Q r s there h hQ
  unfold fRev at h
  split at h
  · rename_i x
    obtain ⟨v, rfl, r1⟩ := rps1 r
    split at h
    · rename_i xs hx
      obtain ⟨a, us, rfl, sq, rr⟩ := seqAt r1 hx
      have sx : isShs xs = true := isShs_seq (x := x) (by unfold seqD at hx; split at hx <;> cases hx <;> rfl) s
      have sr : isShs xs.reverse = true := by
        rw [isShs_all, List.all_reverse, ← isShs_all]; exact sx
      exact ⟨_, rfl, a, us, rfl, sq, fun p hp => hQ.lst h (Rps.rev rr) sr hp⟩
    · exact h.elim
  · exact h.elim
theorem pd_rev {X : Cx} {m : Bool} {a : Expr} {ta : TD} {k : Nat} {p1 p2 p3 pos : Pos} (ha : PD X m a ta) : PD X m (.Subscript a (.Slice none none (some (.UnaryOp .USub (.Constant (.int 1) k p1) p2)) p3) pos) (dFn fRev (d1 ta)) := ⟨fun W0 tk => by
  obtain ⟨t1, p1', q1⟩ := ha.ex W0 tk
  refine ⟨_, pe_revL p1', fun A τ σ env H Q W R ok st hW hd hR => ?_⟩
  refine q1 A τ σ env H _ W _ ok st hW hd fun v1 H1 x1 e1 ok1 q1 => ?_
  obtain ⟨u, e, h⟩ := ok1.fn (as := [(v1, x1)]) (Q := R) (k := fun z => Q z e1) snd_rev q1.2 fun w z H'' ok'' k => hR w H'' z e1 ok'' k
  cases e; exact h⟩
/-! ### for .. in range(a, b, c) -/
def stepD (i c : Int) (n : Nat) : List D := (List.range n).map fun k : Nat => D.int (i + (k : Int) * c)
def sForR3 (ta : TDs) (g : TGD) (tb : TSD) : TSD := fun De env W => ta env (fun xs e => vws e xs fun _ ds => match ds with
  | [.int i, .int j, .int c] => ∃ n : Nat, RgC i j c n ∧ forD g tb De W (stepD i c n) e
  | _ => False) W
section
variable {X : Cx} {io : List Nat} {m : Bool} {pos : Pos}
theorem step_go {g : TGD} {tb : TSD} {t2 : TG} {t1 : TS} {W0 : L2.WX} {A : Anc} {τ : List (V × T)} {σ : St} {env : EnvD} {H : Hp} {De : EndsD} {W : WD} {E : Ends} {lo c : Int} {n : Nat} (ok : Ok X.K A τ σ env H) (tm : tmps τ) (fx : ∀ q ∈ A.fx, q.1 ∈ io) (hW : ∀ σ, HW X.K W0 A τ σ W)
    (qg : ∀ (A : Anc) (τ : List (V × T)) (σ : St) (env : EnvD) (H : Hp) (v : V) (d : D) (Q : EnvD → Prop) (R : St → Hp → Prop), Ok X.K A ((v, .tmp d) :: τ) σ env H → tmps τ → (∀ q ∈ A.fx, q.1 ∈ io) → g d env Q → (∀ σ' env' H', Ok X.K A τ σ' env' H' → Q env' → R σ' H') → t2 v σ H R)
    (qb : ∀ (A : Anc) (τ : List (V × T)) (σ : St) (env : EnvD) (H : Hp) (De : EndsD) (W : WD) (E : Ends), Ok X.K A τ σ env H → tmps τ → (∀ q ∈ A.fx, q.1 ∈ io) → (∀ σ, HW X.K W0 A τ σ W) → tb De env W → EE X.K A τ De E → t1 E σ H)
    (h : forD g tb De W (stepD lo c n) env) (ee : EE X.K A τ De E) :
    ∃ W : Nat → Nat → St → Hp → Prop, (∃ m, W 0 m σ H) ∧ ∀ i m σ H, W i m σ H →
      ((Itc lo c n).stop i H ∧ E.nx σ H) ∨ ((Itc lo c n).go i H ∧ ∃ N : St → Hp → Prop, (∀ σ' H', N σ' H' → ∃ m', m' < m ∧ W (i + 1) m' σ' H') ∧ ∀ x H', (Itc lo c n).yld i H x H' → t2 x σ H' fun σ2 H2 => t1 { E with nx := N, ct := N, bk := E.nx } σ2 H2) := by
  refine for_rangeC (fun i σ H => ∃ env, Ok X.K A τ σ env H ∧ forD g tb De W ((stepD lo c n).drop i) env) ⟨env, ok, h⟩ ?_ ?_
  · rintro i σ1 H1 hi ⟨e1, ok3, h3⟩
    have hi' : i < (stepD lo c n).length := by unfold stepD; simpa using hi
    rw [List.drop_eq_getElem_cons hi'] at h3
    have ez : (stepD lo c n)[i] = .int (lo + (i : Int) * c) := by
      have e1 : (stepD lo c n)[i]? = some (.int (lo + (i : Int) * c)) := by
        unfold stepD
        rw [List.getElem?_map, List.getElem?_range hi]; rfl
      rw [List.getElem?_eq_getElem hi'] at e1
      exact Option.some.inj e1
    rw [ez] at h3
    refine qg A τ σ1 e1 H1 (.int (lo + (i : Int) * c)) _ _ _ (ok3.pushD (d := .int (lo + (i : Int) * c)) fun N => ⟨rfl, rfl⟩) tm fx h3 fun σ' env' H' ok5 h5 => ?_
    exact qb A τ σ' env' H' _ W _ ok5 tm fx hW h5 ⟨fun σ env H ok h => ⟨env, ok, h⟩, ee.rt, ee.nx, fun σ env H ok h => ⟨env, ok, h⟩⟩
  · rintro σ1 H1 ⟨e1, ok3, h3⟩
    have z : (stepD lo c n).drop n = [] := List.drop_eq_nil_of_le (by unfold stepD; simp)
    rw [z] at h3
    exact ee.nx σ1 e1 H1 ok3 h3
theorem psd_forR3 {tg a b c : Expr} {body : List Stmt} {g : TGD} {tb : TSD} {ta : TDs} {p cpos : Pos} (hp : PassesOwn (model X.prog X.w) X.A X.env X.xe) (hc : X.calm = true) (hgl : Gl X "range") (hm : X.mg "range" = none) (ha : PDs X m [a, b, c] ta) (hg : PGD X io tg g) (hb : PSsD X io body tb)
    (hst : starEach [a, b, c] X.env = (false, eval a X.env) :: starEach [b, c] X.env := by rfl) (hpl : (backTo cpos (starEach [b, c] X.env)).any (·.1) = false := by rfl)
    (hs : ∀ x, foldedSetIterable (.Call (.Name "range" p) [a, b, c] [] cpos) X.env x = pure x := by intro _; rfl) : PSD X io (.For tg (.Call (.Name "range" p) [a, b, c] [] cpos) body [] pos) (sForR3 ta g tb) := ⟨fun W0 tk => by
  obtain ⟨t0, p0, q0⟩ := ha.ex W0 tk
  obtain ⟨t2, p2, q2⟩ := hg.ex
  obtain ⟨t1, p1, q1⟩ := hb.ex W0 tk
  refine ⟨_, ps_for hp hc (pi_range3 hgl hm p0 hst hpl) p2 p1 hs, fun A τ σ env H De W E ok tm fx hW h ee => ?_⟩
  refine q0 A τ σ env H _ W _ ok (fun _ => tm.st) (hW σ) h fun as H' env' ok' q => ?_
  obtain ⟨b, ds, f0, f2, hf, hs, o, rr⟩ := ok'.args q
  split at hf
  · rename_i i j k
    obtain ⟨n, rc, hf⟩ := hf
    have ev : as.map (·.1) = [.int i, .int j, .int k] := by
      obtain ⟨u, vs', g1, g2, e1', e2', r1, u2, vs2, g3, g4, e3', e4', r2, u3, vs3, g5, g6, e5', e6', r3, r4⟩ := rr
      rw [e1', e3', e5', r4.1, r1.1, r2.1, r3.1]
    exact ⟨i, j, k, n, ev, rc, step_go (W0 := W0) (Ok.drop (as := as) ok') tm fx hW q2 q1 hf ee⟩
  · exact hf.elim⟩
end
end Pd

namespace Pd
open PySem L2 PyProof.Rows
/-- a thing just made that nobody will change -/
def dFz (ta : TD) : TD := fun env Q W => ta env (fun x e => match x with
  | .tmp d => noOb d = true ∧ Q (.tmp (fz d)) e
  | _ => False) W
theorem pd_fz {X : Cx} {m : Bool} {e : Expr} {ta : TD} (h : PD X m e ta) : PD X m e (dFz ta) := ⟨fun W0 tk => by
  obtain ⟨t, p, q⟩ := h.ex W0 tk
  refine ⟨t, p, fun A τ σ env H Q W R ok st hW hd hR => q A τ σ env H _ W _ ok st hW hd fun v H' x env' ok' hq => ?_⟩
  split at hq
  · exact hR v H' _ env' (ok'.freeze hq.1) hq.2
  · exact hq.elim⟩
end Pd

namespace Pd
open PySem L2 PyProof.Rows
/-- a, b, c = x, y, z -/
def sPar3 (i j l : Nat) (ta : TDs) : TSD := fun De env W => ta env (fun xs e => tks e xs fun ds e' => match ds with | [d1, d2, d3] => De.nx (((e'.set i (some d1)).set j (some d2)).set l (some d3)) | _ => False) W
theorem psd_par3 {X : Cx} {io : List Nat} {m : Bool} {pos : Pos} {i j l : Nat} {x y z : Str} {a b c : Expr} {ta : TDs} {px py pz pt : Pos} {kt k2 pt2} (hc : X.calm = true) (hN : X.N.Nodup) (hi : X.N[i]? = some x) (hj : X.N[j]? = some y) (hl : X.N[l]? = some z) (hij : i ≠ j) (hil : i ≠ l) (hjl : j ≠ l)
    (hx : X.env.scope.names.lookup x = some .local) (hy : X.env.scope.names.lookup y = some .local) (hz : X.env.scope.names.lookup z = some .local) (ha : PDs X m [a, b, c] ta)
    (hw : swappedStores [.Tuple [.Name x px, .Name y py, .Name z pz] kt pt] (.Tuple [a, b, c] k2 pt2) X.env = pure (some [x, y, z])) (hio : i ∉ io := by decide) (hjo : j ∉ io := by decide) (hlo : l ∉ io := by decide)
    (hs : swapsWithSole [.Tuple [.Name x px, .Name y py, .Name z pz] kt pt] (.Tuple [a, b, c] k2 pt2) pos.line X.env = pure false := by rfl) :
    PSD X io (.Assign [.Tuple [.Name x px, .Name y py, .Name z pz] kt pt] (.Tuple [a, b, c] k2 pt2) pos) (sPar3 i j l ta) := ⟨fun W0 tk => by
  obtain ⟨t1, p1, q1⟩ := ha.ex W0 tk
  refine ⟨_, ps_par3 hc hN hi hj hl hij hil hjl hx hy hz p1 hw hs, fun A τ σ env H De W E ok tm fx hW h ee => ?_⟩
  refine q1 A τ σ env H _ W _ ok (fun _ => tm.st) (hW σ) h fun as H' env' ok' q => ?_
  obtain ⟨ds, e2, hk, ln, ok2⟩ := tks_ok ok' q
  match ds, as, ln, hk, ok2 with
  | [d1, d2, d3], [(v1, x1), (v2, x2), (v3, x3)], _, hk, ok2 =>
    refine ⟨v1, v2, v3, rfl, ee.nx _ _ H' ?_ hk⟩
    have o1 := (show Ok X.K A ((v1, .tmp d1) :: (v2, .tmp d2) :: (v3, .tmp d3) :: τ) σ e2 H' from ok2).set (i := i) (tm.cons.cons) fun q hq e => hio (e ▸ fx q hq)
    have o2 := o1.set (i := j) tm.cons fun q hq e => hjo (e ▸ fx q hq)
    exact o2.set (i := l) tm fun q hq e => hlo (e ▸ fx q hq)⟩
end Pd

namespace Law
open PySem Pd
open L2 (CMulW CDivW CPow atI ixN cutS)
open PySem
/-! ### the drawing's state -/
def drD (ns : List Int) (a : Nat) : D := .dic true 0 [.str ("numbers" : Str), .str ("at" : Str)] [.lst false (ns.map .int), .int a]
/-- f more numbers may be drawn -/
def DrN (f : Nat) (d : D) : Prop := ∃ (ns : List Int) (a : Nat), d = drD ns a ∧ 0 < ns.length ∧ ns.length ≤ 2 ^ 10 ∧ (∀ n ∈ ns, 0 ≤ n ∧ n < 1048576) ∧ a + f ≤ 2 ^ 40
theorem DrN.mono {f g : Nat} {d : D} (h : DrN f d) (l : g ≤ f) : DrN g d := by
  obtain ⟨ns, a, e, h1, h2, h3, h4⟩ := h
  exact ⟨ns, a, e, h1, h2, h3, by omega⟩
theorem sml_divN {l x : Int} (h0 : 0 < l) (h1 : l < 2 ^ 100) : CDivW x l := ⟨h0, by
  have : l.natAbs < 2 ^ 100 := by omega
  exact Nat.lt_of_le_of_lt (log2_of this) (by decide)⟩
theorem mul_okN {a b : Int} (ha : a.natAbs < 2 ^ 100) (hb : b.natAbs < 2 ^ 100) : CMulW a b := by
  have := log2_of ha
  have := log2_of hb
  unfold CMulW; omega
/-- a comprehension over pairs whose turns change nothing: a filter and a map -/
theorem lcD_fm2 {α : Type} {i j : Nat} {env : EnvD} (he : (env.set i none).set j none = env) {h x y : α → D} (hxy : ∀ a, h a = .tup [x a, y a]) {p : α → Bool} {f : α → D} {tt : TTD} {te : TD} {Q : List D → EnvD → Prop} : ∀ {l : List α} {acc : List D}, acc.length + l.length ≤ sizeLine →
    (∀ a ∈ l, ∀ K : Bool → EnvD → Prop, K (p a) ((env.set i (some (x a))).set j (some (y a))) → tt ((env.set i (some (x a))).set j (some (y a))) K noW) →
    (∀ a ∈ l, p a = true → ∀ K : T → EnvD → Prop, (∀ z : T, z.tk ((env.set i (some (x a))).set j (some (y a))) = some (f a, (env.set i (some (x a))).set j (some (y a))) → K z ((env.set i (some (x a))).set j (some (y a)))) → te ((env.set i (some (x a))).set j (some (y a))) K noW) →
    Q (acc ++ (l.filter p).map f) env → lcD [i, j] (gTupD [gNm i, gNm j]) tt te Q (l.map h) acc env
  | [], acc, hl, ht, hf, q => by
    simp at q
    exact q
  | a :: l, acc, hl, ht, hf, q => by
    have hl' : acc.length + (l.length + 1) ≤ sizeLine := hl
    show gTupD [gNm i, gNm j] (h a) env _
    rw [hxy]
    refine ⟨rfl, ?_⟩
    show tt ((env.set i (some (x a))).set j (some (y a))) _ noW
    refine ht a List.mem_cons_self _ ?_
    have back : wipeD ((env.set i (some (x a))).set j (some (y a))) [i, j] = env := by
      show (((env.set i (some (x a))).set j (some (y a))).set j none).set i none = env
      rw [List.set_set]
      by_cases e : i = j
      · subst e
        rw [List.set_set, List.set_set]
        rw [List.set_set] at he
        exact he
      · rw [List.set_comm _ _ e, List.set_set, List.set_comm _ _ (fun q => e q.symm)]
        exact he
    cases hp : p a with
    | true =>
      rw [if_pos rfl]
      refine hf a List.mem_cons_self hp _ fun z hz => ?_
      rw [hz]
      refine ⟨by omega, ?_⟩
      show lcD [i, j] (gTupD [gNm i, gNm j]) tt te Q (l.map h) (acc ++ [f a]) (wipeD ((env.set i (some (x a))).set j (some (y a))) [i, j])
      rw [back]
      refine lcD_fm2 he hxy (by simp; omega) (fun b hb => ht b (List.mem_cons_of_mem _ hb)) (fun b hb => hf b (List.mem_cons_of_mem _ hb)) ?_
      rw [List.filter_cons_of_pos hp, List.map_cons] at q
      rw [List.append_assoc]
      exact q
    | false =>
      rw [if_neg Bool.false_ne_true, back]
      refine lcD_fm2 he hxy (by omega) (fun b hb => ht b (List.mem_cons_of_mem _ hb)) (fun b hb => hf b (List.mem_cons_of_mem _ hb)) ?_
      rw [List.filter_cons_of_neg (by simp [hp])] at q
      exact q
/-! ### lists of whole numbers -/
def gI (l : List Int) (k : Nat) : Int := l.getD k 0
theorem gI_get {l : List Int} {k : Nat} (h : k < l.length) : l[k] = gI l k := by
  unfold gI
  rw [List.getD_eq_getElem?_getD, List.getElem?_eq_getElem h]; rfl
theorem gI_at {l : List Int} {k : Nat} (h : k < l.length) : l[k]? = some (gI l k) := by rw [List.getElem?_eq_getElem h, gI_get h]
theorem ints_at {l : List Int} {k : Nat} (h : k < l.length) : atI (l.map D.int) (k : Int) = some (.int (gI l k)) := atI_ofNat (by rw [List.getElem?_map, gI_at h]; rfl)
theorem ints_sh (l : List Int) : isShs (l.map D.int) = true := isShs_map (f := D.int) (fun _ => rfl) l
theorem ints_ob (l : List Int) : noObs (l.map D.int) = true := noObs_map (f := D.int) (fun _ => rfl) l
theorem ints_fz (l : List Int) : fzs (l.map D.int) = l.map D.int := fzs_mapG (f := D.int) (fun _ => rfl) l
theorem io_eq {io : List Nat} {S : SD} {ta : TDs} {env : EnvD} {Q : T → EnvD → Prop} {W : WD} : dCallIO io S ta env Q W = ta env (fun xs e => match cAs io e 0 xs with
  | some cs => (cs.filterMap CA.root).Nodup ∧ S (cs.map CA.d) (fun r e' => cback cs e' e fun e2 => Q (.tmp r) e2) (fun ex e' => cback cs e' e fun e2 => W ex e2)
  | none => False) W := rfl
theorem DrN.ob {f : Nat} {d : D} (h : DrN f d) : noOb d = true ∧ isSh d = false := by
  obtain ⟨ns, a, rfl, _⟩ := h
  simp [drD, noOb, noObs, isSh]

/-! ### spans: number, first, last -/
abbrev Sp := Int × Int × Int
def fst (s : Sp) : Int := s.2.1
def lst (s : Sp) : Int := s.2.2
def adj (a b : Sp) : Prop := fst a ≤ lst b ∧ fst b ≤ lst a
theorem adj_symm {a b : Sp} (h : adj a b) : adj b a := ⟨h.2, h.1⟩
/-- no part that is closed, but all -/
def Conn (l : List Sp) : Prop := ∀ S : Sp → Prop, (∃ a, a ∈ l ∧ S a) → (∀ a ∈ l, ∀ b ∈ l, S a → adj a b → S b) → ∀ b ∈ l, S b
theorem Conn.one (s : Sp) : Conn [s] := fun S ⟨a, ha, h⟩ _ b hb => by
  rw [List.mem_singleton] at ha hb
  rw [hb, ← ha]; exact h
theorem Conn.join {p q : List Sp} (hp : Conn p) (hq : Conn q) (h : ∃ a ∈ p, ∃ b ∈ q, adj a b) : Conn (p ++ q) := by
  obtain ⟨a, ha, b, hb, hab⟩ := h
  intro S ⟨x, hx, sx⟩ cl
  have clp : ∀ a ∈ p, ∀ b ∈ p, S a → adj a b → S b := fun a ha b hb => cl a (List.mem_append_left _ ha) b (List.mem_append_left _ hb)
  have clq : ∀ a ∈ q, ∀ b ∈ q, S a → adj a b → S b := fun a ha b hb => cl a (List.mem_append_right _ ha) b (List.mem_append_right _ hb)
  have both : (∀ y ∈ p, S y) ∧ ∀ y ∈ q, S y := by
    rcases List.mem_append.mp hx with m | m
    · have h1 := hp S ⟨x, m, sx⟩ clp
      exact ⟨h1, hq S ⟨b, hb, cl a (List.mem_append_left _ ha) b (List.mem_append_right _ hb) (h1 a ha) hab⟩ clq⟩
    · have h1 := hq S ⟨x, m, sx⟩ clq
      exact ⟨hp S ⟨a, ha, cl b (List.mem_append_right _ hb) a (List.mem_append_left _ ha) (h1 b hb) (adj_symm hab)⟩ clp, h1⟩
  intro y hy
  rcases List.mem_append.mp hy with m | m
  · exact both.1 y m
  · exact both.2 y m
theorem Conn.perm {p q : List Sp} (h : p.Perm q) (hp : Conn p) : Conn q := fun S ⟨a, ha, sa⟩ cl b hb =>
  hp S ⟨a, h.mem_iff.mpr ha, sa⟩ (fun a ha b hb => cl a (h.mem_iff.mp ha) b (h.mem_iff.mp hb)) b (h.mem_iff.mpr hb)
def far (p q : List Sp) : Prop := ∀ a ∈ p, ∀ b ∈ q, ¬ adj a b
structure Part (P : List (List Sp)) (l : List Sp) : Prop where
  all : P.flatten.Perm l
  con : ∀ p ∈ P, p ≠ [] ∧ Conn p
  far : P.Pairwise far
def sortI (l : List Int) : List Int := l.mergeSort fun a b => decide (a ≤ b)
def nums (l : List Sp) : List Int := l.map (·.1)
def canon (P : List (List Sp)) : List (List Int) := ((P.filter fun p => decide (1 < p.length)).map fun p => sortI (nums p)).mergeSort fun a b => decide (a ≤ b)
theorem sortI_perm (l : List Int) : (sortI l).Perm l := List.mergeSort_perm _ _
theorem sortI_sorted (l : List Int) : (sortI l).Pairwise (· ≤ ·) := by
  have := List.pairwise_mergeSort (le := fun a b : Int => decide (a ≤ b)) (fun a b c h1 h2 => by simp at *; omega) (fun a b => by simp; omega) l
  simpa [sortI] using this
theorem sortI_eq {a b : List Int} (h : a.Perm b) : sortI a = sortI b :=
  List.Perm.eq_of_pairwise (le := fun x y : Int => x ≤ y) (fun x y _ _ h1 h2 => Int.le_antisymm h1 h2) (sortI_sorted a) (sortI_sorted b) ((sortI_perm a).trans (h.trans (sortI_perm b).symm))
theorem sortL_eq {a b : List (List Int)} (h : a.Perm b) : (a.mergeSort fun a b => decide (a ≤ b)) = b.mergeSort fun a b => decide (a ≤ b) := by
  have s : ∀ l : List (List Int), (l.mergeSort fun a b => decide (a ≤ b)).Pairwise (· ≤ ·) := fun l => by
    have := List.pairwise_mergeSort (le := fun a b : List Int => decide (a ≤ b)) (fun a b c h1 h2 => by simp at *; exact List.le_trans h1 h2) (fun a b => by simp; exact List.le_total a b) l
    simpa using this
  exact List.Perm.eq_of_pairwise (le := fun x y : List Int => x ≤ y) (fun x y _ _ h1 h2 => List.le_antisymm h1 h2) (s a) (s b) ((List.mergeSort_perm _ _).trans (h.trans (List.mergeSort_perm _ _).symm))
def NumOk (l : List Sp) : Prop := l.Pairwise fun a b => a.1 ≠ b.1
theorem NumOk.perm {a b : List Sp} (h : a.Perm b) (n : NumOk a) : NumOk b := (h.pairwise_iff (fun h => h.symm)).mp n
theorem NumOk.inj {l : List Sp} (n : NumOk l) {a b : Sp} (ha : a ∈ l) (hb : b ∈ l) (e : a.1 = b.1) : a = b := by
  induction l with
  | nil => cases ha
  | cons x l ih =>
    obtain ⟨h1, h2⟩ := List.pairwise_cons.mp n
    rcases List.mem_cons.mp ha with ea | ma <;> rcases List.mem_cons.mp hb with eb | mb
    · rw [ea, eb]
    · rw [ea] at e; exact absurd e (h1 b mb)
    · rw [eb] at e; exact absurd e.symm (h1 a ma)
    · exact ih h2 ma mb
theorem NumOk.nodup {l : List Sp} (n : NumOk l) : l.Nodup := n.imp fun h e => h (by rw [e])
theorem Part.sub {P : List (List Sp)} {l : List Sp} (h : Part P l) {p : List Sp} (hp : p ∈ P) {a : Sp} (ha : a ∈ p) : a ∈ l := h.all.mem_iff.mp (List.mem_flatten.mpr ⟨p, hp, ha⟩)
theorem Part.find {P : List (List Sp)} {l : List Sp} (h : Part P l) {a : Sp} (ha : a ∈ l) : ∃ p ∈ P, a ∈ p := List.mem_flatten.mp (h.all.mem_iff.mpr ha)
theorem Part.apart {P : List (List Sp)} {l : List Sp} (h : Part P l) {p q : List Sp} (hp : p ∈ P) (hq : q ∈ P) (hn : p ≠ q) : Law.far p q := by
  obtain ⟨i, hi, rfl⟩ := List.mem_iff_getElem.mp hp
  obtain ⟨j, hj, rfl⟩ := List.mem_iff_getElem.mp hq
  have := List.pairwise_iff_getElem.mp h.far
  rcases Nat.lt_trichotomy i j with c | c | c
  · exact this i j hi hj c
  · subst c; exact absurd rfl hn
  · exact fun a ha b hb z => this j i hj hi c b hb a ha (adj_symm z)
theorem Part.sub_part {P Q : List (List Sp)} {l m : List Sp} (hP : Part P l) (hQ : Part Q m) (lm : l.Perm m) {p q : List Sp} (hp : p ∈ P) (hq : q ∈ Q) (h : ∃ a, a ∈ p ∧ a ∈ q) : ∀ b ∈ p, b ∈ q :=
  (hP.con p hp).2 (· ∈ q) h fun a ha b hb aq ab => by
    obtain ⟨q', hq', bq⟩ := hQ.find (lm.mem_iff.mp (hP.sub hp hb))
    by_cases e : q = q'
    · rw [e]; exact bq
    · exact absurd ab (hQ.apart hq hq' e a aq b bq)
theorem perm_of_mem {a b : List Sp} (ha : a.Nodup) (hb : b.Nodup) (h : ∀ x, x ∈ a ↔ x ∈ b) : a.Perm b := (List.perm_ext_iff_of_nodup ha hb).mpr h
theorem Part.nodup {P : List (List Sp)} {l : List Sp} (h : Part P l) (n : NumOk l) : (∀ p ∈ P, NumOk p) ∧ P.Pairwise fun p q => ∀ a ∈ p, ∀ b ∈ q, a.1 ≠ b.1 :=
  List.pairwise_flatten.mp (n.perm h.all.symm)
theorem Part.keys {P : List (List Sp)} {l : List Sp} (h : Part P l) (n : NumOk l) : ((P.filter fun p => decide (1 < p.length)).map fun p => sortI (nums p)).Nodup := by
  have h2 := (h.nodup n).2
  have h3 : (P.filter fun p => decide (1 < p.length)).Pairwise fun p q => ∀ a ∈ p, ∀ b ∈ q, a.1 ≠ b.1 := h2.sublist List.filter_sublist
  refine List.pairwise_map.mpr ?_
  refine List.Pairwise.imp_of_mem (fun {p q} hp hq hd e => ?_) h3
  obtain ⟨hp, lp⟩ := List.mem_filter.mp hp
  have lp : 1 < p.length := of_decide_eq_true lp
  obtain ⟨a, ha⟩ := List.exists_mem_of_length_pos (show 0 < p.length by omega)
  have m : a.1 ∈ nums q := by
    have : a.1 ∈ sortI (nums p) := (sortI_perm _).mem_iff.mpr (List.mem_map_of_mem ha)
    rw [e] at this
    exact (sortI_perm _).mem_iff.mp this
  obtain ⟨b, hb, e2⟩ := List.mem_map.mp m
  exact hd a ha b hb e2.symm
theorem Part.same {P Q : List (List Sp)} {l m : List Sp} (hP : Part P l) (hQ : Part Q m) (lm : l.Perm m) (n : NumOk l) : canon P = canon Q := by
  have nm := n.perm lm
  unfold canon
  refine sortL_eq ?_
  have half : ∀ {P Q : List (List Sp)} {l m : List Sp} (hP : Part P l) (hQ : Part Q m) (lm : l.Perm m) (n : NumOk l) (k : List Int), k ∈ ((P.filter fun p => decide (1 < p.length)).map fun p => sortI (nums p)) → k ∈ ((Q.filter fun p => decide (1 < p.length)).map fun p => sortI (nums p)) := by
    intro P Q l m hP hQ lm n k hk
    obtain ⟨p, hp, rfl⟩ := List.mem_map.mp hk
    obtain ⟨hp, lp⟩ := List.mem_filter.mp hp
    have lp : 1 < p.length := of_decide_eq_true lp
    obtain ⟨a, ha⟩ := List.exists_mem_of_length_pos (show 0 < p.length by omega)
    obtain ⟨q, hq, aq⟩ := hQ.find (lm.mem_iff.mp (hP.sub hp ha))
    have s1 := hP.sub_part hQ lm hp hq ⟨a, ha, aq⟩
    have s2 := hQ.sub_part hP lm.symm hq hp ⟨a, aq, ha⟩
    have pq : p.Perm q := perm_of_mem ((hP.nodup n).1 p hp).nodup ((hQ.nodup (n.perm lm)).1 q hq).nodup fun x => ⟨s1 x, s2 x⟩
    refine List.mem_map.mpr ⟨q, List.mem_filter.mpr ⟨hq, ?_⟩, (sortI_eq (pq.map _)).symm⟩
    rw [← pq.length_eq]; exact decide_eq_true lp
  exact (List.perm_ext_iff_of_nodup (hP.keys n) (hQ.keys nm)).mpr fun k => ⟨half hP hQ lm n k, half hQ hP lm.symm nm k⟩
/-! ### the sweep -/
def swp : List Sp → List Sp → Int → List (List Sp)
  | [], h, _ => [h]
  | s :: r, h, e => if fst s ≤ e then swp r (h ++ [s]) (if lst s > e then lst s else e) else h :: swp r [s] (lst s)
theorem swp_flat : ∀ (r h : List Sp) (e : Int), (swp r h e).flatten = h ++ r
  | [], h, _ => by simp [swp]
  | s :: r, h, e => by
    unfold swp
    split
    · rw [swp_flat]; simp
    · rw [List.flatten_cons, swp_flat]; simp
theorem swp_part : ∀ (r h : List Sp) (e : Int), h ≠ [] → Conn h → (∃ x ∈ h, lst x = e) → (∀ x ∈ h, lst x ≤ e) → (∀ x ∈ h, ∀ s ∈ r, fst x ≤ fst s) → r.Pairwise (fun a b => fst a ≤ fst b) → (∀ s ∈ h ++ r, fst s ≤ lst s) →
    (∀ p ∈ swp r h e, p ≠ [] ∧ Conn p) ∧ (swp r h e).Pairwise far
  | [], h, e, h0, hc, _, _, _, _, _ => ⟨fun p hp => by rw [swp, List.mem_singleton] at hp; rw [hp]; exact ⟨h0, hc⟩, by rw [swp]; exact List.pairwise_singleton _ _⟩
  | s :: r, h, e, h0, hc, ⟨x, hx, ex⟩, hm, hs, hr, ho => by
    obtain ⟨r1, r2⟩ := List.pairwise_cons.mp hr
    unfold swp
    split
    · rename_i c
      have so := ho s (by simp)
      have xs := hs x hx s (by simp)
      refine swp_part r (h ++ [s]) _ (by simp) (hc.join (Conn.one s) ⟨x, hx, s, by simp, by unfold adj; omega⟩) ?_ ?_ ?_ r2 (fun y hy => ho y (by simpa using hy))
      · split
        · exact ⟨s, by simp, rfl⟩
        · exact ⟨x, by simp [hx], ex⟩
      · intro y hy
        rcases List.mem_append.mp hy with hy | hy
        · have := hm y hy
          split <;> omega
        · rw [List.mem_singleton.mp hy]
          split <;> omega
      · intro y hy z hz
        rcases List.mem_append.mp hy with hy | hy
        · exact hs y hy z (by simp [hz])
        · rw [List.mem_singleton.mp hy]; exact r1 z hz
    · rename_i c
      have ih := swp_part r [s] (lst s) (by simp) (Conn.one s) ⟨s, by simp, rfl⟩ (fun y hy => by rw [List.mem_singleton.mp hy]; exact Int.le_refl _) (fun y hy z hz => by rw [List.mem_singleton.mp hy]; exact r1 z hz) r2 (fun y hy => ho y (List.mem_append_right _ (by simpa using hy)))
      refine ⟨fun p hp => ?_, List.pairwise_cons.mpr ⟨fun p hp a ha b hb z => ?_, ih.2⟩⟩
      · rcases List.mem_cons.mp hp with rfl | hp
        · exact ⟨h0, hc⟩
        · exact ih.1 p hp
      · have mb : b ∈ s :: r := by
          have : b ∈ (swp r [s] (lst s)).flatten := List.mem_flatten.mpr ⟨p, hp, hb⟩
          rw [swp_flat] at this
          simpa using this
        have la := hm a ha
        have fb : fst s ≤ fst b := by
          rcases List.mem_cons.mp mb with rfl | mb
          · exact Int.le_refl _
          · exact r1 b mb
        have := z.2
        omega
def parts : List Sp → List (List Sp)
  | [] => []
  | s :: r => swp r [s] (lst s)
theorem parts_part {l : List Sp} (h : l.Pairwise fun a b => fst a ≤ fst b) (ho : ∀ s ∈ l, fst s ≤ lst s) : Part (parts l) l := by
  cases l with
  | nil => exact ⟨.refl _, by simp [parts], List.Pairwise.nil⟩
  | cons s r =>
    obtain ⟨r1, r2⟩ := List.pairwise_cons.mp h
    have := swp_part r [s] (lst s) (by simp) (Conn.one s) ⟨s, by simp, rfl⟩ (fun y hy => by rw [List.mem_singleton.mp hy]; exact Int.le_refl _) (fun y hy z hz => by rw [List.mem_singleton.mp hy]; exact r1 z hz) r2 (fun y hy => ho y (by simpa using hy))
    exact ⟨by show (swp r [s] (lst s)).flatten.Perm _; rw [swp_flat]; exact .refl _, this.1, this.2⟩
/-- by first -/
def byFst (l : List Sp) : List Sp := l.mergeSort fun a b => decide (fst a ≤ fst b)
/-- the numbers of those that hang together -/
def lotsR (l : List Sp) : List (List Int) := canon (parts (byFst l))
theorem byFst_ok (l : List Sp) : (byFst l).Perm l ∧ (byFst l).Pairwise fun a b => fst a ≤ fst b := by
  refine ⟨List.mergeSort_perm _ _, ?_⟩
  have := List.pairwise_mergeSort (le := fun a b : Sp => decide (fst a ≤ fst b)) (fun a b c h1 h2 => by simp at *; omega) (fun a b => by simp; omega) l
  simpa [byFst] using this
/-- any lot that is a part of it -/
theorem lots_of {P : List (List Sp)} {l m : List Sp} (hP : Part P m) (lm : m.Perm l) (n : NumOk l) (ho : ∀ s ∈ l, fst s ≤ lst s) : canon P = lotsR l := by
  obtain ⟨p, s⟩ := byFst_ok l
  have := parts_part s fun x hx => ho x (p.mem_iff.mp hx)
  exact hP.same this (lm.trans p.symm) (n.perm lm.symm)
/-! ### spans as data -/
def spD (s : Sp) : D := .tup [.int s.1, .int s.2.1, .int s.2.2]
theorem spPl (s : Sp) : Pl (spD s) := Pl.tup3 (Pl.int _) (Pl.int _) (Pl.int _)
instance : PlF spD := ⟨spPl⟩
section
variable (s : Sp)
@[simp] theorem sp_sh : isSh (spD s) = true := (spPl s).sh
@[simp] theorem sp_ob : noOb (spD s) = true := (spPl s).ob
@[simp] theorem sp_al : noAl (spD s) = true := (spPl s).al
@[simp] theorem sp_fz : fz (spD s) = spD s := (spPl s).fz
@[simp] theorem sp_py : pyOk (spD s) = true := (spPl s).py
theorem sp_dep : dep (spD s) ≤ 1 := by simp [spD, dep, deps]
theorem sp_lenB : lenB (spD s) = true := by
  have := line_big
  simp [spD, lenB, lenBs]; try omega
end
section
variable (l : List Sp)
theorem sps_sh : isShs (l.map spD) = true := isShs_map (f := spD) sp_sh l
theorem sps_ob : noObs (l.map spD) = true := noObs_map (f := spD) sp_ob l
theorem sps_fz : fzs (l.map spD) = l.map spD := fzs_mapG (f := spD) sp_fz l
theorem sps_py : pyOks (l.map spD) = true := by rw [pyOks_all, List.all_map, List.all_eq_true]; exact fun p _ => sp_py p
end
def gS (l : List Sp) (k : Nat) : Sp := l.getD k (0, 0, 0)
theorem gS_at {l : List Sp} {k : Nat} (h : k < l.length) : l[k]? = some (gS l k) := by
  unfold gS
  rw [List.getD_eq_getElem?_getD, List.getElem?_eq_getElem h]; rfl
theorem sps_at {l : List Sp} {k : Nat} (h : k < l.length) : atI (l.map spD) (k : Int) = some (spD (gS l k)) := atI_ofNat (by rw [List.getElem?_map, gS_at h]; rfl)
/-! ### lists of lists of numbers -/
def lsF (l : List Int) : D := .lst false (l.map D.int)
@[simp] theorem ls_sh (l : List Int) : isSh (lsF l) = true := by simp [lsF, isSh, ints_sh]
@[simp] theorem ls_ob (l : List Int) : noOb (lsF l) = true := by simp [lsF, noOb]
@[simp] theorem ls_fz (l : List Int) : fz (lsF l) = lsF l := by simp [lsF, fz]
theorem lss_sh (L : List (List Int)) : isShs (L.map lsF) = true := isShs_map (f := lsF) ls_sh L
theorem lss_ob (L : List (List Int)) : noObs (L.map lsF) = true := noObs_map (f := lsF) ls_ob L
theorem lss_fz (L : List (List Int)) : fzs (L.map lsF) = L.map lsF := fzs_mapG (f := lsF) ls_fz L
theorem ints_py (l : List Int) : pyOks (l.map D.int) = true := by rw [pyOks_all, List.all_map, List.all_eq_true]; exact fun _ _ => rfl
theorem lss_py (L : List (List Int)) : pyOks (L.map lsF) = true := by
  rw [pyOks_all, List.all_map, List.all_eq_true]; exact fun p _ => ints_py p
theorem toPys_int : ∀ l : List Int, toPys (l.map D.int) = l.map PyData.int
  | [] => rfl
  | i :: l => by rw [List.map_cons, toPys, toPys_int l]; rfl
theorem toPy_ls (l : List Int) : toPy (lsF l) = .list (l.map .int) := by
  show PyData.list (toPys _) = _
  rw [toPys_int]
theorem alike_ints : ∀ a b : List Int, PySem.W.alikeAll (a.map PyData.int) (b.map PyData.int) = true
  | [], _ => by simp [PySem.W.alikeAll]
  | _ :: _, [] => by simp [PySem.W.alikeAll]
  | x :: a, y :: b => by
    rw [List.map_cons, List.map_cons, PySem.W.alikeAll, alike_ints a b]; simp [PySem.W.alike]
theorem depth_ints : ∀ l : List Int, PyData.depthAll (l.map PyData.int) ≤ 1
  | [] => by simp [PyData.depthAll]
  | i :: l => by have := depth_ints l; simp [PyData.depthAll, PyData.depth]; omega
/-- sorted of lists of numbers -/
theorem fSorted_rows {o : Bool} {L : List (List Int)} {Q : D → Prop} : fSorted [.lst o (L.map lsF)] Q ↔ Q (.lst true ((L.mergeSort fun a b => decide (a ≤ b)).map lsF)) := by
  have so : SrtOk (L.map lsF) := SrtOk.map (fun a b => by
    rw [toPy_ls, toPy_ls]
    simp only [PySem.W.alike]
    exact alike_ints a b) (.inr fun a => ⟨by rw [toPy_ls]; simp, fun xs => by rw [toPy_ls]; simp⟩) fun a => by
    rw [toPy_ls]
    have := depth_ints a
    simp only [PyData.depth]; omega
  have e : srtD (L.map lsF) = (L.mergeSort fun a b => decide (a ≤ b)).map lsF := srtD_map fun a b => by
    have := congrFun (congrFun (PySem.W.dataLe_rows (fun i : List Int => i)) a) b
    rw [← this]
    show PySem.W.dataLe false toPy (lsF a) (lsF b) = _
    rw [PySem.W.dataLe_eq, PySem.W.dataLe_eq]
    simp only [toPy_ls]
  show (pyOks _ = true ∧ SrtOk _ ∧ _) ↔ _
  rw [e]
  exact ⟨fun h => h.2.2, fun h => ⟨lss_py L, so, h⟩⟩
def srtS (l : List Sp) : List Sp := l.mergeSort fun a b => PySem.W.dataLe false toPy (spD a) (spD b)
theorem srtS_perm (l : List Sp) : (srtS l).Perm l := List.mergeSort_perm _ _
theorem fSorted_sp {o : Bool} {l : List Sp} {Q : D → Prop} : fSorted [.lst o (l.map spD)] Q ↔ Q (.lst true ((srtS l).map spD)) := by
  have tp : ∀ s : Sp, toPy (spD s) = .tuple [.int s.1, .int s.2.1, .int s.2.2] := fun s => by simp [spD, toPy, toPys]
  have so : SrtOk (l.map spD) := SrtOk.map (fun a b => by
    rw [tp, tp]
    simp [PySem.W.alike, PySem.W.alikeAll]) (.inl fun a => ⟨_, _, tp a⟩) fun a => by
    rw [tp]
    simp [PyData.depth, PyData.depthAll]
  have e : srtD (l.map spD) = (srtS l).map spD := srtD_map fun a b => rfl
  show (pyOks _ = true ∧ SrtOk _ ∧ _) ↔ _
  rw [e]
  exact ⟨fun h => h.2.2, fun h => ⟨sps_py l, so, h⟩⟩
theorem srtS_asc (l : List Sp) : (srtS l).Pairwise fun a b => a.1 ≤ b.1 := by
  have tp : ∀ s : Sp, toPy (spD s) = .tuple [.int s.1, .int s.2.1, .int s.2.2] := fun s => by simp [spD, toPy, toPys]
  have tl := PySem.W.sortLe_total (PyProof.Rows.listOrd PyProof.Rows.itemOrd) false (fun s : Sp => PySem.W.keyToks (toPy (spD s)))
  have := List.pairwise_mergeSort (le := fun a b : Sp => PySem.W.dataLe false toPy (spD a) (spD b)) tl.trans (fun a b => by rw [Bool.or_eq_true]; exact tl.total a b) l
  refine this.imp fun {a b} h => ?_
  rw [PySem.W.dataLe_eq] at h
  simp only [cond_false, Bool.not_eq_true'] at h
  rw [tp, tp, PySem.W.dataLt_tuple, PySem.W.dataLt_cons (by simp [PySem.W.alike])] at h
  by_cases c : a.1 = b.1
  · omega
  · rw [if_neg (by simp [PyData.eqv]; omega), PySem.W.dataLt_int] at h
    have := of_decide_eq_false h
    omega
/-! ### greatest, least -/
def mn : List Int → Int
  | [] => 0
  | [a] => a
  | a :: b :: l => min a (mn (b :: l))
def mx : List Int → Int
  | [] => 0
  | [a] => a
  | a :: b :: l => max a (mx (b :: l))
theorem mn_mem : ∀ {l : List Int}, l ≠ [] → mn l ∈ l ∧ ∀ y ∈ l, mn l ≤ y
  | [], h => absurd rfl h
  | [a], _ => ⟨by simp [mn], by simp [mn]⟩
  | a :: b :: l, _ => by
    obtain ⟨h1, h2⟩ := mn_mem (l := b :: l) (by simp)
    rw [mn]
    refine ⟨?_, fun y hy => ?_⟩
    · rcases Int.le_total a (mn (b :: l)) with h | h
      · rw [Int.min_eq_left h]; exact List.mem_cons_self
      · rw [Int.min_eq_right h]; exact List.mem_cons_of_mem _ h1
    · rcases List.mem_cons.mp hy with rfl | hy
      · exact Int.min_le_left _ _
      · exact Int.le_trans (Int.min_le_right _ _) (h2 y hy)
theorem mx_mem : ∀ {l : List Int}, l ≠ [] → mx l ∈ l ∧ ∀ y ∈ l, y ≤ mx l
  | [], h => absurd rfl h
  | [a], _ => ⟨by simp [mx], by simp [mx]⟩
  | a :: b :: l, _ => by
    obtain ⟨h1, h2⟩ := mx_mem (l := b :: l) (by simp)
    rw [mx]
    refine ⟨?_, fun y hy => ?_⟩
    · rcases Int.le_total a (mx (b :: l)) with h | h
      · rw [Int.max_eq_right h]; exact List.mem_cons_of_mem _ h1
      · rw [Int.max_eq_left h]; exact List.mem_cons_self
    · rcases List.mem_cons.mp hy with rfl | hy
      · exact Int.le_max_left _ _
      · exact Int.le_trans (h2 y hy) (Int.le_max_right _ _)
theorem mn_eq {l : List Int} {m : Int} (h : m ∈ l) (h2 : ∀ y ∈ l, m ≤ y) : m = mn l := by
  obtain ⟨a, b⟩ := mn_mem (l := l) (fun z => by rw [z] at h; cases h)
  exact Int.le_antisymm (h2 _ a) (b _ h)
theorem mx_eq {l : List Int} {m : Int} (h : m ∈ l) (h2 : ∀ y ∈ l, y ≤ m) : m = mx l := by
  obtain ⟨a, b⟩ := mx_mem (l := l) (fun z => by rw [z] at h; cases h)
  exact Int.le_antisymm (b _ h) (h2 _ a)
/-- spans that are right -/
structure SpOk (l : List Sp) : Prop where
  num : NumOk l
  pos : ∀ s ∈ l, 0 ≤ s.1
  ord : ∀ s ∈ l, 0 ≤ fst s ∧ fst s ≤ lst s
  sml : ∀ s ∈ l, lst s < 1000000
  len : l.length ≤ 50
/-! ### lengths of levels -/
def szK (len times : Int) (k : Nat) : Int := len * times ^ k
theorem szK_succ (len times : Int) (k : Nat) : szK len times (k + 1) = szK len times k * times := by
  unfold szK
  rw [Int.pow_succ, Int.mul_assoc]
theorem szK_pos {len times : Int} (h1 : 1 ≤ len) (h2 : 2 ≤ times) : ∀ k : Nat, (k : Int) + 1 ≤ szK len times k ∧ (2 : Int) ^ k ≤ szK len times k
  | 0 => by simp [szK]; omega
  | k + 1 => by
    obtain ⟨a, b⟩ := szK_pos h1 h2 k
    rw [szK_succ]
    have : szK len times k * 2 ≤ szK len times k * times := Int.mul_le_mul_of_nonneg_left h2 (by omega)
    rw [Int.pow_succ]
    constructor <;> omega
theorem szK_le {len times : Int} (h1 : 1 ≤ len) (h1' : len ≤ 16) (h2 : 2 ≤ times) (h2' : times ≤ 4) : ∀ k : Nat, szK len times k ≤ 16 * 4 ^ k
  | 0 => by simp [szK]; omega
  | k + 1 => by
    have a := szK_le h1 h1' h2 h2' k
    obtain ⟨b, _⟩ := szK_pos h1 h2 k
    rw [szK_succ, Int.pow_succ]
    have : szK len times k * times ≤ szK len times k * 4 := Int.mul_le_mul_of_nonneg_left h2' (by omega)
    omega
theorem szK_mono {len times : Int} (h1 : 1 ≤ len) (h2 : 2 ≤ times) {a b : Nat} (h : a ≤ b) : szK len times a ≤ szK len times b := by
  induction b with
  | zero => rw [show a = 0 by omega]; exact Int.le_refl _
  | succ b ih =>
    by_cases c : a = b + 1
    · rw [c]; exact Int.le_refl _
    · have := ih (by omega)
      obtain ⟨p, _⟩ := szK_pos h1 h2 b
      rw [szK_succ]
      have : szK len times b * 1 ≤ szK len times b * times := Int.mul_le_mul_of_nonneg_left (by omega) (by omega)
      omega
theorem szK_div {len times : Int} (h2 : 2 ≤ times) (k : Nat) : szK len times (k + 1) / times = szK len times k := by
  rw [szK_succ, Int.mul_ediv_cancel _ (by omega)]
theorem szK_ok {len times : Int} (h1 : 1 ≤ len) (h1' : len ≤ 16) (h2 : 2 ≤ times) (h2' : times ≤ 4) {k : Nat} (hk : k ≤ 30) : 0 < szK len times k ∧ szK len times k < 2 ^ 90 := by
  obtain ⟨b, _⟩ := szK_pos h1 h2 k
  have a := szK_le h1 h1' h2 h2' 30
  have m := szK_mono h1 h2 hk
  have : (16 : Int) * 4 ^ 30 = 18446744073709551616 := by decide
  have : (2 : Int) ^ 90 = 1237940039285380274899124224 := by decide
  omega
/-! ### the next merge -/
def insd (l : List Sp) (z k : Int) : List Int := nums (l.filter fun s => decide (fst s / z = k) && decide (lst s / z = k))
def hit (l : List Sp) (z newest k : Int) : Bool := decide (1 < (insd l z k).length) && decide ((k + 1) * z ≤ newest)
def scanR (l : List Sp) (z newest : Int) (ks : List Int) : Option (List Int) := (ks.find? (hit l z newest)).map fun k => sortI (insd l z k)
def lasts (l : List Sp) : List Int := l.map lst
def firstsZ (l : List Sp) (z : Int) : List Int := l.map fun s => fst s / z
def upTo (n : Nat) : List Int := (List.range n).map fun k : Nat => (k : Int)
def planG (l : List Sp) (times newest most : Int) : Nat → Int → List Int
  | 0, _ => []
  | n + 1, z => if z / times ≤ most then (match scanR l z newest (upTo (most / z + 1).toNat) with
    | some r => r
    | none => planG l times newest most n (z * times)) else []
def planR (l : List Sp) (len times newest : Int) : List Int := match lotsR l with
  | a :: _ => a
  | [] => if l = [] then [] else planG l times newest (mx (lasts l)) 25 (len * times)
/-- the first of ascending ones at which something holds -/
theorem find_asc {p : Int → Bool} : ∀ {xs : List Int}, xs.Pairwise (· < ·) → ∀ {k : Int}, xs.find? p = some k ↔ k ∈ xs ∧ p k = true ∧ ∀ j ∈ xs, j < k → p j = false
  | [], _, k => by simp
  | x :: xs, h, k => by
    obtain ⟨h1, h2⟩ := List.pairwise_cons.mp h
    have ih := find_asc (p := p) h2 (k := k)
    cases c : p x with
    | true =>
      rw [List.find?_cons_of_pos c]
      constructor
      · intro e
        cases e
        refine ⟨List.mem_cons_self, c, fun j hj hlt => ?_⟩
        rcases List.mem_cons.mp hj with rfl | hj
        · omega
        · have := h1 j hj; omega
      · rintro ⟨m, _, f⟩
        rcases List.mem_cons.mp m with rfl | m
        · rfl
        · have := f x List.mem_cons_self (h1 k m)
          rw [c] at this; cases this
    | false =>
      rw [List.find?_cons_of_neg (by simp [c]), ih]
      constructor
      · rintro ⟨m, e, f⟩
        refine ⟨List.mem_cons_of_mem _ m, e, fun j hj hlt => ?_⟩
        rcases List.mem_cons.mp hj with rfl | hj
        · exact c
        · exact f j hj hlt
      · rintro ⟨m, e, f⟩
        rcases List.mem_cons.mp m with rfl | m
        · rw [c] at e; cases e
        · exact ⟨m, e, fun j hj => f j (List.mem_cons_of_mem _ hj)⟩
theorem find_same {p : Int → Bool} {xs ys : List Int} (hx : xs.Pairwise (· < ·)) (hy : ys.Pairwise (· < ·)) (h : ∀ k, p k = true → (k ∈ xs ↔ k ∈ ys)) : xs.find? p = ys.find? p := by
  have key : ∀ {xs ys : List Int}, xs.Pairwise (· < ·) → ys.Pairwise (· < ·) → (∀ k, p k = true → (k ∈ xs ↔ k ∈ ys)) → ∀ k, xs.find? p = some k → ys.find? p = some k := by
    intro xs ys hx hy h k e
    obtain ⟨m, e, f⟩ := (find_asc hx).mp e
    refine (find_asc hy).mpr ⟨(h k e).mp m, e, fun j hj hlt => ?_⟩
    cases c : p j with
    | false => rfl
    | true =>
      have := f j ((h j c).mpr hj) hlt
      rw [c] at this; cases this
  cases c : xs.find? p with
  | some k => exact (key hx hy h k c).symm
  | none =>
    cases d : ys.find? p with
    | none => rfl
    | some k =>
      have := key hy hx (fun k e => (h k e).symm) k d
      rw [c] at this; cases this
theorem upTo_asc (n : Nat) : (upTo n).Pairwise (· < ·) := by
  unfold upTo
  rw [List.pairwise_map]
  exact List.pairwise_lt_range.imp fun h => by omega
theorem mem_upTo {n : Nat} {k : Int} : k ∈ upTo n ↔ 0 ≤ k ∧ k < n := by
  unfold upTo
  rw [List.mem_map]
  constructor
  · rintro ⟨a, ha, rfl⟩
    have := List.mem_range.mp ha
    omega
  · rintro ⟨h1, h2⟩
    exact ⟨k.toNat, List.mem_range.mpr (by omega), by omega⟩
theorem insd_mem {l : List Sp} {z k : Int} (h : 1 < (insd l z k).length) : ∃ s ∈ l, fst s / z = k ∧ lst s / z = k := by
  unfold insd nums at h
  rw [List.length_map] at h
  obtain ⟨s, hs⟩ := List.exists_mem_of_length_pos (show 0 < (l.filter fun s => decide (fst s / z = k) && decide (lst s / z = k)).length by omega)
  obtain ⟨a, b⟩ := List.mem_filter.mp hs
  rw [Bool.and_eq_true, decide_eq_true_iff, decide_eq_true_iff] at b
  exact ⟨s, a, b.1, b.2⟩
/-- looking at the begins alone is enough -/
theorem scan_same {l : List Sp} {z newest : Int} (ok : SpOk l) (l0 : l ≠ []) (hz : 0 < z) {ys : List Int} (hy : ys.Pairwise (· < ·)) (hm : ∀ k, k ∈ ys ↔ k ∈ firstsZ l z) : scanR l z newest ys = scanR l z newest (upTo (mx (lasts l) / z + 1).toNat) := by
  unfold scanR
  rw [find_same hy (upTo_asc _) fun k hk => ?_]
  have hl : lasts l ≠ [] := fun e => l0 (List.map_eq_nil_iff.mp e)
  unfold hit at hk
  rw [Bool.and_eq_true, decide_eq_true_iff] at hk
  obtain ⟨s, hs, e1, e2⟩ := insd_mem hk.1
  rw [hm, mem_upTo]
  constructor
  · intro _
    have o := ok.ord s hs
    have m := (mx_mem hl).2 (lst s) (List.mem_map_of_mem hs)
    have d : lst s / z ≤ mx (lasts l) / z := Int.ediv_le_ediv hz m
    have p : 0 ≤ fst s / z := Int.ediv_nonneg o.1 (by omega)
    omega
  · intro _
    exact List.mem_map.mpr ⟨s, hs, e1⟩
/-- what is inside a part -/
theorem inside_iff {z k f e : Int} (hz : 0 < z) (h0 : 0 ≤ f) (h1 : f ≤ e) : (k * z ≤ f ∧ e < (k + 1) * z) ↔ (f / z = k ∧ e / z = k) := by
  have m1 : f / z * z ≤ f := Int.ediv_mul_le f (by omega)
  have m2 : f < (f / z + 1) * z := Int.lt_ediv_add_one_mul_self f hz
  have m3 : e / z * z ≤ e := Int.ediv_mul_le e (by omega)
  have m4 : e < (e / z + 1) * z := Int.lt_ediv_add_one_mul_self e hz
  constructor
  · rintro ⟨a, b⟩
    have x1 : k ≤ f / z := (Int.le_ediv_iff_mul_le hz).mpr a
    have x2 : e / z < k + 1 := (Int.ediv_lt_iff_lt_mul hz).mpr b
    have x3 : f / z ≤ e / z := Int.ediv_le_ediv hz h1
    omega
  · rintro ⟨a, b⟩
    rw [a] at m1
    rw [b] at m4
    exact ⟨m1, m4⟩
/-- what a merge takes -/
theorem sortI_len (l : List Int) : (sortI l).length = l.length := (sortI_perm l).length_eq
structure PlanOk (l : List Sp) (r : List Int) : Prop where
  two : 2 ≤ r.length
  nd : r.Nodup
  sub : ∀ n ∈ r, n ∈ nums l
theorem nums_nodup {l : List Sp} (n : NumOk l) : (nums l).Nodup := List.pairwise_map.mpr n
theorem lots_ok {l : List Sp} (ok : SpOk l) {r : List Int} (h : r ∈ lotsR l) : PlanOk l r := by
  unfold lotsR canon at h
  have h := (List.mergeSort_perm _ _).mem_iff.mp h
  obtain ⟨p, hp, rfl⟩ := List.mem_map.mp h
  obtain ⟨hp, lp⟩ := List.mem_filter.mp hp
  obtain ⟨bp, bs⟩ := byFst_ok l
  have pp := parts_part bs fun x hx => (ok.ord x (bp.mem_iff.mp hx)).2
  have np := (pp.nodup (ok.num.perm bp.symm)).1 p hp
  have lp : 1 < p.length := of_decide_eq_true lp
  refine ⟨by rw [sortI_len, nums, List.length_map]; omega, (sortI_perm _).nodup_iff.mpr (nums_nodup np), fun n hn => ?_⟩
  obtain ⟨s, hs, rfl⟩ := List.mem_map.mp ((sortI_perm _).mem_iff.mp hn)
  exact List.mem_map_of_mem (bp.mem_iff.mp (pp.sub hp hs))
theorem scan_ok {l : List Sp} (ok : SpOk l) {z newest : Int} {ks r : List Int} (h : scanR l z newest ks = some r) : PlanOk l r := by
  unfold scanR at h
  obtain ⟨k, hk, rfl⟩ := Option.map_eq_some_iff.mp h
  have hh := List.find?_some hk
  unfold hit at hh
  rw [Bool.and_eq_true, decide_eq_true_iff] at hh
  refine ⟨by rw [sortI_len]; omega, (sortI_perm _).nodup_iff.mpr ?_, fun n hn => ?_⟩
  · unfold insd
    exact nums_nodup (List.Pairwise.sublist List.filter_sublist ok.num)
  · have hn := (sortI_perm _).mem_iff.mp hn
    unfold insd at hn
    obtain ⟨s, hs, rfl⟩ := List.mem_map.mp hn
    exact List.mem_map_of_mem (List.mem_filter.mp hs).1
theorem planG_ok {l : List Sp} (ok : SpOk l) {times newest most : Int} : ∀ {n : Nat} {z : Int}, planG l times newest most n z = [] ∨ PlanOk l (planG l times newest most n z)
  | 0, _ => .inl rfl
  | n + 1, z => by
    unfold planG
    split
    · split
      · rename_i r hr
        exact .inr (scan_ok ok hr)
      · exact planG_ok ok
    · exact .inl rfl
theorem plan_ok {l : List Sp} (ok : SpOk l) {len times newest : Int} : planR l len times newest = [] ∨ PlanOk l (planR l len times newest) := by
  unfold planR
  split
  · rename_i a _ h
    exact .inr (lots_ok ok (by rw [h]; exact List.mem_cons_self))
  · split
    · exact .inl rfl
    · exact planG_ok ok
/-! ### merging on -/
def taken (l : List Sp) (r : List Int) : List Sp := l.filter fun s => decide (s.1 ∈ r)
def left (l : List Sp) (r : List Int) : List Sp := l.filter fun s => !decide (s.1 ∈ r)
def firsts (l : List Sp) : List Int := l.map fst
def merged (l : List Sp) (r : List Int) (n : Int) : List Sp := left l r ++ [(n, mn (firsts (taken l r)), mx (lasts (taken l r)))]
theorem taken_len {l : List Sp} (ok : NumOk l) {r : List Int} (h : PlanOk l r) : (taken l r).length = r.length := by
  have e : (nums (taken l r)).Perm r := by
    refine (List.perm_ext_iff_of_nodup (nums_nodup (List.Pairwise.sublist List.filter_sublist ok)) h.nd).mpr fun n => ⟨fun hn => ?_, fun hn => ?_⟩
    · obtain ⟨s, hs, rfl⟩ := List.mem_map.mp hn
      exact of_decide_eq_true (List.mem_filter.mp hs).2
    · obtain ⟨s, hs, e⟩ := List.mem_map.mp (h.sub n hn)
      exact List.mem_map.mpr ⟨s, List.mem_filter.mpr ⟨hs, by rw [e]; exact decide_eq_true hn⟩, e⟩
  have := e.length_eq
  rwa [nums, List.length_map] at this
theorem left_len (l : List Sp) (r : List Int) : (left l r).length + (taken l r).length = l.length := by
  unfold left taken
  induction l with
  | nil => rfl
  | cons s l ih =>
    by_cases c : s.1 ∈ r <;> simp [c] <;> omega
theorem merged_len {l : List Sp} (ok : NumOk l) {r : List Int} (h : PlanOk l r) (n : Int) : (merged l r n).length + 1 ≤ l.length := by
  have a := taken_len ok h
  have b := left_len l r
  have c := h.two
  unfold merged
  rw [List.length_append, List.length_singleton]
  omega
theorem taken_ne {l : List Sp} (ok : NumOk l) {r : List Int} (h : PlanOk l r) : taken l r ≠ [] := fun e => by
  have a := taken_len ok h
  have := h.two
  rw [e] at a
  simp at a; omega
theorem merged_ok {l : List Sp} (ok : SpOk l) {r : List Int} (h : PlanOk l r) {n : Int} (hn : ∀ s ∈ l, s.1 < n) (h0 : 0 ≤ n) : SpOk (merged l r n) ∧ ∀ s ∈ merged l r n, s.1 < n + 1 := by
  have ne := taken_ne ok.num h
  have f0 : firsts (taken l r) ≠ [] := fun e => ne (List.map_eq_nil_iff.mp e)
  have l0 : lasts (taken l r) ≠ [] := fun e => ne (List.map_eq_nil_iff.mp e)
  obtain ⟨a1, a2⟩ := mn_mem f0
  obtain ⟨b1, b2⟩ := mx_mem l0
  obtain ⟨s, hs, es⟩ := List.mem_map.mp a1
  obtain ⟨t, ht, et⟩ := List.mem_map.mp b1
  have hs' := (List.mem_filter.mp hs).1
  have ht' := (List.mem_filter.mp ht).1
  have c1 := ok.ord s hs'
  have c2 := ok.sml t ht'
  have c3 := b2 (lst s) (List.mem_map_of_mem hs)
  have ll : ∀ x ∈ left l r, x ∈ l := fun x hx => (List.mem_filter.mp hx).1
  have last : ∀ x ∈ merged l r n, x ∈ l ∨ x = (n, mn (firsts (taken l r)), mx (lasts (taken l r))) := fun x hx => by
    rcases List.mem_append.mp hx with hx | hx
    · exact .inl (ll x hx)
    · exact .inr (List.mem_singleton.mp hx)
  have lm := merged_len ok.num h n
  refine ⟨⟨?_, ?_, ?_, ?_, by have := ok.len; omega⟩, ?_⟩
  · unfold merged
    refine List.pairwise_append.mpr ⟨List.Pairwise.sublist List.filter_sublist ok.num, List.pairwise_singleton _ _, fun a ha b hb => ?_⟩
    rw [List.mem_singleton.mp hb]
    have := hn a (ll a ha)
    show a.1 ≠ n
    omega
  · intro x hx
    rcases last x hx with hx | rfl
    · exact ok.pos x hx
    · exact h0
  · intro x hx
    rcases last x hx with hx | rfl
    · exact ok.ord x hx
    · show 0 ≤ mn _ ∧ mn _ ≤ mx _
      omega
  · intro x hx
    rcases last x hx with hx | rfl
    · exact ok.sml x hx
    · show mx _ < _
      omega
  · intro x hx
    rcases last x hx with hx | rfl
    · have := hn x hx; omega
    · show n < n + 1
      omega
def setG (len times newest : Int) : Nat → List Sp → Int → List (List Int) → List (List Int) × List Sp
  | 0, l, _, ms => (ms, l)
  | k + 1, l, n, ms => if planR l len times newest = [] then (ms, l) else setG len times newest k (merged l (planR l len times newest) n) (n + 1) (ms ++ [planR l len times newest])
/-- enough turns are enough -/
theorem setG_more {len times newest : Int} : ∀ {k m : Nat} {l : List Sp} {n : Int} {ms : List (List Int)}, SpOk l → (∀ s ∈ l, s.1 < n) → 0 ≤ n → l.length ≤ k → l.length ≤ m → setG len times newest k l n ms = setG len times newest m l n ms ∧ planR (setG len times newest k l n ms).2 len times newest = [] ∧ SpOk (setG len times newest k l n ms).2
  | k, m, l, n, ms, ok, hn, h0, hk, hm => by
    by_cases c : planR l len times newest = []
    · have e : ∀ k, setG len times newest k l n ms = (ms, l) := fun k => by
        cases k with
        | zero => rfl
        | succ k => unfold setG; rw [if_pos c]
      rw [e, e]
      exact ⟨rfl, c, ok⟩
    · have po := (plan_ok ok (len := len) (times := times) (newest := newest)).resolve_left c
      have ml := merged_len ok.num po n
      obtain ⟨mo, mn'⟩ := merged_ok ok po hn h0
      obtain ⟨k, rfl⟩ : ∃ j, k = j + 1 := ⟨k - 1, by omega⟩
      obtain ⟨m, rfl⟩ : ∃ j, m = j + 1 := ⟨m - 1, by omega⟩
      unfold setG
      rw [if_neg c, if_neg c]
      exact setG_more mo mn' (by omega) (by omega) (by omega)
theorem cutD_take {xs : List D} {n : Nat} (h : n ≤ xs.length) : cutD xs none (some (n : Int)) = xs.take n := by
  unfold cutD
  rw [HT.sIx_none, HT.sIx_nat, List.drop_zero, Nat.sub_zero, Nat.min_eq_left h]
theorem cutD_drop {xs : List D} {n : Nat} (h : n ≤ xs.length) : cutD xs (some (n : Int)) none = xs.drop n := by
  unfold cutD
  rw [HT.sIx_none, HT.sIx_nat, Nat.min_eq_left h, List.take_of_length_le (by rw [List.length_drop]; omega)]
theorem in_nums {g : Bool → Bool} {i : Int} {l : List Int} {o : Bool} {Q : D → Prop} : fInA g [.int i, .lst o (l.map D.int)] Q ↔ Q (.bl (g (decide (i ∈ l)))) := by
  have e : inD (.int i) (l.map D.int) = decide (i ∈ l) := by
    unfold inD
    rw [Bool.eq_iff_iff]
    simp [eqA]
  have a : (l.map D.int).all atomD = true := by rw [List.all_map, List.all_eq_true]; exact fun _ _ => rfl
  show (if (atomD (.int i) && (l.map D.int).all atomD) = true then _ else _) ↔ _
  rw [a, if_pos (by simp [atomD]), e]
theorem mx_use {l : List Int} (h : 0 < l.length) : ∀ (o : Bool) (Q : D → Prop), Q (.int (mx l)) → fMM (fun i j => if j > i then j else i) (fun y m => y ≤ m) [.lst o (l.map D.int)] Q := fun o Q hq => by
  show (match intsD (l.map D.int) with | some ns => _ | none => False)
  rw [intsD_map]
  exact ⟨h, fun m hm hy => by rw [mx_eq hm hy]; exact hq⟩
theorem mn_use {l : List Int} (h : 0 < l.length) : ∀ (o : Bool) (Q : D → Prop), Q (.int (mn l)) → fMM (fun i j => if j < i then j else i) (fun y m => m ≤ y) [.lst o (l.map D.int)] Q := fun o Q hq => by
  show (match intsD (l.map D.int) with | some ns => _ | none => False)
  rw [intsD_map]
  exact ⟨h, fun m hm hy => by rw [mn_eq hm hy]; exact hq⟩
theorem scan_cons {l : List Sp} {newest z k : Int} {ks : List Int} : scanR l z newest (k :: ks) = if hit l z newest k = true then some (sortI (insd l z k)) else scanR l z newest ks := by
  unfold scanR
  cases c : hit l z newest k with
  | true => rw [List.find?_cons_of_pos c]; rfl
  | false => rw [List.find?_cons_of_neg (by simp [c])]; rfl

def S_check_spans : SD := fun ds R RE => (∃ l : List Sp, ds = [.lst false (l.map spD)] ∧ SpOk l ∧ ∀ e, R .non e) ∨ (∃ (pre post : List Sp) (b : Sp), ds = [.lst false ((pre ++ b :: post).map spD)] ∧ SpOk pre ∧ (pre ++ b :: post).length < 2 ^ 10 ∧ (lst b < fst b ∨ b.1 < 0 ∨ b.1 ∈ nums pre) ∧ ∀ e, RE ⟨"Wrong", .int pre.length⟩ e)
def t_check_spans_r1 : TSD := sIf (dOr (dTest (dFn fGt (d2 false (dVar 3) (dVar 4)))) (dOr (dTest (dFn fLt (d2 false (dVar 2) (dC (.int 0))))) (dTest (dFn (fInA id) (d2 true (dVar 2) (dLc [5] (dSl false (dVar 0) (pNone) (pSome (dVar 1))) (gNm 5) (dYes) (dIx false (dVar 5) (dC (.int 0))))))))) (sRaise ("Wrong" : Str) (dCons false (dVar 1) (dNil))) (sNext)
def t_check_spans_2 : TSD := sSeq (sAsg (dIx false (dVar 0) (dVar 1)) (gTupD [gNm 2, gNm 3, gNm 4])) (t_check_spans_r1)
def t_check_spans : TSD := sForR1 (dCons false (dFn fLen (dCons false (dVar 0) (dNil))) (dNil)) (gNm 1) (t_check_spans_2)
theorem h_check_spans : ∀ ds R RE, S_check_spans ds R RE → ds.length = 1 := by
  rintro ds R RE (⟨_, rfl, _⟩ | ⟨_, _, _, rfl, _⟩) <;> rfl
section
variable {De : EndsD} {W : WD} {l : List Sp} {k : Nat} {c2 c3 c4 : Option D}
theorem ck_turn {good : Bool} (hl : l.length < 2 ^ 10) (hk : k < l.length) (hg : good = true ↔ ¬ (lst (gS l k) < fst (gS l k)) ∧ ¬ (gS l k).1 < 0 ∧ (gS l k).1 ∉ nums (l.take k))
    (h : if good = true then ∀ c2 c3 c4, De.nx [some (.lst false (l.map spD)), some (.int k), c2, c3, c4, none] else ∀ e, W ⟨"Wrong", .int k⟩ e) :
    t_check_spans_2 De [some (.lst false (l.map spD)), some (.int k), c2, c3, c4, none] W := by
  have lb := line_big
  have a1 := sps_at hk
  have x0 : ∀ s, ixE (spD s) (.int 0) = some (.int s.1) := fun _ => rfl
  have so : ∀ s, strOk (spD s) := fun _ => trivial
  have ixl : ∀ (o : Bool) (l : List D) (i : Int), ixE (.lst o l) (.int i) = atI l i := fun _ _ _ => rfl
  have sol : ∀ (o : Bool) (l : List D), strOk (.lst o l) := fun _ _ => trivial
  have ps := sps_sh l
  have t1 := cutD_take (xs := l.map spD) (n := k) (by simpa using Nat.le_of_lt hk)
  rw [← List.map_take] at t1
  have tl : (l.take k).length ≤ l.length := by rw [List.length_take]; omega
  generalize l.take k = tk at *
  generalize hs : gS l k = s at *
  have us : spD s = .tup [.int s.1, .int s.2.1, .int s.2.2] := rfl
  unfold fst lst at hg
  unfold t_check_spans_2
  simp [sTryMany, clD, dTk, sRaise, sTryAs, sTry, dAt, flat, fIadd, dVar, dC, dNil, dCons, dFn, d2, d1, dLst, dTup, dLstV, dTupV, dTest, dTru, dNot, dAnd, dOr, dIf, dAndV, dOrV, dNotV, dChain, sNext, sSeq, sBreak, sCont, sDrop, sRet, sRetN, sIf, sAsg, gNm, gTupD, gTupD.go, sPar, dCall, T.vw, T.tk, vws, tks, Pd.resT, T.stay, isSh, isShs, noOb, noObs, noAl, noAls, fz, fzs, owp, D.subs, D.put1, D.puts, fAdd, fII, fII0, fMul, fI, fIB, fOrd, fEqG, fLen, fInt, fAbs, fSubB, fIsi, isiB, exOf, retD, T.mv, mask, startD, plAt, plPut, ixD, dIx, truD, ixl, sol, a1, us, ps]
  unfold t_check_spans_r1
  by_cases g1 : s.2.2 < s.2.1
  · have : ¬ good = true := fun z => (hg.mp z).1 g1
    rw [if_neg this] at h
    simp [sTryMany, clD, dTk, sRaise, sTryAs, sTry, dAt, flat, fIadd, dVar, dC, dNil, dCons, dFn, d2, d1, dLst, dTup, dLstV, dTupV, dTest, dTru, dNot, dAnd, dOr, dIf, dAndV, dOrV, dNotV, dChain, sNext, sSeq, sBreak, sCont, sDrop, sRet, sRetN, sIf, sAsg, gNm, gTupD, gTupD.go, sPar, dCall, T.vw, T.tk, vws, tks, Pd.resT, T.stay, isSh, isShs, noOb, noObs, noAl, noAls, fz, fzs, owp, D.subs, D.put1, D.puts, fAdd, fII, fII0, fMul, fI, fIB, fOrd, fEqG, fLen, fInt, fAbs, fSubB, fIsi, isiB, exOf, retD, T.mv, mask, startD, plAt, plPut, ixD, dIx, truD, g1]
    exact h _
  · by_cases g2 : s.1 < 0
    · have : ¬ good = true := fun z => (hg.mp z).2.1 g2
      rw [if_neg this] at h
      simp [sTryMany, clD, dTk, sRaise, sTryAs, sTry, dAt, flat, fIadd, dVar, dC, dNil, dCons, dFn, d2, d1, dLst, dTup, dLstV, dTupV, dTest, dTru, dNot, dAnd, dOr, dIf, dAndV, dOrV, dNotV, dChain, sNext, sSeq, sBreak, sCont, sDrop, sRet, sRetN, sIf, sAsg, gNm, gTupD, gTupD.go, sPar, dCall, T.vw, T.tk, vws, tks, Pd.resT, T.stay, isSh, isShs, noOb, noObs, noAl, noAls, fz, fzs, owp, D.subs, D.put1, D.puts, fAdd, fII, fII0, fMul, fI, fIB, fOrd, fEqG, fLen, fInt, fAbs, fSubB, fIsi, isiB, exOf, retD, T.mv, mask, startD, plAt, plPut, ixD, dIx, truD, g1, g2]
      exact h _
    · simp [sTryMany, clD, dTk, sRaise, sTryAs, sTry, dAt, flat, fIadd, dVar, dC, dNil, dCons, dFn, d2, d1, dLst, dTup, dLstV, dTupV, dTest, dTru, dNot, dAnd, dOr, dIf, dAndV, dOrV, dNotV, dChain, sNext, sSeq, sBreak, sCont, sDrop, sRet, sRetN, sIf, sAsg, gNm, gTupD, gTupD.go, sPar, dCall, T.vw, T.tk, vws, tks, Pd.resT, T.stay, isSh, isShs, noOb, noObs, noAl, noAls, fz, fzs, owp, D.subs, D.put1, D.puts, fAdd, fII, fII0, fMul, fI, fIB, fOrd, fEqG, fLen, fInt, fAbs, fSubB, fIsi, isiB, exOf, retD, T.mv, mask, startD, plAt, plPut, ixD, dIx, truD, g1, g2, dLc, itemsD, wipeD, unw, dSl, pNone, pSome, fSl, t1, ps, sps_ob, sps_fz]
      refine lcD_map (f := fun s : Sp => .int s.1) rfl (by omega) (fun p hp K hK => ?_) ?_
      · simp [sTryMany, clD, dTk, sRaise, sTryAs, sTry, dAt, flat, fIadd, dVar, dC, dNil, dCons, dFn, d2, d1, dLst, dTup, dLstV, dTupV, dTest, dTru, dNot, dAnd, dOr, dIf, dAndV, dOrV, dNotV, dChain, sNext, sSeq, sBreak, sCont, sDrop, sRet, sRetN, sIf, sAsg, gNm, gTupD, gTupD.go, sPar, dCall, T.vw, T.tk, vws, tks, Pd.resT, T.stay, isSh, isShs, noOb, noObs, noAl, noAls, fz, fzs, owp, D.subs, D.put1, D.puts, fAdd, fII, fII0, fMul, fI, fIB, fOrd, fEqG, fLen, fInt, fAbs, fSubB, fIsi, isiB, exOf, retD, T.mv, mask, startD, plAt, plPut, ixD, dIx, truD, x0, so]
        exact hK _ rfl
      · have e1 : (tk.map fun s : Sp => D.int s.1) = (nums tk).map D.int := by unfold nums; rw [List.map_map]; rfl
        rw [e1]
        have i1 := ints_sh (nums tk)
        have i2 := ints_fz (nums tk)
        have i3 := ints_ob (nums tk)
        dsimp only [List.set, List.getElem?_cons_succ, List.getElem?_cons_zero]
        simp [sTryMany, clD, dTk, sRaise, sTryAs, sTry, dAt, flat, fIadd, dVar, dC, dNil, dCons, dFn, d2, d1, dLst, dTup, dLstV, dTupV, dTest, dTru, dNot, dAnd, dOr, dIf, dAndV, dOrV, dNotV, dChain, sNext, sSeq, sBreak, sCont, sDrop, sRet, sRetN, sIf, sAsg, gNm, gTupD, gTupD.go, sPar, dCall, T.vw, T.tk, vws, tks, Pd.resT, T.stay, isSh, isShs, noOb, noObs, noAl, noAls, fz, fzs, owp, D.subs, D.put1, D.puts, fAdd, fII, fII0, fMul, fI, fIB, fOrd, fEqG, fLen, fInt, fAbs, fSubB, fIsi, isiB, exOf, retD, T.mv, mask, startD, plAt, plPut, ixD, dIx, truD, i1, i2, i3, in_nums]
        by_cases g3 : s.1 ∈ nums tk
        · have : ¬ good = true := fun z => (hg.mp z).2.2 g3
          rw [if_neg this] at h
          simp [sTryMany, clD, dTk, sRaise, sTryAs, sTry, dAt, flat, fIadd, dVar, dC, dNil, dCons, dFn, d2, d1, dLst, dTup, dLstV, dTupV, dTest, dTru, dNot, dAnd, dOr, dIf, dAndV, dOrV, dNotV, dChain, sNext, sSeq, sBreak, sCont, sDrop, sRet, sRetN, sIf, sAsg, gNm, gTupD, gTupD.go, sPar, dCall, T.vw, T.tk, vws, tks, Pd.resT, T.stay, isSh, isShs, noOb, noObs, noAl, noAls, fz, fzs, owp, D.subs, D.put1, D.puts, fAdd, fII, fII0, fMul, fI, fIB, fOrd, fEqG, fLen, fInt, fAbs, fSubB, fIsi, isiB, exOf, retD, T.mv, mask, startD, plAt, plPut, ixD, dIx, truD, g3]
          exact h _
        · have : good = true := hg.mpr ⟨g1, g2, g3⟩
          rw [if_pos this] at h
          simp [sTryMany, clD, dTk, sRaise, sTryAs, sTry, dAt, flat, fIadd, dVar, dC, dNil, dCons, dFn, d2, d1, dLst, dTup, dLstV, dTupV, dTest, dTru, dNot, dAnd, dOr, dIf, dAndV, dOrV, dNotV, dChain, sNext, sSeq, sBreak, sCont, sDrop, sRet, sRetN, sIf, sAsg, gNm, gTupD, gTupD.go, sPar, dCall, T.vw, T.tk, vws, tks, Pd.resT, T.stay, isSh, isShs, noOb, noObs, noAl, noAls, fz, fzs, owp, D.subs, D.put1, D.puts, fAdd, fII, fII0, fMul, fI, fIB, fOrd, fEqG, fLen, fInt, fAbs, fSubB, fIsi, isiB, exOf, retD, T.mv, mask, startD, plAt, plPut, ixD, dIx, truD, g3]
          exact h _ _ _
end
theorem good_at {l : List Sp} (ok : SpOk l) {j : Nat} (hjl : j < l.length) : ¬ (lst (gS l j) < fst (gS l j)) ∧ ¬ (gS l j).1 < 0 ∧ (gS l j).1 ∉ nums (l.take j) := by
  have mem : gS l j ∈ l := List.mem_of_getElem? (gS_at hjl)
  refine ⟨by have := ok.ord _ mem; omega, by have := ok.pos _ mem; omega, fun z => ?_⟩
  obtain ⟨s, hs, es⟩ := List.mem_map.mp z
  obtain ⟨m, hm, em⟩ := List.mem_iff_getElem.mp hs
  rw [List.length_take] at hm
  rw [List.getElem_take] at em
  have pw := List.pairwise_iff_getElem.mp ok.num m j (by omega) hjl (by omega)
  have e2 : l[j] = gS l j := by have := gS_at hjl; rw [List.getElem?_eq_getElem hjl] at this; exact Option.some.inj this
  rw [em, e2] at pw
  exact pw es
theorem p_check_spans : ∀ ds R RE, S_check_spans ds R RE → t_check_spans (endsOf [] 1 R) (startD 6 ds) (exOf [] 1 RE) := by
  rintro ds R RE (⟨l, rfl, ok, h⟩ | ⟨pre, post, b, rfl, ok, hl, bad, h⟩)
  · have lb := line_big
    have ll := ok.len
    unfold t_check_spans
    simp [sTryMany, clD, dTk, sRaise, sTryAs, sTry, dAt, flat, fIadd, dVar, dC, dNil, dCons, dFn, d2, d1, dLst, dTup, dLstV, dTupV, dTest, dTru, dNot, dAnd, dOr, dIf, dAndV, dOrV, dNotV, dChain, sNext, sSeq, sBreak, sCont, sDrop, sRet, sRetN, sIf, sAsg, gNm, gTupD, gTupD.go, sPar, dCall, T.vw, T.tk, vws, tks, Pd.resT, T.stay, isSh, isShs, noOb, noObs, noAl, noAls, fz, fzs, owp, ow, D.subs, D.sub, D.put1, D.puts, fAdd, fII, fII0, fMul, fI, fIB, fOrd, fEqG, fIsN, fLen, fInt, fAbs, fSubB, fIsi, tyD, isiB, exOf, retD, T.mv, mask, startD, plAt, plPut, ixD, dIx, ixE, ixS, truD, strOk, sForR1, anySeq, sps_sh]
    refine ⟨by omega, ?_⟩
    rw [rangeD_eq]
    refine forD_inv (fun j e => ∃ c1 c2 c3 c4, e = [some (.lst false (l.map spD)), c1, c2, c3, c4, none]) (k := 0) ⟨none, none, none, none, rfl⟩ ?_ ?_
    · rintro j i e hj ⟨c1, c2, c3, c4, rfl⟩ next hnx
      obtain ⟨hjl, ek⟩ := List.getElem?_eq_some_iff.mp hj
      rw [List.length_range] at hjl
      rw [List.getElem_range] at ek
      subst ek
      refine ck_turn (good := true) (by omega) hjl ⟨fun _ => ?_, fun _ => rfl⟩ (by rw [if_pos rfl]; exact fun c2 c3 c4 => hnx _ ⟨_, c2, c3, c4, rfl⟩)
      exact good_at ok hjl
    · rintro e ⟨c1, c2, c3, c4, rfl⟩
      exact h _
  · have lb := line_big
    have lp := ok.len
    have ll : (pre ++ b :: post).length = pre.length + (post.length + 1) := by simp
    have gp : ∀ j, j < pre.length → gS (pre ++ b :: post) j = gS pre j := fun j hj => by
      unfold gS
      rw [List.getD_eq_getElem?_getD, List.getD_eq_getElem?_getD, List.getElem?_append_left hj]
    have gb : gS (pre ++ b :: post) pre.length = b := by
      unfold gS
      rw [List.getD_eq_getElem?_getD, List.getElem?_append_right (Nat.le_refl _)]; simp
    have tp : ∀ j, j ≤ pre.length → (pre ++ b :: post).take j = pre.take j := fun j hj => by
      rw [List.take_append]; simp [Nat.sub_eq_zero_of_le hj]
    generalize pre ++ b :: post = l at *
    unfold t_check_spans
    simp [sTryMany, clD, dTk, sRaise, sTryAs, sTry, dAt, flat, fIadd, dVar, dC, dNil, dCons, dFn, d2, d1, dLst, dTup, dLstV, dTupV, dTest, dTru, dNot, dAnd, dOr, dIf, dAndV, dOrV, dNotV, dChain, sNext, sSeq, sBreak, sCont, sDrop, sRet, sRetN, sIf, sAsg, gNm, gTupD, gTupD.go, sPar, dCall, T.vw, T.tk, vws, tks, Pd.resT, T.stay, isSh, isShs, noOb, noObs, noAl, noAls, fz, fzs, owp, ow, D.subs, D.sub, D.put1, D.puts, fAdd, fII, fII0, fMul, fI, fIB, fOrd, fEqG, fIsN, fLen, fInt, fAbs, fSubB, fIsi, tyD, isiB, exOf, retD, T.mv, mask, startD, plAt, plPut, ixD, dIx, ixE, ixS, truD, strOk, sForR1, anySeq, sps_sh]
    refine ⟨by omega, ?_⟩
    rw [rangeD_eq]
    refine forD_first (fun j e => ∃ c1 c2 c3 c4, e = [some (.lst false (l.map spD)), c1, c2, c3, c4, none]) (k0 := 0) (k := pre.length) (by rw [List.length_range]; omega) ⟨none, none, none, none, rfl⟩ ?_ ?_
    · rintro j i e hlt hj ⟨c1, c2, c3, c4, rfl⟩ next hnx
      obtain ⟨hjl, ek⟩ := List.getElem?_eq_some_iff.mp hj
      rw [List.length_range] at hjl
      rw [List.getElem_range] at ek
      subst ek
      refine ck_turn (good := true) hl hjl ⟨fun _ => ?_, fun _ => rfl⟩ (by rw [if_pos rfl]; exact fun c2 c3 c4 => hnx _ ⟨_, c2, c3, c4, rfl⟩)
      rw [gp j hlt, tp j (by omega)]
      exact good_at ok hlt
    · rintro i e hj ⟨c1, c2, c3, c4, rfl⟩ next
      obtain ⟨hjl, ek⟩ := List.getElem?_eq_some_iff.mp hj
      rw [List.length_range] at hjl
      rw [List.getElem_range] at ek
      subst ek
      refine ck_turn (good := false) hl hjl ⟨(fun z => nomatch z), fun z => ?_⟩ (by rw [if_neg (by decide)]; exact fun e => h _)
      rw [gb, tp _ (Nat.le_refl _), List.take_length] at z
      rcases bad with b1 | b1 | b1
      · exact absurd b1 z.1
      · exact absurd b1 z.2.1
      · exact absurd b1 z.2.2

def S_overlapping : SD := fun ds R _ => ∃ l : List Sp, ds = [.lst false (l.map spD)] ∧ SpOk l ∧ ∀ e, R (.lst true ((lotsR l).map lsF)) e
def t_overlapping_r1 : TSD := sAsg (dFn (fMM (fun i j => if j > i then j else i) fun y m => y ≤ m) (dCons false (dVar 4) (dCons false (dVar 6) (dNil)))) (gNm 4)
def t_overlapping_r2 : TSD := sPar 3 4 (dCons false (dLst (dCons false (dVar 7) (dNil))) (dCons false (dVar 6) (dNil)))
def t_overlapping_3 : TSD := sIf (dAnd (dTest (dFn (fIsN (!·)) (d2 false (dVar 4) (dC .non)))) (dTest (dFn fLe (d2 false (dVar 5) (dVar 4))))) (sSeq (sDrop (dApp false (dVar 3) (dVar 7))) (t_overlapping_r1)) (sSeq (sDrop (dApp false (dVar 2) (dVar 3))) (t_overlapping_r2))
def t_overlapping_r4 : TSD := sRet (dFn fSorted (dCons false (dLc [8] (dTk (dVar 2)) (gNm 8) (dTest (dFn fGt (d2 false (dFn fLen (dCons false (dVar 8) (dNil))) (dC (.int 1))))) (dFn fSorted (dCons false (dVar 8) (dNil)))) (dNil)))
def t_overlapping_r5 : TSD := sSeq (sDrop (dApp false (dVar 2) (dVar 3))) (t_overlapping_r4)
def t_overlapping_r6 : TSD := sSeq (sFor (dTk (dVar 1)) (gTupD [gNm 5, gNm 6, gNm 7]) (t_overlapping_3)) (t_overlapping_r5)
def t_overlapping_r7 : TSD := sSeq (sPar3 2 3 4 (dCons false (dLst (dNil)) (dCons false (dLst (dNil)) (dCons false (dC .non) (dNil))))) (t_overlapping_r6)
def t_overlapping_r8 : TSD := sSeq (sAsg (dFn fSorted (dCons false (dLc [7, 5, 6] (dVar 0) (gTupD [gNm 7, gNm 5, gNm 6]) (dYes) (dTup (dCons false (dVar 5) (dCons false (dVar 6) (dCons false (dVar 7) (dNil)))))) (dNil))) (gNm 1)) (t_overlapping_r7)
def t_overlapping : TSD := sSeq (sDrop (dCall S_check_spans (dCons false (dVar 0) (dNil)))) (t_overlapping_r8)
theorem h_overlapping : ∀ ds R RE, S_overlapping ds R RE → ds.length = 1 := by
  rintro ds R RE ⟨_, rfl, _⟩; rfl
/-- first, last, number -/
def rot (s : Sp) : Sp := (fst s, lst s, s.1)
def unrot (s : Sp) : Sp := (s.2.2, s.1, s.2.1)
theorem ur (l : List Sp) : (l.map rot).map unrot = l := by
  rw [List.map_map]
  exact (List.map_congr_left (f := unrot ∘ rot) (g := id) fun _ _ => rfl).trans (List.map_id _)
theorem ru (l : List Sp) : (l.map unrot).map rot = l := by
  rw [List.map_map]
  exact (List.map_congr_left (f := rot ∘ unrot) (g := id) fun _ _ => rfl).trans (List.map_id _)
def numD (F : List (List Sp)) : List D := F.map fun p => lsF (nums p)
section
variable {De : EndsD} {W : WD} {c0 c1 : Option D}
theorem ov_loop : ∀ (r : List Sp) (F : List (List Sp)) (h : List Sp) (e : Int) (c5 c6 c7 : Option D), F.length + r.length < 2 ^ 10 → h.length + r.length < 2 ^ 10 →
    (∀ (F' : List (List Sp)) (h' : List Sp) (c4 c5 c6 c7 : Option D), F' ++ [h'] = F ++ swp r h e → F'.length < 2 ^ 10 → De.nx [c0, c1, some (.lst true (numD F')), some (.lst true ((nums h').map D.int)), c4, c5, c6, c7, none]) →
    forD (gTupD [gNm 5, gNm 6, gNm 7]) t_overlapping_3 De W ((r.map rot).map spD) [c0, c1, some (.lst true (numD F)), some (.lst true ((nums h).map D.int)), some (.int e), c5, c6, c7, none]
  | [], F, h, e, c5, c6, c7, hF, hh, fin => by
    exact fin F h _ c5 c6 c7 rfl (by simpa using hF)
  | s :: r, F, h, e, c5, c6, c7, hF, hh, fin => by
    rw [List.length_cons] at hF hh
    have lb := line_big
    have l1 : 1 ≤ sizeLine := by omega
    have lF : F.length < sizeLine := by omega
    have lh : ((nums h).map D.int).length < sizeLine := by rw [List.length_map, nums, List.length_map]; omega
    have ih := ov_loop r
    have eA : spD (rot s) = .tup [.int (fst s), .int (lst s), .int s.1] := rfl
    have o1 := ints_ob (nums h)
    have o2 := ints_fz (nums h)
    have o3 := ints_sh (nums h)
    have lFn : (numD F).length < sizeLine := by unfold numD; rw [List.length_map]; omega
    rw [List.map_cons, List.map_cons, eA]
    unfold forD
    unfold swp at fin
    by_cases c : fst s ≤ e
    · rw [if_pos c] at fin
      have nx := ih F (h ++ [s]) (if lst s > e then lst s else e) (some (.int (fst s))) (some (.int (lst s))) (some (.int s.1)) (by omega) (by rw [List.length_append, List.length_singleton]; omega) fin
      have en : (nums (h ++ [s])).map D.int = (nums h).map D.int ++ [.int s.1] := by unfold nums; simp
      rw [en] at nx
      generalize forD (gTupD [gNm 5, gNm 6, gNm 7]) t_overlapping_3 De W ((r.map rot).map spD) = Wn at *
      generalize (nums h).map D.int = H at *
      simp [sTryMany, clD, dTk, sRaise, sTryAs, sTry, dAt, flat, fIadd, dVar, dC, dNil, dCons, dFn, d2, d1, dLst, dTup, dLstV, dTupV, dTest, dTru, dNot, dAnd, dOr, dIf, dAndV, dOrV, dNotV, dChain, sNext, sSeq, sBreak, sCont, sDrop, sRet, sRetN, sIf, sAsg, gNm, gTupD, gTupD.go, sPar, dCall, T.vw, T.tk, vws, tks, Pd.resT, T.stay, isSh, isShs, noOb, noObs, noAl, noAls, fz, fzs, owp, ow, D.subs, D.sub, D.put1, D.puts, fAdd, fII, fII0, fMul, fI, fIB, fOrd, fEqG, fIsN, fLen, fInt, fAbs, fSubB, fIsi, tyD, isiB, exOf, retD, T.mv, mask, startD, plAt, plPut, ixD, dIx, ixE, ixS, truD, strOk]
      unfold t_overlapping_3
      simp [sTryMany, clD, dTk, sRaise, sTryAs, sTry, dAt, flat, fIadd, dVar, dC, dNil, dCons, dFn, d2, d1, dLst, dTup, dLstV, dTupV, dTest, dTru, dNot, dAnd, dOr, dIf, dAndV, dOrV, dNotV, dChain, sNext, sSeq, sBreak, sCont, sDrop, sRet, sRetN, sIf, sAsg, gNm, gTupD, gTupD.go, sPar, dCall, T.vw, T.tk, vws, tks, Pd.resT, T.stay, isSh, isShs, noOb, noObs, noAl, noAls, fz, fzs, owp, ow, D.subs, D.sub, D.put1, D.puts, fAdd, fII, fII0, fMul, fI, fIB, fOrd, fEqG, fIsN, fLen, fInt, fAbs, fSubB, fIsi, tyD, isiB, exOf, retD, T.mv, mask, startD, plAt, plPut, ixD, dIx, ixE, ixS, truD, strOk, c, dApp, lh]
      unfold t_overlapping_r1
      simp [sTryMany, clD, dTk, sRaise, sTryAs, sTry, dAt, flat, fIadd, dVar, dC, dNil, dCons, dFn, d2, d1, dLst, dTup, dLstV, dTupV, dTest, dTru, dNot, dAnd, dOr, dIf, dAndV, dOrV, dNotV, dChain, sNext, sSeq, sBreak, sCont, sDrop, sRet, sRetN, sIf, sAsg, gNm, gTupD, gTupD.go, sPar, dCall, T.vw, T.tk, vws, tks, Pd.resT, T.stay, isSh, isShs, noOb, noObs, noAl, noAls, fz, fzs, owp, ow, D.subs, D.sub, D.put1, D.puts, fAdd, fII, fII0, fMul, fI, fIB, fOrd, fEqG, fIsN, fLen, fInt, fAbs, fSubB, fIsi, tyD, isiB, exOf, retD, T.mv, mask, startD, plAt, plPut, ixD, dIx, ixE, ixS, truD, strOk, fMM]
      exact nx
    · rw [if_neg c] at fin
      have nx := ih (F ++ [h]) [s] (lst s) (some (.int (fst s))) (some (.int (lst s))) (some (.int s.1)) (by rw [List.length_append, List.length_singleton]; omega) (by rw [List.length_singleton]; omega) (by simpa using fin)
      have en : (nums [s]).map D.int = [.int s.1] := rfl
      have ef : numD (F ++ [h]) = numD F ++ [lsF (nums h)] := by unfold numD; rw [List.map_append]; rfl
      rw [en, ef] at nx
      generalize forD (gTupD [gNm 5, gNm 6, gNm 7]) t_overlapping_3 De W ((r.map rot).map spD) = Wn at *
      unfold lsF at nx
      generalize (nums h).map D.int = H at *
      generalize numD F = NF at *
      simp [sTryMany, clD, dTk, sRaise, sTryAs, sTry, dAt, flat, fIadd, dVar, dC, dNil, dCons, dFn, d2, d1, dLst, dTup, dLstV, dTupV, dTest, dTru, dNot, dAnd, dOr, dIf, dAndV, dOrV, dNotV, dChain, sNext, sSeq, sBreak, sCont, sDrop, sRet, sRetN, sIf, sAsg, gNm, gTupD, gTupD.go, sPar, dCall, T.vw, T.tk, vws, tks, Pd.resT, T.stay, isSh, isShs, noOb, noObs, noAl, noAls, fz, fzs, owp, ow, D.subs, D.sub, D.put1, D.puts, fAdd, fII, fII0, fMul, fI, fIB, fOrd, fEqG, fIsN, fLen, fInt, fAbs, fSubB, fIsi, tyD, isiB, exOf, retD, T.mv, mask, startD, plAt, plPut, ixD, dIx, ixE, ixS, truD, strOk]
      unfold t_overlapping_3
      simp [sTryMany, clD, dTk, sRaise, sTryAs, sTry, dAt, flat, fIadd, dVar, dC, dNil, dCons, dFn, d2, d1, dLst, dTup, dLstV, dTupV, dTest, dTru, dNot, dAnd, dOr, dIf, dAndV, dOrV, dNotV, dChain, sNext, sSeq, sBreak, sCont, sDrop, sRet, sRetN, sIf, sAsg, gNm, gTupD, gTupD.go, sPar, dCall, T.vw, T.tk, vws, tks, Pd.resT, T.stay, isSh, isShs, noOb, noObs, noAl, noAls, fz, fzs, owp, ow, D.subs, D.sub, D.put1, D.puts, fAdd, fII, fII0, fMul, fI, fIB, fOrd, fEqG, fIsN, fLen, fInt, fAbs, fSubB, fIsi, tyD, isiB, exOf, retD, T.mv, mask, startD, plAt, plPut, ixD, dIx, ixE, ixS, truD, strOk, c, dApp, o1, o2, o3, lFn]
      unfold t_overlapping_r2
      simp [sTryMany, clD, dTk, sRaise, sTryAs, sTry, dAt, flat, fIadd, dVar, dC, dNil, dCons, dFn, d2, d1, dLst, dTup, dLstV, dTupV, dTest, dTru, dNot, dAnd, dOr, dIf, dAndV, dOrV, dNotV, dChain, sNext, sSeq, sBreak, sCont, sDrop, sRet, sRetN, sIf, sAsg, gNm, gTupD, gTupD.go, sPar, dCall, T.vw, T.tk, vws, tks, Pd.resT, T.stay, isSh, isShs, noOb, noObs, noAl, noAls, fz, fzs, owp, ow, D.subs, D.sub, D.put1, D.puts, fAdd, fII, fII0, fMul, fI, fIB, fOrd, fEqG, fIsN, fLen, fInt, fAbs, fSubB, fIsi, tyD, isiB, exOf, retD, T.mv, mask, startD, plAt, plPut, ixD, dIx, ixE, ixS, truD, strOk, l1]
      exact nx
end
theorem ov_flat {P : List (List Sp)} : ((P.filter fun p => decide (1 < p.length)).map fun p => sortI (nums p)).mergeSort (fun a b => decide (a ≤ b)) = canon P := rfl
theorem ov_end {R : D → EnvD → Prop} {W : WD} {c0 c1 c3 c4 c5 c6 c7 : Option D} {F : List (List Sp)} (lF : F.length < 2 ^ 11) (hp : ∀ p ∈ F, p.length < 2 ^ 11) (h : ∀ e, R (.lst true ((canon F).map lsF)) e) :
    t_overlapping_r4 (endsOf [] 1 R) [c0, c1, some (.lst true (numD F)), c3, c4, c5, c6, c7, none] W := by
  have lb := line_big
  have o1 : noObs (numD F) = true := noObs_map (f := fun p => lsF (nums p)) (fun p => ls_ob _) F
  have o2 : fzs (numD F) = numD F := fzs_mapG (f := fun p => lsF (nums p)) (fun p => ls_fz _) F
  have o3 : isShs (numD F) = true := isShs_map (f := fun p => lsF (nums p)) (fun p => ls_sh _) F
  unfold t_overlapping_r4
  simp [sTryMany, clD, dTk, sRaise, sTryAs, sTry, dAt, flat, fIadd, dVar, dC, dNil, dCons, dFn, d2, d1, dLst, dTup, dLstV, dTupV, dTest, dTru, dNot, dAnd, dOr, dIf, dAndV, dOrV, dNotV, dChain, sNext, sSeq, sBreak, sCont, sDrop, sRet, sRetN, sIf, sAsg, gNm, gTupD, gTupD.go, sPar, dCall, T.vw, T.tk, vws, tks, Pd.resT, T.stay, isSh, isShs, noOb, noObs, noAl, noAls, fz, fzs, owp, ow, D.subs, D.sub, D.put1, D.puts, fAdd, fII, fII0, fMul, fI, fIB, fOrd, fEqG, fIsN, fLen, fInt, fAbs, fSubB, fIsi, tyD, isiB, exOf, retD, T.mv, mask, startD, plAt, plPut, ixD, dIx, ixE, ixS, truD, strOk, dLc, itemsD, wipeD, unw, o1, o2, o3]
  refine lcD_fm (h := fun p => lsF (nums p)) (p := fun p => decide (1 < p.length)) (f := fun p => .lst true ((sortI (nums p)).map D.int)) rfl (by simp; omega) (fun p hp' K hK => ?_) (fun p hp' hs K hK => ?_) ?_
  · have e : ((nums p).map D.int).length = p.length := by rw [List.length_map, nums, List.length_map]
    have i1 := ints_sh (nums p)
    have i2 := ints_fz (nums p)
    have i3 := ints_ob (nums p)
    unfold lsF at hK ⊢
    generalize (nums p).map D.int = ls at *
    have e2 : decide ((1 : Int) < (p.length : Int)) = decide (1 < p.length) := by rw [decide_eq_decide]; omega
    rw [← e2] at hK
    simp [sTryMany, clD, dTk, sRaise, sTryAs, sTry, dAt, flat, fIadd, dVar, dC, dNil, dCons, dFn, d2, d1, dLst, dTup, dLstV, dTupV, dTest, dTru, dNot, dAnd, dOr, dIf, dAndV, dOrV, dNotV, dChain, sNext, sSeq, sBreak, sCont, sDrop, sRet, sRetN, sIf, sAsg, gNm, gTupD, gTupD.go, sPar, dCall, T.vw, T.tk, vws, tks, Pd.resT, T.stay, isSh, isShs, noOb, noObs, noAl, noAls, fz, fzs, owp, ow, D.subs, D.sub, D.put1, D.puts, fAdd, fII, fII0, fMul, fI, fIB, fOrd, fEqG, fIsN, fLen, fInt, fAbs, fSubB, fIsi, tyD, isiB, exOf, retD, T.mv, mask, startD, plAt, plPut, ixD, dIx, ixE, ixS, truD, strOk, anySeq, i1, i2, i3, e]
    exact hK
  · have i1 := ints_sh (nums p)
    have i2 := ints_fz (nums p)
    have i3 := ints_ob (nums p)
    have i4 := fun Q => fSorted_int (o := false) (l := nums p) (Q := Q)
    unfold lsF at hK ⊢
    unfold sortI at hK
    generalize (nums p).map D.int = ls at *
    simp [sTryMany, clD, dTk, sRaise, sTryAs, sTry, dAt, flat, fIadd, dVar, dC, dNil, dCons, dFn, d2, d1, dLst, dTup, dLstV, dTupV, dTest, dTru, dNot, dAnd, dOr, dIf, dAndV, dOrV, dNotV, dChain, sNext, sSeq, sBreak, sCont, sDrop, sRet, sRetN, sIf, sAsg, gNm, gTupD, gTupD.go, sPar, dCall, T.vw, T.tk, vws, tks, Pd.resT, T.stay, isSh, isShs, noOb, noObs, noAl, noAls, fz, fzs, owp, ow, D.subs, D.sub, D.put1, D.puts, fAdd, fII, fII0, fMul, fI, fIB, fOrd, fEqG, fIsN, fLen, fInt, fAbs, fSubB, fIsi, tyD, isiB, exOf, retD, T.mv, mask, startD, plAt, plPut, ixD, dIx, ixE, ixS, truD, strOk, anySeq, i1, i2, i3, i4]
    exact hK _ rfl
  · have e1 : noObs ((F.filter fun p => decide (1 < p.length)).map fun p => D.lst true ((sortI (nums p)).map D.int)) = true := noObs_map (f := fun p : List Sp => D.lst true ((sortI (nums p)).map D.int)) (fun p => ints_ob _) _
    have e2 : fzs ((F.filter fun p => decide (1 < p.length)).map fun p => D.lst true ((sortI (nums p)).map D.int)) = ((F.filter fun p => decide (1 < p.length)).map fun p => sortI (nums p)).map lsF := by
      generalize F.filter (fun p => decide (1 < p.length)) = G
      clear e1
      induction G with
      | nil => rfl
      | cons p G ih => simp only [List.map_cons, fzs, ih, fz, ints_fz]; rfl
    rw [List.nil_append]
    generalize ((F.filter fun p => decide (1 < p.length)).map fun p => D.lst true ((sortI (nums p)).map D.int)) = X at *
    have eG : ((F.filter fun p => decide (1 < p.length)).map fun p => sortI (nums p)).mergeSort (fun a b => decide (a ≤ b)) = canon F := rfl
    generalize ((F.filter fun p => decide (1 < p.length)).map fun p => sortI (nums p)) = G at *
    simp [sTryMany, clD, dTk, sRaise, sTryAs, sTry, dAt, flat, fIadd, dVar, dC, dNil, dCons, dFn, d2, d1, dLst, dTup, dLstV, dTupV, dTest, dTru, dNot, dAnd, dOr, dIf, dAndV, dOrV, dNotV, dChain, sNext, sSeq, sBreak, sCont, sDrop, sRet, sRetN, sIf, sAsg, gNm, gTupD, gTupD.go, sPar, dCall, T.vw, T.tk, vws, tks, Pd.resT, T.stay, isSh, isShs, noOb, noObs, noAl, noAls, fz, fzs, owp, ow, D.subs, D.sub, D.put1, D.puts, fAdd, fII, fII0, fMul, fI, fIB, fOrd, fEqG, fIsN, fLen, fInt, fAbs, fSubB, fIsi, tyD, isiB, exOf, retD, T.mv, mask, startD, plAt, plPut, ixD, dIx, ixE, ixS, truD, strOk, e1, e2, fSorted_rows, eG]
    exact h _
theorem p_overlapping : ∀ ds R RE, S_overlapping ds R RE → t_overlapping (endsOf [] 1 R) (startD 9 ds) (exOf [] 1 RE) := by
  rintro ds R RE ⟨l, rfl, ok, h⟩
  have lb := line_big
  have l3 : 3 ≤ sizeLine := by omega
  have ll := ok.len
  have ps := sps_sh l
  unfold t_overlapping
  simp [sTryMany, clD, dTk, sRaise, sTryAs, sTry, dAt, flat, fIadd, dVar, dC, dNil, dCons, dFn, d2, d1, dLst, dTup, dLstV, dTupV, dTest, dTru, dNot, dAnd, dOr, dIf, dAndV, dOrV, dNotV, dChain, sNext, sSeq, sBreak, sCont, sDrop, sRet, sRetN, sIf, sAsg, gNm, gTupD, gTupD.go, sPar, dCall, T.vw, T.tk, vws, tks, Pd.resT, T.stay, isSh, isShs, noOb, noObs, noAl, noAls, fz, fzs, owp, ow, D.subs, D.sub, D.put1, D.puts, fAdd, fII, fII0, fMul, fI, fIB, fOrd, fEqG, fIsN, fLen, fInt, fAbs, fSubB, fIsi, tyD, isiB, exOf, retD, T.mv, mask, startD, plAt, plPut, ixD, dIx, ixE, ixS, truD, strOk, ps]
  refine .inl ⟨l, rfl, ok, fun e => ?_⟩
  simp [sTryMany, clD, dTk, sRaise, sTryAs, sTry, dAt, flat, fIadd, dVar, dC, dNil, dCons, dFn, d2, d1, dLst, dTup, dLstV, dTupV, dTest, dTru, dNot, dAnd, dOr, dIf, dAndV, dOrV, dNotV, dChain, sNext, sSeq, sBreak, sCont, sDrop, sRet, sRetN, sIf, sAsg, gNm, gTupD, gTupD.go, sPar, dCall, T.vw, T.tk, vws, tks, Pd.resT, T.stay, isSh, isShs, noOb, noObs, noAl, noAls, fz, fzs, owp, ow, D.subs, D.sub, D.put1, D.puts, fAdd, fII, fII0, fMul, fI, fIB, fOrd, fEqG, fIsN, fLen, fInt, fAbs, fSubB, fIsi, tyD, isiB, exOf, retD, T.mv, mask, startD, plAt, plPut, ixD, dIx, ixE, ixS, truD, strOk]
  unfold t_overlapping_r8
  simp [sTryMany, clD, dTk, sRaise, sTryAs, sTry, dAt, flat, fIadd, dVar, dC, dNil, dCons, dFn, d2, d1, dLst, dTup, dLstV, dTupV, dTest, dTru, dNot, dAnd, dOr, dIf, dAndV, dOrV, dNotV, dChain, sNext, sSeq, sBreak, sCont, sDrop, sRet, sRetN, sIf, sAsg, gNm, gTupD, gTupD.go, sPar, dCall, T.vw, T.tk, vws, tks, Pd.resT, T.stay, isSh, isShs, noOb, noObs, noAl, noAls, fz, fzs, owp, ow, D.subs, D.sub, D.put1, D.puts, fAdd, fII, fII0, fMul, fI, fIB, fOrd, fEqG, fIsN, fLen, fInt, fAbs, fSubB, fIsi, tyD, isiB, exOf, retD, T.mv, mask, startD, plAt, plPut, ixD, dIx, ixE, ixS, truD, strOk, dLc, itemsD, wipeD, unw, ps]
  refine lcD_inv (h := spD) (fun k acc e => acc = ((l.take k).map rot).map spD ∧ e = [some (.lst false (l.map spD)), none, none, none, none, none, none, none, none]) (k := 0) ⟨rfl, rfl⟩ ?_ ?_
  · rintro j s acc e hj ⟨rfl, rfl⟩ next hn
    have nx := hn _ _ ⟨rfl, rfl⟩
    rw [Nat.zero_add] at nx ⊢
    rw [List.take_succ, hj] at nx
    have eA : spD s = .tup [.int s.1, .int (fst s), .int (lst s)] := rfl
    have al : (((l.take j).map rot).map spD).length < sizeLine := by simp; omega
    rw [eA]
    generalize l.take j = tk at *
    simp [sTryMany, clD, dTk, sRaise, sTryAs, sTry, dAt, flat, fIadd, dVar, dC, dNil, dCons, dFn, d2, d1, dLst, dTup, dLstV, dTupV, dTest, dTru, dNot, dAnd, dOr, dIf, dAndV, dOrV, dNotV, dChain, sNext, sSeq, sBreak, sCont, sDrop, sRet, sRetN, sIf, sAsg, gNm, gTupD, gTupD.go, sPar, dCall, T.vw, T.tk, vws, tks, Pd.resT, T.stay, isSh, isShs, noOb, noObs, noAl, noAls, fz, fzs, owp, ow, D.subs, D.sub, D.put1, D.puts, fAdd, fII, fII0, fMul, fI, fIB, fOrd, fEqG, fIsN, fLen, fInt, fAbs, fSubB, fIsi, tyD, isiB, exOf, retD, T.mv, mask, startD, plAt, plPut, ixD, dIx, ixE, ixS, truD, strOk, dYes, l3, wipeD]
    refine ⟨by simpa using al, ?_⟩
    simpa [spD, rot] using nx
  · rintro acc e ⟨rfl, rfl⟩
    have e0 : l.take (0 + l.length) = l := by simp
    rw [e0]
    have pp := srtS_perm (l.map rot)
    have pa := srtS_asc (l.map rot)
    have fs := fun Q => fSorted_sp (o := false) (l := l.map rot) (Q := Q)
    have q1 := sps_sh (l.map rot)
    have q2 := sps_ob (l.map rot)
    have q3 := sps_fz (l.map rot)
    generalize hx : (l.map rot).map spD = X at *
    simp [sTryMany, clD, dTk, sRaise, sTryAs, sTry, dAt, flat, fIadd, dVar, dC, dNil, dCons, dFn, d2, d1, dLst, dTup, dLstV, dTupV, dTest, dTru, dNot, dAnd, dOr, dIf, dAndV, dOrV, dNotV, dChain, sNext, sSeq, sBreak, sCont, sDrop, sRet, sRetN, sIf, sAsg, gNm, gTupD, gTupD.go, sPar, dCall, T.vw, T.tk, vws, tks, Pd.resT, T.stay, isSh, isShs, noOb, noObs, noAl, noAls, fz, fzs, owp, ow, D.subs, D.sub, D.put1, D.puts, fAdd, fII, fII0, fMul, fI, fIB, fOrd, fEqG, fIsN, fLen, fInt, fAbs, fSubB, fIsi, tyD, isiB, exOf, retD, T.mv, mask, startD, plAt, plPut, ixD, dIx, ixE, ixS, truD, strOk, q1, q2, q3, fs]
    unfold t_overlapping_r7
    simp [sTryMany, clD, dTk, sRaise, sTryAs, sTry, dAt, flat, fIadd, dVar, dC, dNil, dCons, dFn, d2, d1, dLst, dTup, dLstV, dTupV, dTest, dTru, dNot, dAnd, dOr, dIf, dAndV, dOrV, dNotV, dChain, sNext, sSeq, sBreak, sCont, sDrop, sRet, sRetN, sIf, sAsg, gNm, gTupD, gTupD.go, sPar, dCall, T.vw, T.tk, vws, tks, Pd.resT, T.stay, isSh, isShs, noOb, noObs, noAl, noAls, fz, fzs, owp, ow, D.subs, D.sub, D.put1, D.puts, fAdd, fII, fII0, fMul, fI, fIB, fOrd, fEqG, fIsN, fLen, fInt, fAbs, fSubB, fIsi, tyD, isiB, exOf, retD, T.mv, mask, startD, plAt, plPut, ixD, dIx, ixE, ixS, truD, strOk, sPar3]
    unfold t_overlapping_r6
    obtain ⟨o, ho⟩ : ∃ o : List Sp, srtS (l.map rot) = o.map rot := ⟨(srtS (l.map rot)).map unrot, (ru _).symm⟩
    rw [ho] at pp pa ⊢
    have po : o.Perm l := by
      have := pp.map unrot
      rwa [ur, ur] at this
    have so : o.Pairwise fun a b => fst a ≤ fst b := by
      have := List.pairwise_map.mp pa
      exact this.imp fun h => h
    have PP := parts_part so fun s hs => (ok.ord s (po.mem_iff.mp hs)).2
    have cn := lots_of PP po ok.num fun s hs => (ok.ord s hs).2
    have ol := po.length_eq
    have w1 := sps_sh (o.map rot)
    have w2 := sps_ob (o.map rot)
    have w3 := sps_fz (o.map rot)
    have fin : ∀ (F : List (List Sp)) (h' : List Sp) (c4 c5 c6 c7 : Option D), F ++ [h'] = [] :: parts o ∨ (o = [] ∧ F ++ [h'] = [[]]) → F.length < 2 ^ 10 → t_overlapping_r5 (endsOf [] 1 R) [some (.lst false (l.map spD)), some (.lst false ((o.map rot).map spD)), some (.lst true (numD F)), some (.lst true ((nums h').map D.int)), c4, c5, c6, c7, none] (exOf [] 1 RE) := by
      intro F h' c4 c5 c6 c7 eF lF
      have i2 := ints_fz (nums h')
      have i3 := ints_ob (nums h')
      have lFn : (numD F).length < sizeLine := by unfold numD; rw [List.length_map]; omega
      have ef : numD (F ++ [h']) = numD F ++ [.lst false ((nums h').map D.int)] := by unfold numD; rw [List.map_append]; rfl
      have cF : canon (F ++ [h']) = lotsR l := by
        rcases eF with eF | ⟨e1, e2⟩
        · rw [eF, ← cn]; rfl
        · rw [e2, ← cn, e1]; rfl
      have hp : ∀ p ∈ F ++ [h'], p.length < 2 ^ 11 := fun p hp => by
        have : p.length ≤ o.length := by
          have sub : p.length ≤ (parts o).flatten.length ∨ p = [] := by
            rcases eF with eF | ⟨e1, e2⟩
            · rw [eF] at hp
              rcases List.mem_cons.mp hp with rfl | hp
              · exact .inr rfl
              · exact .inl (List.Sublist.length_le (List.sublist_flatten_of_mem hp))
            · rw [e2] at hp; exact .inr (List.mem_singleton.mp hp)
          rcases sub with sub | rfl
          · rwa [PP.all.length_eq] at sub
          · simp
        omega
      have go := ov_end (R := R) (W := exOf [] 1 RE) (c0 := some (.lst false (l.map spD))) (c1 := some (.lst false ((o.map rot).map spD))) (c3 := some (.lst false ((nums h').map D.int))) (c4 := c4) (c5 := c5) (c6 := c6) (c7 := c7) (F := F ++ [h']) (by rw [List.length_append, List.length_singleton]; omega) hp (by rw [cF]; exact h)
      rw [ef] at go
      unfold t_overlapping_r5
      generalize (nums h').map D.int = H at *
      generalize numD F = NF at *
      generalize (o.map rot).map spD = Y at *
      simp [sTryMany, clD, dTk, sRaise, sTryAs, sTry, dAt, flat, fIadd, dVar, dC, dNil, dCons, dFn, d2, d1, dLst, dTup, dLstV, dTupV, dTest, dTru, dNot, dAnd, dOr, dIf, dAndV, dOrV, dNotV, dChain, sNext, sSeq, sBreak, sCont, sDrop, sRet, sRetN, sIf, sAsg, gNm, gTupD, gTupD.go, sPar, dCall, T.vw, T.tk, vws, tks, Pd.resT, T.stay, isSh, isShs, noOb, noObs, noAl, noAls, fz, fzs, owp, ow, D.subs, D.sub, D.put1, D.puts, fAdd, fII, fII0, fMul, fI, fIB, fOrd, fEqG, fIsN, fLen, fInt, fAbs, fSubB, fIsi, tyD, isiB, exOf, retD, T.mv, mask, startD, plAt, plPut, ixD, dIx, ixE, ixS, truD, strOk, dApp, i2, i3, lFn]
      exact go
    cases o with
    | nil =>
      simp [sTryMany, clD, dTk, sRaise, sTryAs, sTry, dAt, flat, fIadd, dVar, dC, dNil, dCons, dFn, d2, d1, dLst, dTup, dLstV, dTupV, dTest, dTru, dNot, dAnd, dOr, dIf, dAndV, dOrV, dNotV, dChain, sNext, sSeq, sBreak, sCont, sDrop, sRet, sRetN, sIf, sAsg, gNm, gTupD, gTupD.go, sPar, dCall, T.vw, T.tk, vws, tks, Pd.resT, T.stay, isSh, isShs, noOb, noObs, noAl, noAls, fz, fzs, owp, ow, D.subs, D.sub, D.put1, D.puts, fAdd, fII, fII0, fMul, fI, fIB, fOrd, fEqG, fIsN, fLen, fInt, fAbs, fSubB, fIsi, tyD, isiB, exOf, retD, T.mv, mask, startD, plAt, plPut, ixD, dIx, ixE, ixS, truD, strOk, sFor, itemsD, forD]
      exact fin [] [] _ _ _ _ (.inr ⟨rfl, rfl⟩) (by simp)
    | cons s r =>
      have go := fun c5 c6 c7 => ov_loop (De := { endsOf [] 1 R with nx := fun e => t_overlapping_r5 (endsOf [] 1 R) e (exOf [] 1 RE) }) (W := exOf [] 1 RE) (c0 := some (.lst false (l.map spD))) (c1 := some (.lst false (((s :: r).map rot).map spD))) r [[]] [s] (lst s) c5 c6 c7 (by rw [List.length_singleton]; rw [List.length_cons] at ol; omega) (by rw [List.length_singleton]; rw [List.length_cons] at ol; omega) fun F' h' c4 c5 c6 c7 e lF => fin F' h' c4 c5 c6 c7 (.inl e) lF
      have eA : spD (rot s) = .tup [.int (fst s), .int (lst s), .int s.1] := rfl
      have l1 : 1 ≤ sizeLine := by omega
      have l0 : 0 < sizeLine := by omega
      generalize hY : ((s :: r).map rot).map spD = Y at *
      simp [sTryMany, clD, dTk, sRaise, sTryAs, sTry, dAt, flat, fIadd, dVar, dC, dNil, dCons, dFn, d2, d1, dLst, dTup, dLstV, dTupV, dTest, dTru, dNot, dAnd, dOr, dIf, dAndV, dOrV, dNotV, dChain, sNext, sSeq, sBreak, sCont, sDrop, sRet, sRetN, sIf, sAsg, gNm, gTupD, gTupD.go, sPar, dCall, T.vw, T.tk, vws, tks, Pd.resT, T.stay, isSh, isShs, noOb, noObs, noAl, noAls, fz, fzs, owp, ow, D.subs, D.sub, D.put1, D.puts, fAdd, fII, fII0, fMul, fI, fIB, fOrd, fEqG, fIsN, fLen, fInt, fAbs, fSubB, fIsi, tyD, isiB, exOf, retD, T.mv, mask, startD, plAt, plPut, ixD, dIx, ixE, ixS, truD, strOk, sFor, itemsD, w1, w2, w3]
      generalize hZ : some (D.lst false Y) = Z at go ⊢
      rw [← hY, List.map_cons, List.map_cons, eA]
      unfold forD
      generalize forD (gTupD [gNm 5, gNm 6, gNm 7]) t_overlapping_3 { endsOf [] 1 R with nx := fun e => t_overlapping_r5 (endsOf [] 1 R) e (exOf [] 1 RE) } (exOf [] 1 RE) ((r.map rot).map spD) = Wn at *
      simp [sTryMany, clD, dTk, sRaise, sTryAs, sTry, dAt, flat, fIadd, dVar, dC, dNil, dCons, dFn, d2, d1, dLst, dTup, dLstV, dTupV, dTest, dTru, dNot, dAnd, dOr, dIf, dAndV, dOrV, dNotV, dChain, sNext, sSeq, sBreak, sCont, sDrop, sRet, sRetN, sIf, sAsg, gNm, gTupD, gTupD.go, sPar, dCall, T.vw, T.tk, vws, tks, Pd.resT, T.stay, isSh, isShs, noOb, noObs, noAl, noAls, fz, fzs, owp, ow, D.subs, D.sub, D.put1, D.puts, fAdd, fII, fII0, fMul, fI, fIB, fOrd, fEqG, fIsN, fLen, fInt, fAbs, fSubB, fIsi, tyD, isiB, exOf, retD, T.mv, mask, startD, plAt, plPut, ixD, dIx, ixE, ixS, truD, strOk]
      unfold t_overlapping_3
      simp [sTryMany, clD, dTk, sRaise, sTryAs, sTry, dAt, flat, fIadd, dVar, dC, dNil, dCons, dFn, d2, d1, dLst, dTup, dLstV, dTupV, dTest, dTru, dNot, dAnd, dOr, dIf, dAndV, dOrV, dNotV, dChain, sNext, sSeq, sBreak, sCont, sDrop, sRet, sRetN, sIf, sAsg, gNm, gTupD, gTupD.go, sPar, dCall, T.vw, T.tk, vws, tks, Pd.resT, T.stay, isSh, isShs, noOb, noObs, noAl, noAls, fz, fzs, owp, ow, D.subs, D.sub, D.put1, D.puts, fAdd, fII, fII0, fMul, fI, fIB, fOrd, fEqG, fIsN, fLen, fInt, fAbs, fSubB, fIsi, tyD, isiB, exOf, retD, T.mv, mask, startD, plAt, plPut, ixD, dIx, ixE, ixS, truD, strOk, dApp, l0]
      unfold t_overlapping_r2
      simp [sTryMany, clD, dTk, sRaise, sTryAs, sTry, dAt, flat, fIadd, dVar, dC, dNil, dCons, dFn, d2, d1, dLst, dTup, dLstV, dTupV, dTest, dTru, dNot, dAnd, dOr, dIf, dAndV, dOrV, dNotV, dChain, sNext, sSeq, sBreak, sCont, sDrop, sRet, sRetN, sIf, sAsg, gNm, gTupD, gTupD.go, sPar, dCall, T.vw, T.tk, vws, tks, Pd.resT, T.stay, isSh, isShs, noOb, noObs, noAl, noAls, fz, fzs, owp, ow, D.subs, D.sub, D.put1, D.puts, fAdd, fII, fII0, fMul, fI, fIB, fOrd, fEqG, fIsN, fLen, fInt, fAbs, fSubB, fIsi, tyD, isiB, exOf, retD, T.mv, mask, startD, plAt, plPut, ixD, dIx, ixE, ixS, truD, strOk, l1]
      exact go _ _ _

def S_size_of : SD := fun ds R _ => ∃ (len times : Int) (k : Nat), ds = [.int len, .int times, .int k] ∧ 1 ≤ len ∧ len ≤ 16 ∧ 2 ≤ times ∧ times ≤ 4 ∧ k ≤ 30 ∧ ∀ e, R (.int (szK len times k)) e
def t_size_of_1 : TSD := sAsg (dFn fMul (d2 false (dVar 3) (dVar 1))) (gNm 3)
def t_size_of : TSD := sSeq (sAsg (dVar 0) (gNm 3)) (sSeq (sForR1 (dCons false (dVar 2) (dNil)) (gNm 4) (t_size_of_1)) (sRet (dVar 3)))
theorem h_size_of : ∀ ds R RE, S_size_of ds R RE → ds.length = 3 := by
  rintro ds R RE ⟨_, _, _, rfl, _⟩; rfl
theorem p_size_of : ∀ ds R RE, S_size_of ds R RE → t_size_of (endsOf [] 3 R) (startD 5 ds) (exOf [] 3 RE) := by
  rintro ds R RE ⟨len, times, k, rfl, h1, h2, h3, h4, hk, h⟩
  unfold t_size_of
  simp [sTryMany, clD, dTk, sRaise, sTryAs, sTry, dAt, flat, fIadd, dVar, dC, dNil, dCons, dFn, d2, d1, dLst, dTup, dLstV, dTupV, dTest, dTru, dNot, dAnd, dOr, dIf, dAndV, dOrV, dNotV, dChain, sNext, sSeq, sBreak, sCont, sDrop, sRet, sRetN, sIf, sAsg, gNm, gTupD, gTupD.go, sPar, dCall, T.vw, T.tk, vws, tks, Pd.resT, T.stay, isSh, isShs, noOb, noObs, noAl, noAls, fz, fzs, owp, ow, D.subs, D.sub, D.put1, D.puts, fAdd, fII, fII0, fMul, fI, fIB, fOrd, fEqG, fIsN, fLen, fInt, fAbs, fSubB, fIsi, tyD, isiB, exOf, retD, T.mv, mask, startD, plAt, plPut, ixD, dIx, ixE, ixS, truD, strOk, sForR1]
  refine ⟨by omega, ?_⟩
  rw [rangeD_eq]
  refine forD_inv (fun j e => ∃ c4, e = [some (.int len), some (.int times), some (.int k), some (.int (szK len times j)), c4]) (k := 0) ⟨none, by simp [szK]⟩ ?_ ?_
  · rintro j i e hj ⟨c4, rfl⟩ next hnx
    obtain ⟨hjl, ek⟩ := List.getElem?_eq_some_iff.mp hj
    rw [List.length_range] at hjl
    have p90 : (2 : Int) ^ 90 = 1237940039285380274899124224 := by decide
    have p100 : (2 : Nat) ^ 100 = 1267650600228229401496703205376 := by decide
    obtain ⟨a, b⟩ := szK_ok h1 h2 h3 h4 (k := j) (by omega)
    have cm : CMulW (szK len times j) times := mul_okN (by omega) (by omega)
    have nx := hnx _ ⟨some (.int i), rfl⟩
    rw [Nat.zero_add] at nx ⊢
    rw [szK_succ] at nx
    unfold t_size_of_1
    simp [sTryMany, clD, dTk, sRaise, sTryAs, sTry, dAt, flat, fIadd, dVar, dC, dNil, dCons, dFn, d2, d1, dLst, dTup, dLstV, dTupV, dTest, dTru, dNot, dAnd, dOr, dIf, dAndV, dOrV, dNotV, dChain, sNext, sSeq, sBreak, sCont, sDrop, sRet, sRetN, sIf, sAsg, gNm, gTupD, gTupD.go, sPar, dCall, T.vw, T.tk, vws, tks, Pd.resT, T.stay, isSh, isShs, noOb, noObs, noAl, noAls, fz, fzs, owp, ow, D.subs, D.sub, D.put1, D.puts, fAdd, fII, fII0, fMul, fI, fIB, fOrd, fEqG, fIsN, fLen, fInt, fAbs, fSubB, fIsi, tyD, isiB, exOf, retD, T.mv, mask, startD, plAt, plPut, ixD, dIx, ixE, ixS, truD, strOk, cm]
    exact nx
  · rintro e ⟨c4, rfl⟩
    rw [Nat.zero_add, List.length_range]
    exact h _

def eqlv (s : Sp) (len times : Int) (k : Nat) : Bool := decide (fst s / szK len times k = lst s / szK len times k)
def lvG (s : Sp) (len times : Int) : Nat → Nat → Nat
  | 0, k => k
  | n + 1, k => if eqlv s len times k = true then k else lvG s len times n (k + 1)
def S_level_of : SD := fun ds R _ => ∃ (s : Sp) (len times : Int), ds = [spD s, .int len, .int times] ∧ 1 ≤ len ∧ len ≤ 16 ∧ 2 ≤ times ∧ times ≤ 4 ∧ 0 ≤ fst s ∧ fst s ≤ lst s ∧ lst s < 1000000 ∧ ∀ (k : Nat) e, eqlv s len times k = true → (∀ j, j < k → eqlv s len times j = false) → R (.int k) e
def t_level_of_1 : TSD := sAsg (dFn fIadd (d2 false (dVar 3) (dC (.int 1)))) (gNm 3)
def t_level_of_r2 : TSD := sRet (dVar 3)
def t_level_of_r3 : TSD := sSeq (sWhile (dTest (dFn fNe (d2 false (dFn fFdiv (d2 false (dIx false (dVar 0) (dC (.int 1))) (dCall S_size_of (dCons false (dVar 1) (dCons false (dVar 2) (dCons false (dVar 3) (dNil))))))) (dFn fFdiv (d2 false (dIx false (dVar 0) (dC (.int 2))) (dCall S_size_of (dCons false (dVar 1) (dCons false (dVar 2) (dCons false (dVar 3) (dNil)))))))))) (t_level_of_1)) (t_level_of_r2)
def t_level_of : TSD := sSeq (sAsg (dC (.int 0)) (gNm 3)) (t_level_of_r3)
theorem h_level_of : ∀ ds R RE, S_level_of ds R RE → ds.length = 3 := by
  rintro ds R RE ⟨_, _, _, rfl, _⟩; rfl
theorem eqlv_top {s : Sp} {len times : Int} (h1 : 1 ≤ len) (h3 : 2 ≤ times) (g1 : 0 ≤ fst s) (g2 : fst s ≤ lst s) (g3 : lst s < 1000000) {k : Nat} (hk : 20 ≤ k) : eqlv s len times k = true := by
  obtain ⟨a, b⟩ := szK_pos h1 h3 20
  have m := szK_mono h1 h3 hk
  have : (2 : Int) ^ 20 = 1048576 := by decide
  unfold eqlv
  rw [Int.ediv_eq_zero_of_lt g1 (by omega), Int.ediv_eq_zero_of_lt (by omega) (by omega)]
  simp
theorem lv_loop {De : EndsD} {W : WD} {s : Sp} {len times : Int} (h1 : 1 ≤ len) (h2 : len ≤ 16) (h3 : 2 ≤ times) (h4 : times ≤ 4) (g1 : 0 ≤ fst s) (g2 : fst s ≤ lst s) (g3 : lst s < 1000000)
    (h : ∀ k : Nat, eqlv s len times k = true → (∀ j, j < k → eqlv s len times j = false) → De.nx [some (spD s), some (.int len), some (.int times), some (.int k)]) : ∀ (n k : Nat), 20 < n + k → k ≤ 20 → (∀ j, j < k → eqlv s len times j = false) →
    whD (dTest (dFn fNe (d2 false (dFn fFdiv (d2 false (dIx false (dVar 0) (dC (.int 1))) (dCall S_size_of (dCons false (dVar 1) (dCons false (dVar 2) (dCons false (dVar 3) (dNil))))))) (dFn fFdiv (d2 false (dIx false (dVar 0) (dC (.int 2))) (dCall S_size_of (dCons false (dVar 1) (dCons false (dVar 2) (dCons false (dVar 3) (dNil)))))))))) (t_level_of_1) De W n [some (spD s), some (.int len), some (.int times), some (.int k)]
  | 0, k, hn, hk, _ => by omega
  | n + 1, k, hn, hk, hj => by
    have p90 : (2 : Int) ^ 90 = 1237940039285380274899124224 := by decide
    have p100 : (2 : Int) ^ 100 = 1267650600228229401496703205376 := by decide
    obtain ⟨a, b⟩ := szK_ok h1 h2 h3 h4 (k := k) (by omega)
    have cd : ∀ x, CDivW x (szK len times k) := fun x => sml_divN a (by omega)
    have x1 : ixE (spD s) (.int 1) = some (.int (fst s)) := rfl
    have x2 : ixE (spD s) (.int 2) = some (.int (lst s)) := rfl
    have so : strOk (spD s) := trivial
    have key : ∀ R RE, (∀ e, R (.int (szK len times k)) e) → S_size_of [.int len, .int times, .int k] R RE := fun R RE h => ⟨len, times, k, rfl, h1, h2, h3, h4, by omega, h⟩
    have ih := fun (c : eqlv s len times k = false) => lv_loop (De := De) (W := W) h1 h2 h3 h4 g1 g2 g3 h n (k + 1) (by omega) (by
      rcases Nat.lt_or_ge k 20 with z | z
      · omega
      · exact absurd (eqlv_top h1 h3 g1 g2 g3 z) (by rw [c]; decide)) fun j hjk => by
        rcases Nat.lt_or_ge j k with z | z
        · exact hj j z
        · rw [show j = k by omega]; exact c
    have hd := fun c => h k c hj
    have ev : eqlv s len times k = decide (fst s / szK len times k = lst s / szK len times k) := rfl
    rw [ev] at ih hd
    unfold whD
    generalize whD _ _ De W n = Wn at *
    generalize szK len times k = z at *
    simp [sTryMany, clD, dTk, sRaise, sTryAs, sTry, dAt, flat, fIadd, dVar, dC, dNil, dCons, dFn, d2, d1, dLst, dTup, dLstV, dTupV, dTest, dTru, dNot, dAnd, dOr, dIf, dAndV, dOrV, dNotV, dChain, sNext, sSeq, sBreak, sCont, sDrop, sRet, sRetN, sIf, sAsg, gNm, gTupD, gTupD.go, sPar, dCall, T.vw, T.tk, vws, tks, Pd.resT, T.stay, isSh, isShs, noOb, noObs, noAl, noAls, fz, fzs, owp, D.subs, D.put1, D.puts, fAdd, fII, fII0, fMul, fI, fIB, fOrd, fEqG, fLen, fInt, fAbs, fSubB, fIsi, isiB, exOf, retD, T.mv, mask, startD, plAt, plPut, ixD, dIx, truD, x1, x2, so]
    refine key _ _ fun e => ?_
    simp [sTryMany, clD, dTk, sRaise, sTryAs, sTry, dAt, flat, fIadd, dVar, dC, dNil, dCons, dFn, d2, d1, dLst, dTup, dLstV, dTupV, dTest, dTru, dNot, dAnd, dOr, dIf, dAndV, dOrV, dNotV, dChain, sNext, sSeq, sBreak, sCont, sDrop, sRet, sRetN, sIf, sAsg, gNm, gTupD, gTupD.go, sPar, dCall, T.vw, T.tk, vws, tks, Pd.resT, T.stay, isSh, isShs, noOb, noObs, noAl, noAls, fz, fzs, owp, D.subs, D.put1, D.puts, fAdd, fII, fII0, fMul, fI, fIB, fOrd, fEqG, fLen, fInt, fAbs, fSubB, fIsi, isiB, exOf, retD, T.mv, mask, startD, plAt, plPut, ixD, dIx, truD, x1, x2, so, cd]
    refine key _ _ fun e => ?_
    by_cases c : fst s / z = lst s / z
    · simp [sTryMany, clD, dTk, sRaise, sTryAs, sTry, dAt, flat, fIadd, dVar, dC, dNil, dCons, dFn, d2, d1, dLst, dTup, dLstV, dTupV, dTest, dTru, dNot, dAnd, dOr, dIf, dAndV, dOrV, dNotV, dChain, sNext, sSeq, sBreak, sCont, sDrop, sRet, sRetN, sIf, sAsg, gNm, gTupD, gTupD.go, sPar, dCall, T.vw, T.tk, vws, tks, Pd.resT, T.stay, isSh, isShs, noOb, noObs, noAl, noAls, fz, fzs, owp, D.subs, D.put1, D.puts, fAdd, fII, fII0, fMul, fI, fIB, fOrd, fEqG, fLen, fInt, fAbs, fSubB, fIsi, isiB, exOf, retD, T.mv, mask, startD, plAt, plPut, ixD, dIx, truD, cd, c]
      exact hd (by simpa using c)
    · have := ih (by simpa using c)
      simp [sTryMany, clD, dTk, sRaise, sTryAs, sTry, dAt, flat, fIadd, dVar, dC, dNil, dCons, dFn, d2, d1, dLst, dTup, dLstV, dTupV, dTest, dTru, dNot, dAnd, dOr, dIf, dAndV, dOrV, dNotV, dChain, sNext, sSeq, sBreak, sCont, sDrop, sRet, sRetN, sIf, sAsg, gNm, gTupD, gTupD.go, sPar, dCall, T.vw, T.tk, vws, tks, Pd.resT, T.stay, isSh, isShs, noOb, noObs, noAl, noAls, fz, fzs, owp, D.subs, D.put1, D.puts, fAdd, fII, fII0, fMul, fI, fIB, fOrd, fEqG, fLen, fInt, fAbs, fSubB, fIsi, isiB, exOf, retD, T.mv, mask, startD, plAt, plPut, ixD, dIx, truD, cd, c]
      unfold t_level_of_1
      simp [sTryMany, clD, dTk, sRaise, sTryAs, sTry, dAt, flat, fIadd, dVar, dC, dNil, dCons, dFn, d2, d1, dLst, dTup, dLstV, dTupV, dTest, dTru, dNot, dAnd, dOr, dIf, dAndV, dOrV, dNotV, dChain, sNext, sSeq, sBreak, sCont, sDrop, sRet, sRetN, sIf, sAsg, gNm, gTupD, gTupD.go, sPar, dCall, T.vw, T.tk, vws, tks, Pd.resT, T.stay, isSh, isShs, noOb, noObs, noAl, noAls, fz, fzs, owp, D.subs, D.put1, D.puts, fAdd, fII, fII0, fMul, fI, fIB, fOrd, fEqG, fLen, fInt, fAbs, fSubB, fIsi, isiB, exOf, retD, T.mv, mask, startD, plAt, plPut, ixD, dIx, truD]
      exact this
theorem p_level_of : ∀ ds R RE, S_level_of ds R RE → t_level_of (endsOf [] 3 R) (startD 4 ds) (exOf [] 3 RE) := by
  rintro ds R RE ⟨s, len, times, rfl, h1, h2, h3, h4, g1, g2, g3, h⟩
  unfold t_level_of
  simp [sTryMany, clD, dTk, sRaise, sTryAs, sTry, dAt, flat, fIadd, dVar, dC, dNil, dCons, dFn, d2, d1, dLst, dTup, dLstV, dTupV, dTest, dTru, dNot, dAnd, dOr, dIf, dAndV, dOrV, dNotV, dChain, sNext, sSeq, sBreak, sCont, sDrop, sRet, sRetN, sIf, sAsg, gNm, gTupD, gTupD.go, sPar, dCall, T.vw, T.tk, vws, tks, Pd.resT, T.stay, isSh, isShs, noOb, noObs, noAl, noAls, fz, fzs, owp, ow, D.subs, D.sub, D.put1, D.puts, fAdd, fII, fII0, fMul, fI, fIB, fOrd, fEqG, fIsN, fLen, fInt, fAbs, fSubB, fIsi, tyD, isiB, exOf, retD, T.mv, mask, startD, plAt, plPut, ixD, dIx, ixE, ixS, truD, strOk]
  unfold t_level_of_r3
  unfold sSeq sWhile
  refine ⟨21, ?_⟩
  refine lv_loop h1 h2 h3 h4 g1 g2 g3 (fun k c hj => ?_) 21 0 (by omega) (by omega) (fun j hj => by omega)
  unfold t_level_of_r2
  simp [sTryMany, clD, dTk, sRaise, sTryAs, sTry, dAt, flat, fIadd, dVar, dC, dNil, dCons, dFn, d2, d1, dLst, dTup, dLstV, dTupV, dTest, dTru, dNot, dAnd, dOr, dIf, dAndV, dOrV, dNotV, dChain, sNext, sSeq, sBreak, sCont, sDrop, sRet, sRetN, sIf, sAsg, gNm, gTupD, gTupD.go, sPar, dCall, T.vw, T.tk, vws, tks, Pd.resT, T.stay, isSh, isShs, noOb, noObs, noAl, noAls, fz, fzs, owp, ow, D.subs, D.sub, D.put1, D.puts, fAdd, fII, fII0, fMul, fI, fIB, fOrd, fEqG, fIsN, fLen, fInt, fAbs, fSubB, fIsi, tyD, isiB, exOf, retD, T.mv, mask, startD, plAt, plPut, ixD, dIx, ixE, ixS, truD, strOk]
  exact h k _ c hj

def S_plan : SD := fun ds R _ => ∃ (l : List Sp) (len times newest : Int), ds = [.lst false (l.map spD), .int len, .int times, .int newest] ∧ SpOk l ∧ 1 ≤ len ∧ len ≤ 16 ∧ 2 ≤ times ∧ times ≤ 4 ∧ ∀ o e, R (.lst o ((planR l len times newest).map D.int)) e
def t_plan_r1 : TSD := sIf (dAnd (dTest (dFn fGt (d2 false (dFn fLen (dCons false (dVar 9) (dNil))) (dC (.int 1))))) (dTest (dFn fLe (d2 false (dFn fMul (d2 false (dFn fAdd (d2 false (dVar 8) (dC (.int 1)))) (dVar 7))) (dVar 3))))) (sRet (dFn fSorted (dCons false (dVar 9) (dNil)))) (sNext)
def t_plan_2 : TSD := sSeq (sAsg (dLc [10] (dVar 0) (gNm 10) (dAnd (dTest (dFn fEq (d2 false (dFn fFdiv (d2 false (dIx false (dVar 10) (dC (.int 1))) (dVar 7))) (dVar 8)))) (dTest (dFn fEq (d2 false (dFn fFdiv (d2 false (dIx false (dVar 10) (dC (.int 2))) (dVar 7))) (dVar 8))))) (dIx false (dVar 10) (dC (.int 0)))) (gNm 9)) (t_plan_r1)
def t_plan_r3 : TSD := sAsg (dFn fIadd (d2 false (dVar 6) (dC (.int 1)))) (gNm 6)
def t_plan_r4 : TSD := sSeq (sFor (dFn fSortSet (d1 (dLc [10] (dVar 0) (gNm 10) (dYes) (dFn fFdiv (d2 false (dIx false (dVar 10) (dC (.int 1))) (dVar 7)))))) (gNm 8) (t_plan_2)) (t_plan_r3)
def t_plan_5 : TSD := sSeq (sAsg (dCall S_size_of (dCons false (dVar 1) (dCons false (dVar 2) (dCons false (dVar 6) (dNil))))) (gNm 7)) (t_plan_r4)
def t_plan_r6 : TSD := sRet (dLst (dNil))
def t_plan_r7 : TSD := sSeq (sWhile (dTest (dFn fLe (d2 false (dCall S_size_of (dCons false (dVar 1) (dCons false (dVar 2) (dCons false (dFn fSubB (d2 false (dVar 6) (dC (.int 1)))) (dNil))))) (dVar 5)))) (t_plan_5)) (t_plan_r6)
def t_plan_r8 : TSD := sSeq (sAsg (dC (.int 1)) (gNm 6)) (t_plan_r7)
def t_plan_r9 : TSD := sSeq (sAsg (dFn (fMM (fun i j => if j > i then j else i) fun y m => y ≤ m) (dCons false (dLc [10] (dVar 0) (gNm 10) (dYes) (dIx false (dVar 10) (dC (.int 2)))) (dNil))) (gNm 5)) (t_plan_r8)
def t_plan_r10 : TSD := sSeq (sIf (dTest (dFn fEq (d2 false (dFn fLen (dCons false (dVar 0) (dNil))) (dC (.int 0))))) (sRet (dLst (dNil))) (sNext)) (t_plan_r9)
def t_plan_r11 : TSD := sSeq (sIf (dTest (dFn fGt (d2 false (dFn fLen (dCons false (dVar 4) (dNil))) (dC (.int 0))))) (sRet (dIx false (dVar 4) (dC (.int 0)))) (sNext)) (t_plan_r10)
def t_plan : TSD := sSeq (sAsg (dCall S_overlapping (dCons false (dVar 0) (dNil))) (gNm 4)) (t_plan_r11)
theorem h_plan : ∀ ds R RE, S_plan ds R RE → ds.length = 4 := by
  rintro ds R RE ⟨_, _, _, _, rfl, _⟩; rfl
section
variable {De : EndsD} {W : WD} {l : List Sp} {newest : Int} {c1 c2 c4 c5 c6 : Option D}
theorem pl_part {z k : Int} {c9 : Option D} (hl : l.length ≤ 50) (hz : 0 < z) (hz2 : z < 2 ^ 90) (hk : 0 ≤ k) (hk2 : k < 2 ^ 90)
    (h1 : hit l z newest k = true → ∀ e, De.rt (.tmp (.lst true ((sortI (insd l z k)).map D.int))) e)
    (h2 : hit l z newest k = false → ∀ c9, De.nx [some (.lst false (l.map spD)), c1, c2, some (.int newest), c4, c5, c6, some (.int z), some (.int k), c9, none]) :
    t_plan_2 De [some (.lst false (l.map spD)), c1, c2, some (.int newest), c4, c5, c6, some (.int z), some (.int k), c9, none] W := by
  have lb := line_big
  have p90 : (2 : Int) ^ 90 = 1237940039285380274899124224 := by decide
  have p100 : (2 : Int) ^ 100 = 1267650600228229401496703205376 := by decide
  have p100' : (2 : Nat) ^ 100 = 1267650600228229401496703205376 := by decide
  have cd : ∀ x, CDivW x z := fun x => sml_divN hz (by omega)
  have cm : CMulW (k + 1) z := mul_okN (by omega) (by omega)
  have x0 : ∀ s, ixE (spD s) (.int 0) = some (.int s.1) := fun _ => rfl
  have x1 : ∀ s, ixE (spD s) (.int 1) = some (.int (fst s)) := fun _ => rfl
  have x2 : ∀ s, ixE (spD s) (.int 2) = some (.int (lst s)) := fun _ => rfl
  have so : ∀ s, strOk (spD s) := fun _ => trivial
  have ps := sps_sh l
  unfold t_plan_2
  simp [sTryMany, clD, dTk, sRaise, sTryAs, sTry, dAt, flat, fIadd, dVar, dC, dNil, dCons, dFn, d2, d1, dLst, dTup, dLstV, dTupV, dTest, dTru, dNot, dAnd, dOr, dIf, dAndV, dOrV, dNotV, dChain, sNext, sSeq, sBreak, sCont, sDrop, sRet, sRetN, sIf, sAsg, gNm, gTupD, gTupD.go, sPar, dCall, T.vw, T.tk, vws, tks, Pd.resT, T.stay, isSh, isShs, noOb, noObs, noAl, noAls, fz, fzs, owp, D.subs, D.put1, D.puts, fAdd, fII, fII0, fMul, fI, fIB, fOrd, fEqG, fLen, fInt, fAbs, fSubB, fIsi, isiB, exOf, retD, T.mv, mask, startD, plAt, plPut, ixD, dIx, truD, dLc, itemsD, wipeD, unw, ps]
  refine lcD_fm (h := spD) (p := fun s => decide (fst s / z = k) && decide (lst s / z = k)) (f := fun s => .int s.1) rfl (by simp; omega) (fun s hs' K hK => ?_) (fun s hs' hp K hK => ?_) ?_
  · by_cases g1 : fst s / z = k
    · simp [sTryMany, clD, dTk, sRaise, sTryAs, sTry, dAt, flat, fIadd, dVar, dC, dNil, dCons, dFn, d2, d1, dLst, dTup, dLstV, dTupV, dTest, dTru, dNot, dAnd, dOr, dIf, dAndV, dOrV, dNotV, dChain, sNext, sSeq, sBreak, sCont, sDrop, sRet, sRetN, sIf, sAsg, gNm, gTupD, gTupD.go, sPar, dCall, T.vw, T.tk, vws, tks, Pd.resT, T.stay, isSh, isShs, noOb, noObs, noAl, noAls, fz, fzs, owp, D.subs, D.put1, D.puts, fAdd, fII, fII0, fMul, fI, fIB, fOrd, fEqG, fLen, fInt, fAbs, fSubB, fIsi, isiB, exOf, retD, T.mv, mask, startD, plAt, plPut, ixD, dIx, truD, so, x1, x2, cd, g1] at hK ⊢
      simpa using hK
    · simp [sTryMany, clD, dTk, sRaise, sTryAs, sTry, dAt, flat, fIadd, dVar, dC, dNil, dCons, dFn, d2, d1, dLst, dTup, dLstV, dTupV, dTest, dTru, dNot, dAnd, dOr, dIf, dAndV, dOrV, dNotV, dChain, sNext, sSeq, sBreak, sCont, sDrop, sRet, sRetN, sIf, sAsg, gNm, gTupD, gTupD.go, sPar, dCall, T.vw, T.tk, vws, tks, Pd.resT, T.stay, isSh, isShs, noOb, noObs, noAl, noAls, fz, fzs, owp, D.subs, D.put1, D.puts, fAdd, fII, fII0, fMul, fI, fIB, fOrd, fEqG, fLen, fInt, fAbs, fSubB, fIsi, isiB, exOf, retD, T.mv, mask, startD, plAt, plPut, ixD, dIx, truD, so, x1, x2, cd, g1] at hK ⊢
      simpa using hK
  · simp [sTryMany, clD, dTk, sRaise, sTryAs, sTry, dAt, flat, fIadd, dVar, dC, dNil, dCons, dFn, d2, d1, dLst, dTup, dLstV, dTupV, dTest, dTru, dNot, dAnd, dOr, dIf, dAndV, dOrV, dNotV, dChain, sNext, sSeq, sBreak, sCont, sDrop, sRet, sRetN, sIf, sAsg, gNm, gTupD, gTupD.go, sPar, dCall, T.vw, T.tk, vws, tks, Pd.resT, T.stay, isSh, isShs, noOb, noObs, noAl, noAls, fz, fzs, owp, D.subs, D.put1, D.puts, fAdd, fII, fII0, fMul, fI, fIB, fOrd, fEqG, fLen, fInt, fAbs, fSubB, fIsi, isiB, exOf, retD, T.mv, mask, startD, plAt, plPut, ixD, dIx, truD, so, x0]
    exact hK _ rfl
  · have e1 : ((l.filter fun s => decide (fst s / z = k) && decide (lst s / z = k)).map fun s : Sp => D.int s.1) = (insd l z k).map D.int := by unfold insd nums; rw [List.map_map]; rfl
    rw [List.nil_append, e1]
    have hh : hit l z newest k = (decide (1 < (insd l z k).length) && decide ((k + 1) * z ≤ newest)) := rfl
    have j1 := ints_sh (insd l z k)
    have j2 := ints_fz (insd l z k)
    have j3 := ints_ob (insd l z k)
    have j4 := fun Q => fSorted_int (o := false) (l := insd l z k) (Q := Q)
    have j5 : ((insd l z k).map D.int).length = (insd l z k).length := List.length_map _
    rw [show (insd l z k).mergeSort (fun a b => decide (a ≤ b)) = sortI (insd l z k) from rfl] at j4
    generalize (insd l z k).map D.int = X at *
    simp [sTryMany, clD, dTk, sRaise, sTryAs, sTry, dAt, flat, fIadd, dVar, dC, dNil, dCons, dFn, d2, d1, dLst, dTup, dLstV, dTupV, dTest, dTru, dNot, dAnd, dOr, dIf, dAndV, dOrV, dNotV, dChain, sNext, sSeq, sBreak, sCont, sDrop, sRet, sRetN, sIf, sAsg, gNm, gTupD, gTupD.go, sPar, dCall, T.vw, T.tk, vws, tks, Pd.resT, T.stay, isSh, isShs, noOb, noObs, noAl, noAls, fz, fzs, owp, D.subs, D.put1, D.puts, fAdd, fII, fII0, fMul, fI, fIB, fOrd, fEqG, fLen, fInt, fAbs, fSubB, fIsi, isiB, exOf, retD, T.mv, mask, startD, plAt, plPut, ixD, dIx, truD, unw]
    unfold t_plan_r1
    by_cases g1 : 1 < (insd l z k).length
    · have g1' : (1 : Int) < ((insd l z k).length : Int) := by omega
      by_cases g2 : (k + 1) * z ≤ newest
      · have := h1 (by rw [hh, decide_eq_true g1, decide_eq_true g2]; rfl)
        simp [sTryMany, clD, dTk, sRaise, sTryAs, sTry, dAt, flat, fIadd, dVar, dC, dNil, dCons, dFn, d2, d1, dLst, dTup, dLstV, dTupV, dTest, dTru, dNot, dAnd, dOr, dIf, dAndV, dOrV, dNotV, dChain, sNext, sSeq, sBreak, sCont, sDrop, sRet, sRetN, sIf, sAsg, gNm, gTupD, gTupD.go, sPar, dCall, T.vw, T.tk, vws, tks, Pd.resT, T.stay, isSh, isShs, noOb, noObs, noAl, noAls, fz, fzs, owp, D.subs, D.put1, D.puts, fAdd, fII, fII0, fMul, fI, fIB, fOrd, fEqG, fLen, fInt, fAbs, fSubB, fIsi, isiB, exOf, retD, T.mv, mask, startD, plAt, plPut, ixD, dIx, truD, anySeq, j1, j2, j3, j4, j5, g1', cm, g2]
        exact this _
      · have := h2 (by rw [hh, decide_eq_true g1, decide_eq_false g2]; rfl)
        simp [sTryMany, clD, dTk, sRaise, sTryAs, sTry, dAt, flat, fIadd, dVar, dC, dNil, dCons, dFn, d2, d1, dLst, dTup, dLstV, dTupV, dTest, dTru, dNot, dAnd, dOr, dIf, dAndV, dOrV, dNotV, dChain, sNext, sSeq, sBreak, sCont, sDrop, sRet, sRetN, sIf, sAsg, gNm, gTupD, gTupD.go, sPar, dCall, T.vw, T.tk, vws, tks, Pd.resT, T.stay, isSh, isShs, noOb, noObs, noAl, noAls, fz, fzs, owp, D.subs, D.put1, D.puts, fAdd, fII, fII0, fMul, fI, fIB, fOrd, fEqG, fLen, fInt, fAbs, fSubB, fIsi, isiB, exOf, retD, T.mv, mask, startD, plAt, plPut, ixD, dIx, truD, anySeq, j1, j2, j3, j4, j5, g1', cm, g2]
        exact this _
    · have g1' : ¬ (1 : Int) < ((insd l z k).length : Int) := by omega
      have := h2 (by rw [hh, decide_eq_false g1]; rfl)
      simp [sTryMany, clD, dTk, sRaise, sTryAs, sTry, dAt, flat, fIadd, dVar, dC, dNil, dCons, dFn, d2, d1, dLst, dTup, dLstV, dTupV, dTest, dTru, dNot, dAnd, dOr, dIf, dAndV, dOrV, dNotV, dChain, sNext, sSeq, sBreak, sCont, sDrop, sRet, sRetN, sIf, sAsg, gNm, gTupD, gTupD.go, sPar, dCall, T.vw, T.tk, vws, tks, Pd.resT, T.stay, isSh, isShs, noOb, noObs, noAl, noAls, fz, fzs, owp, D.subs, D.put1, D.puts, fAdd, fII, fII0, fMul, fI, fIB, fOrd, fEqG, fLen, fInt, fAbs, fSubB, fIsi, isiB, exOf, retD, T.mv, mask, startD, plAt, plPut, ixD, dIx, truD, anySeq, j1, j2, j3, j4, j5, g1']
      exact this _
theorem pl_scan {z : Int} (hl : l.length ≤ 50) (hz : 0 < z) (hz2 : z < 2 ^ 90) : ∀ (ys : List Int) (c8 c9 : Option D), (∀ k ∈ ys, 0 ≤ k ∧ k < 2 ^ 90) →
    (∀ r, scanR l z newest ys = some r → ∀ e, De.rt (.tmp (.lst true (r.map D.int))) e) →
    (scanR l z newest ys = none → ∀ c8 c9, De.nx [some (.lst false (l.map spD)), c1, c2, some (.int newest), c4, c5, c6, some (.int z), c8, c9, none]) →
    forD (gNm 8) t_plan_2 De W (ys.map D.int) [some (.lst false (l.map spD)), c1, c2, some (.int newest), c4, c5, c6, some (.int z), c8, c9, none]
  | [], c8, c9, _, _, h2 => h2 rfl c8 c9
  | k :: ys, c8, c9, hk, h1, h2 => by
    obtain ⟨k0, k1⟩ := hk k List.mem_cons_self
    rw [scan_cons] at h1 h2
    rw [List.map_cons]
    unfold forD
    show t_plan_2 _ _ W
    refine pl_part hl hz hz2 k0 k1 (fun hh e => ?_) fun hh c9 => ?_
    · rw [if_pos hh] at h1
      exact h1 _ rfl e
    · have hn : ¬ hit l z newest k = true := by rw [hh]; exact Bool.false_ne_true
      rw [if_neg hn] at h1 h2
      exact pl_scan hl hz hz2 ys _ _ (fun j hj => hk j (List.mem_cons_of_mem _ hj)) h1 h2
end
theorem pl_while {De : EndsD} {W : WD} {l : List Sp} {len times newest : Int} {c4 : Option D} (ok : SpOk l) (l0 : l ≠ []) (h1 : 1 ≤ len) (h2 : len ≤ 16) (h3 : 2 ≤ times) (h4 : times ≤ 4) : ∀ (n k : Nat) (c7 c8 c9 : Option D), n + k = 25 → k ≤ 20 →
    (∀ e, De.rt (.tmp (.lst true ((planG l times newest (mx (lasts l)) n (szK len times (k + 1))).map D.int))) e) →
    (planG l times newest (mx (lasts l)) n (szK len times (k + 1)) = [] → ∀ c6 c7 c8 c9, De.nx [some (.lst false (l.map spD)), some (.int len), some (.int times), some (.int newest), c4, some (.int (mx (lasts l))), c6, c7, c8, c9, none]) →
    whD (dTest (dFn fLe (d2 false (dCall S_size_of (dCons false (dVar 1) (dCons false (dVar 2) (dCons false (dFn fSubB (d2 false (dVar 6) (dC (.int 1)))) (dNil))))) (dVar 5)))) (t_plan_5) De W n [some (.lst false (l.map spD)), some (.int len), some (.int times), some (.int newest), c4, some (.int (mx (lasts l))), some (.int ((k : Int) + 1)), c7, c8, c9, none]
  | 0, k, _, _, _, hn, hk, _, _ => by omega
  | n + 1, k, c7, c8, c9, hn, hk, g1, g2 => by
    have p90 : (2 : Int) ^ 90 = 1237940039285380274899124224 := by decide
    have hl : lasts l ≠ [] := fun e => l0 (List.map_eq_nil_iff.mp e)
    obtain ⟨m1, m2⟩ := mx_mem hl
    have msml : mx (lasts l) < 1000000 := by
      obtain ⟨s, hs, e⟩ := List.mem_map.mp m1
      rw [← e]; exact ok.sml s hs
    have key : ∀ k : Nat, k ≤ 30 → ∀ R RE, (∀ e, R (.int (szK len times k)) e) → S_size_of [.int len, .int times, .int (k : Int)] R RE := fun k hk R RE h => ⟨len, times, k, rfl, h1, h2, h3, h4, hk, h⟩
    have dv : szK len times (k + 1) / times = szK len times k := szK_div h3 k
    have sc : szK len times (k + 1) * times = szK len times (k + 1 + 1) := (szK_succ len times (k + 1)).symm
    obtain ⟨z0, z1⟩ := szK_ok h1 h2 h3 h4 (k := k + 1) (by omega)
    have zz0 := (szK_ok h1 h2 h3 h4 (k := k) (by omega)).1
    unfold planG at g1 g2
    rw [dv] at g1 g2
    have top : k = 20 → ¬ szK len times k ≤ mx (lasts l) := fun e => by
      obtain ⟨_, b⟩ := szK_pos h1 h3 20
      have : (2 : Int) ^ 20 = 1048576 := by decide
      rw [e]; omega
    have ih := fun c7 c8 c9 (hk : k + 1 ≤ 20) => pl_while (De := De) (W := W) (newest := newest) (c4 := c4) ok l0 h1 h2 h3 h4 n (k + 1) c7 c8 c9 (by omega) hk
    unfold whD
    have kk := key k (by omega)
    have kk1 := key (k + 1) (by omega)
    rw [show ((k + 1 : Nat) : Int) = (k : Int) + 1 by omega] at kk1 ih
    generalize whD _ _ De W n = Wn at *
    simp [sTryMany, clD, dTk, sRaise, sTryAs, sTry, dAt, flat, fIadd, dVar, dC, dNil, dCons, dFn, d2, d1, dLst, dTup, dLstV, dTupV, dTest, dTru, dNot, dAnd, dOr, dIf, dAndV, dOrV, dNotV, dChain, sNext, sSeq, sBreak, sCont, sDrop, sRet, sRetN, sIf, sAsg, gNm, gTupD, gTupD.go, sPar, dCall, T.vw, T.tk, vws, tks, Pd.resT, T.stay, isSh, isShs, noOb, noObs, noAl, noAls, fz, fzs, owp, ow, D.subs, D.sub, D.put1, D.puts, fAdd, fII, fII0, fMul, fI, fIB, fOrd, fEqG, fIsN, fLen, fInt, fAbs, fSubB, fIsi, tyD, isiB, exOf, retD, T.mv, mask, startD, plAt, plPut, ixD, dIx, ixE, ixS, truD, strOk]
    refine kk _ _ fun e => ?_
    by_cases c : szK len times k ≤ mx (lasts l)
    · rw [if_pos c] at g1 g2
      have k20 : k + 1 ≤ 20 := by
        rcases Nat.lt_or_ge k 20 with q | q
        · omega
        · exact absurd c (top (by omega))
      simp [sTryMany, clD, dTk, sRaise, sTryAs, sTry, dAt, flat, fIadd, dVar, dC, dNil, dCons, dFn, d2, d1, dLst, dTup, dLstV, dTupV, dTest, dTru, dNot, dAnd, dOr, dIf, dAndV, dOrV, dNotV, dChain, sNext, sSeq, sBreak, sCont, sDrop, sRet, sRetN, sIf, sAsg, gNm, gTupD, gTupD.go, sPar, dCall, T.vw, T.tk, vws, tks, Pd.resT, T.stay, isSh, isShs, noOb, noObs, noAl, noAls, fz, fzs, owp, ow, D.subs, D.sub, D.put1, D.puts, fAdd, fII, fII0, fMul, fI, fIB, fOrd, fEqG, fIsN, fLen, fInt, fAbs, fSubB, fIsi, tyD, isiB, exOf, retD, T.mv, mask, startD, plAt, plPut, ixD, dIx, ixE, ixS, truD, strOk, c]
      unfold t_plan_5
      simp [sTryMany, clD, dTk, sRaise, sTryAs, sTry, dAt, flat, fIadd, dVar, dC, dNil, dCons, dFn, d2, d1, dLst, dTup, dLstV, dTupV, dTest, dTru, dNot, dAnd, dOr, dIf, dAndV, dOrV, dNotV, dChain, sNext, sSeq, sBreak, sCont, sDrop, sRet, sRetN, sIf, sAsg, gNm, gTupD, gTupD.go, sPar, dCall, T.vw, T.tk, vws, tks, Pd.resT, T.stay, isSh, isShs, noOb, noObs, noAl, noAls, fz, fzs, owp, ow, D.subs, D.sub, D.put1, D.puts, fAdd, fII, fII0, fMul, fI, fIB, fOrd, fEqG, fIsN, fLen, fInt, fAbs, fSubB, fIsi, tyD, isiB, exOf, retD, T.mv, mask, startD, plAt, plPut, ixD, dIx, ixE, ixS, truD, strOk]
      refine kk1 _ _ fun e => ?_
      have cd : ∀ x, CDivW x (szK len times (k + 1)) := fun x => sml_divN z0 (by omega)
      have x1 : ∀ s, ixE (spD s) (.int 1) = some (.int (fst s)) := fun _ => rfl
      have so : ∀ s, strOk (spD s) := fun _ => trivial
      have ps := sps_sh l
      have ll := ok.len
      have lb := line_big
      have scs := fun ys hy hm => scan_same (newest := newest) ok l0 z0 (ys := ys) hy hm
      rw [sc] at g1 g2
      have nt : ((k + 1 + 1 : Nat) : Int) = (k : Int) + 1 + 1 := by omega
      unfold t_plan_r4
      generalize szK len times (k + 1) = z at *
      simp [sTryMany, clD, dTk, sRaise, sTryAs, sTry, dAt, flat, fIadd, dVar, dC, dNil, dCons, dFn, d2, d1, dLst, dTup, dLstV, dTupV, dTest, dTru, dNot, dAnd, dOr, dIf, dAndV, dOrV, dNotV, dChain, sNext, sSeq, sBreak, sCont, sDrop, sRet, sRetN, sIf, sAsg, gNm, gTupD, gTupD.go, sPar, dCall, T.vw, T.tk, vws, tks, Pd.resT, T.stay, isSh, isShs, noOb, noObs, noAl, noAls, fz, fzs, owp, D.subs, D.put1, D.puts, fAdd, fII, fII0, fMul, fI, fIB, fOrd, fEqG, fLen, fInt, fAbs, fSubB, fIsi, isiB, exOf, retD, T.mv, mask, startD, plAt, plPut, ixD, dIx, truD, sFor, itemsD, dLc, wipeD, unw, ps]
      refine lcD_map (h := spD) (f := fun s => .int (fst s / z)) rfl (by omega) (fun s hs' K hK => ?_) ?_
      · simp [sTryMany, clD, dTk, sRaise, sTryAs, sTry, dAt, flat, fIadd, dVar, dC, dNil, dCons, dFn, d2, d1, dLst, dTup, dLstV, dTupV, dTest, dTru, dNot, dAnd, dOr, dIf, dAndV, dOrV, dNotV, dChain, sNext, sSeq, sBreak, sCont, sDrop, sRet, sRetN, sIf, sAsg, gNm, gTupD, gTupD.go, sPar, dCall, T.vw, T.tk, vws, tks, Pd.resT, T.stay, isSh, isShs, noOb, noObs, noAl, noAls, fz, fzs, owp, D.subs, D.put1, D.puts, fAdd, fII, fII0, fMul, fI, fIB, fOrd, fEqG, fLen, fInt, fAbs, fSubB, fIsi, isiB, exOf, retD, T.mv, mask, startD, plAt, plPut, ixD, dIx, truD, so, x1, cd]
        exact hK _ rfl
      · have e1 : (l.map fun s : Sp => D.int (fst s / z)) = (firstsZ l z).map D.int := by unfold firstsZ; rw [List.map_map]; rfl
        have fl : (firstsZ l z).length = l.length := List.length_map _
        have fb : ∀ k ∈ firstsZ l z, 0 ≤ k ∧ k < 2 ^ 90 := fun k hk => by
          obtain ⟨s, hs, rfl⟩ := List.mem_map.mp hk
          have o1 := ok.ord s hs
          have o2 := ok.sml s hs
          have a1 := Int.ediv_nonneg o1.1 (show 0 ≤ z by omega)
          have a2 := Int.ediv_le_self z o1.1
          omega
        rw [e1]
        have j1 := ints_sh (firstsZ l z)
        have j2 := ints_fz (firstsZ l z)
        have j3 := ints_ob (firstsZ l z)
        have fss : ∀ (o : Bool) (Q : D → Prop), (∀ ys : List Int, ys.Pairwise (· < ·) → (∀ k, k ∈ ys ↔ k ∈ firstsZ l z) → Q (.lst true (ys.map .int))) → fSortSet [.lst o ((firstsZ l z).map D.int)] Q := fun o Q hq => by
          show (match intsD ((firstsZ l z).map D.int) with | some ns => _ | none => False)
          rw [intsD_map]
          exact ⟨by omega, hq⟩
        generalize (firstsZ l z).map D.int = X at *
        simp [sTryMany, clD, dTk, sRaise, sTryAs, sTry, dAt, flat, fIadd, dVar, dC, dNil, dCons, dFn, d2, d1, dLst, dTup, dLstV, dTupV, dTest, dTru, dNot, dAnd, dOr, dIf, dAndV, dOrV, dNotV, dChain, sNext, sSeq, sBreak, sCont, sDrop, sRet, sRetN, sIf, sAsg, gNm, gTupD, gTupD.go, sPar, dCall, T.vw, T.tk, vws, tks, Pd.resT, T.stay, isSh, isShs, noOb, noObs, noAl, noAls, fz, fzs, owp, D.subs, D.put1, D.puts, fAdd, fII, fII0, fMul, fI, fIB, fOrd, fEqG, fLen, fInt, fAbs, fSubB, fIsi, isiB, exOf, retD, T.mv, mask, startD, plAt, plPut, ixD, dIx, truD, j1, j2, j3, wipeD, unw]
        refine fss _ _ fun ys hy hm => ?_
        have y1 := ints_ob ys
        have y2 := ints_fz ys
        simp [sTryMany, clD, dTk, sRaise, sTryAs, sTry, dAt, flat, fIadd, dVar, dC, dNil, dCons, dFn, d2, d1, dLst, dTup, dLstV, dTupV, dTest, dTru, dNot, dAnd, dOr, dIf, dAndV, dOrV, dNotV, dChain, sNext, sSeq, sBreak, sCont, sDrop, sRet, sRetN, sIf, sAsg, gNm, gTupD, gTupD.go, sPar, dCall, T.vw, T.tk, vws, tks, Pd.resT, T.stay, isSh, isShs, noOb, noObs, noAl, noAls, fz, fzs, owp, D.subs, D.put1, D.puts, fAdd, fII, fII0, fMul, fI, fIB, fOrd, fEqG, fLen, fInt, fAbs, fSubB, fIsi, isiB, exOf, retD, T.mv, mask, startD, plAt, plPut, ixD, dIx, truD, y1, y2]
        refine pl_scan (by omega) z0 z1 ys _ _ (fun k hk => fb k ((hm k).mp hk)) (fun r hr e => ?_) fun hr c8 c9 => ?_
        · rw [← scs ys hy hm, hr] at g1
          exact g1 e
        · rw [← scs ys hy hm, hr] at g1 g2
          unfold t_plan_r3
          simp [sTryMany, clD, dTk, sRaise, sTryAs, sTry, dAt, flat, fIadd, dVar, dC, dNil, dCons, dFn, d2, d1, dLst, dTup, dLstV, dTupV, dTest, dTru, dNot, dAnd, dOr, dIf, dAndV, dOrV, dNotV, dChain, sNext, sSeq, sBreak, sCont, sDrop, sRet, sRetN, sIf, sAsg, gNm, gTupD, gTupD.go, sPar, dCall, T.vw, T.tk, vws, tks, Pd.resT, T.stay, isSh, isShs, noOb, noObs, noAl, noAls, fz, fzs, owp, ow, D.subs, D.sub, D.put1, D.puts, fAdd, fII, fII0, fMul, fI, fIB, fOrd, fEqG, fIsN, fLen, fInt, fAbs, fSubB, fIsi, tyD, isiB, exOf, retD, T.mv, mask, startD, plAt, plPut, ixD, dIx, ixE, ixS, truD, strOk]
          have := ih (some (.int z)) c8 c9 k20 g1 g2
          exact this
    · rw [if_neg c] at g1 g2
      simp [sTryMany, clD, dTk, sRaise, sTryAs, sTry, dAt, flat, fIadd, dVar, dC, dNil, dCons, dFn, d2, d1, dLst, dTup, dLstV, dTupV, dTest, dTru, dNot, dAnd, dOr, dIf, dAndV, dOrV, dNotV, dChain, sNext, sSeq, sBreak, sCont, sDrop, sRet, sRetN, sIf, sAsg, gNm, gTupD, gTupD.go, sPar, dCall, T.vw, T.tk, vws, tks, Pd.resT, T.stay, isSh, isShs, noOb, noObs, noAl, noAls, fz, fzs, owp, ow, D.subs, D.sub, D.put1, D.puts, fAdd, fII, fII0, fMul, fI, fIB, fOrd, fEqG, fIsN, fLen, fInt, fAbs, fSubB, fIsi, tyD, isiB, exOf, retD, T.mv, mask, startD, plAt, plPut, ixD, dIx, ixE, ixS, truD, strOk, c]
      exact g2 rfl _ _ _ _
theorem p_plan : ∀ ds R RE, S_plan ds R RE → t_plan (endsOf [] 4 R) (startD 11 ds) (exOf [] 4 RE) := by
  rintro ds R RE ⟨l, len, times, newest, rfl, ok, h1, h2, h3, h4, h⟩
  have lb := line_big
  have ps := sps_sh l
  have pf := sps_fz l
  have pb := sps_ob l
  have ll := ok.len
  have x2 : ∀ s, ixE (spD s) (.int 2) = some (.int (lst s)) := fun _ => rfl
  have so : ∀ s, strOk (spD s) := fun _ => trivial
  unfold t_plan
  simp [sTryMany, clD, dTk, sRaise, sTryAs, sTry, dAt, flat, fIadd, dVar, dC, dNil, dCons, dFn, d2, d1, dLst, dTup, dLstV, dTupV, dTest, dTru, dNot, dAnd, dOr, dIf, dAndV, dOrV, dNotV, dChain, sNext, sSeq, sBreak, sCont, sDrop, sRet, sRetN, sIf, sAsg, gNm, gTupD, gTupD.go, sPar, dCall, T.vw, T.tk, vws, tks, Pd.resT, T.stay, isSh, isShs, noOb, noObs, noAl, noAls, fz, fzs, owp, ow, D.subs, D.sub, D.put1, D.puts, fAdd, fII, fII0, fMul, fI, fIB, fOrd, fEqG, fIsN, fLen, fInt, fAbs, fSubB, fIsi, tyD, isiB, exOf, retD, T.mv, mask, startD, plAt, plPut, ixD, dIx, ixE, ixS, truD, strOk, ps]
  refine ⟨l, rfl, ok, fun e => ?_⟩
  unfold t_plan_r11
  unfold planR at h
  have q1 := lss_sh (lotsR l)
  have q2 := lss_fz (lotsR l)
  have q3 := lss_ob (lotsR l)
  cases hL : lotsR l with
  | cons a L =>
    rw [hL] at h q1 q2 q3
    have h := h false
    have z0 : (0 : Int) < (L.length : Int) + 1 := by omega
    have i0 : ∀ xs : List D, atI (lsF a :: xs) 0 = some (lsF a) := fun xs => atI_c0 _ _
    have q4 := lss_sh L
    have q5 := lss_fz L
    have q6 := lss_ob L
    rw [List.map_cons] at q1 q2 q3 ⊢
    have la : (List.map lsF L).length = L.length := List.length_map _
    generalize List.map lsF L = LL at *
    simp [sTryMany, clD, dTk, sRaise, sTryAs, sTry, dAt, flat, fIadd, dVar, dC, dNil, dCons, dFn, d2, d1, dLst, dTup, dLstV, dTupV, dTest, dTru, dNot, dAnd, dOr, dIf, dAndV, dOrV, dNotV, dChain, sNext, sSeq, sBreak, sCont, sDrop, sRet, sRetN, sIf, sAsg, gNm, gTupD, gTupD.go, sPar, dCall, T.vw, T.tk, vws, tks, Pd.resT, T.stay, isSh, isShs, noOb, noObs, noAl, noAls, fz, fzs, owp, ow, D.subs, D.sub, D.put1, D.puts, fAdd, fII, fII0, fMul, fI, fIB, fOrd, fEqG, fIsN, fLen, fInt, fAbs, fSubB, fIsi, tyD, isiB, exOf, retD, T.mv, mask, startD, plAt, plPut, ixD, dIx, ixE, ixS, truD, strOk, anySeq, la, z0, i0, q4, q5, q6]
    exact h _
  | nil =>
    rw [hL] at h
    simp [sTryMany, clD, dTk, sRaise, sTryAs, sTry, dAt, flat, fIadd, dVar, dC, dNil, dCons, dFn, d2, d1, dLst, dTup, dLstV, dTupV, dTest, dTru, dNot, dAnd, dOr, dIf, dAndV, dOrV, dNotV, dChain, sNext, sSeq, sBreak, sCont, sDrop, sRet, sRetN, sIf, sAsg, gNm, gTupD, gTupD.go, sPar, dCall, T.vw, T.tk, vws, tks, Pd.resT, T.stay, isSh, isShs, noOb, noObs, noAl, noAls, fz, fzs, owp, ow, D.subs, D.sub, D.put1, D.puts, fAdd, fII, fII0, fMul, fI, fIB, fOrd, fEqG, fIsN, fLen, fInt, fAbs, fSubB, fIsi, tyD, isiB, exOf, retD, T.mv, mask, startD, plAt, plPut, ixD, dIx, ixE, ixS, truD, strOk, anySeq]
    unfold t_plan_r10
    by_cases l0 : l = []
    · rw [if_pos l0] at h
      subst l0
      simp [sTryMany, clD, dTk, sRaise, sTryAs, sTry, dAt, flat, fIadd, dVar, dC, dNil, dCons, dFn, d2, d1, dLst, dTup, dLstV, dTupV, dTest, dTru, dNot, dAnd, dOr, dIf, dAndV, dOrV, dNotV, dChain, sNext, sSeq, sBreak, sCont, sDrop, sRet, sRetN, sIf, sAsg, gNm, gTupD, gTupD.go, sPar, dCall, T.vw, T.tk, vws, tks, Pd.resT, T.stay, isSh, isShs, noOb, noObs, noAl, noAls, fz, fzs, owp, ow, D.subs, D.sub, D.put1, D.puts, fAdd, fII, fII0, fMul, fI, fIB, fOrd, fEqG, fIsN, fLen, fInt, fAbs, fSubB, fIsi, tyD, isiB, exOf, retD, T.mv, mask, startD, plAt, plPut, ixD, dIx, ixE, ixS, truD, strOk, anySeq]
      exact h _ _
    · rw [if_neg l0] at h
      have ln : ¬ l.length = 0 := fun e => l0 (List.length_eq_zero_iff.mp e)
      have l0' : ¬ (l.length : Int) = 0 := by omega
      simp [sTryMany, clD, dTk, sRaise, sTryAs, sTry, dAt, flat, fIadd, dVar, dC, dNil, dCons, dFn, d2, d1, dLst, dTup, dLstV, dTupV, dTest, dTru, dNot, dAnd, dOr, dIf, dAndV, dOrV, dNotV, dChain, sNext, sSeq, sBreak, sCont, sDrop, sRet, sRetN, sIf, sAsg, gNm, gTupD, gTupD.go, sPar, dCall, T.vw, T.tk, vws, tks, Pd.resT, T.stay, isSh, isShs, noOb, noObs, noAl, noAls, fz, fzs, owp, ow, D.subs, D.sub, D.put1, D.puts, fAdd, fII, fII0, fMul, fI, fIB, fOrd, fEqG, fIsN, fLen, fInt, fAbs, fSubB, fIsi, tyD, isiB, exOf, retD, T.mv, mask, startD, plAt, plPut, ixD, dIx, ixE, ixS, truD, strOk, anySeq, l0, l0', ps]
      unfold t_plan_r9
      simp [sTryMany, clD, dTk, sRaise, sTryAs, sTry, dAt, flat, fIadd, dVar, dC, dNil, dCons, dFn, d2, d1, dLst, dTup, dLstV, dTupV, dTest, dTru, dNot, dAnd, dOr, dIf, dAndV, dOrV, dNotV, dChain, sNext, sSeq, sBreak, sCont, sDrop, sRet, sRetN, sIf, sAsg, gNm, gTupD, gTupD.go, sPar, dCall, T.vw, T.tk, vws, tks, Pd.resT, T.stay, isSh, isShs, noOb, noObs, noAl, noAls, fz, fzs, owp, D.subs, D.put1, D.puts, fAdd, fII, fII0, fMul, fI, fIB, fOrd, fEqG, fLen, fInt, fAbs, fSubB, fIsi, isiB, exOf, retD, T.mv, mask, startD, plAt, plPut, ixD, dIx, truD, dLc, itemsD, wipeD, unw, ps]
      refine lcD_map (h := spD) (f := fun s => .int (lst s)) rfl (by omega) (fun s hs' K hK => ?_) ?_
      · simp [sTryMany, clD, dTk, sRaise, sTryAs, sTry, dAt, flat, fIadd, dVar, dC, dNil, dCons, dFn, d2, d1, dLst, dTup, dLstV, dTupV, dTest, dTru, dNot, dAnd, dOr, dIf, dAndV, dOrV, dNotV, dChain, sNext, sSeq, sBreak, sCont, sDrop, sRet, sRetN, sIf, sAsg, gNm, gTupD, gTupD.go, sPar, dCall, T.vw, T.tk, vws, tks, Pd.resT, T.stay, isSh, isShs, noOb, noObs, noAl, noAls, fz, fzs, owp, D.subs, D.put1, D.puts, fAdd, fII, fII0, fMul, fI, fIB, fOrd, fEqG, fLen, fInt, fAbs, fSubB, fIsi, isiB, exOf, retD, T.mv, mask, startD, plAt, plPut, ixD, dIx, truD, so, x2]
        exact hK _ rfl
      · have e1 : (l.map fun s : Sp => D.int (lst s)) = (lasts l).map D.int := by unfold lasts; rw [List.map_map]; rfl
        rw [e1]
        have j1 := ints_sh (lasts l)
        have j2 := ints_fz (lasts l)
        have j3 := ints_ob (lasts l)
        have jl : (lasts l).length = l.length := List.length_map _
        have fmm := mx_use (l := lasts l) (by omega)
        generalize (lasts l).map D.int = X at *
        simp [sTryMany, clD, dTk, sRaise, sTryAs, sTry, dAt, flat, fIadd, dVar, dC, dNil, dCons, dFn, d2, d1, dLst, dTup, dLstV, dTupV, dTest, dTru, dNot, dAnd, dOr, dIf, dAndV, dOrV, dNotV, dChain, sNext, sSeq, sBreak, sCont, sDrop, sRet, sRetN, sIf, sAsg, gNm, gTupD, gTupD.go, sPar, dCall, T.vw, T.tk, vws, tks, Pd.resT, T.stay, isSh, isShs, noOb, noObs, noAl, noAls, fz, fzs, owp, D.subs, D.put1, D.puts, fAdd, fII, fII0, fMul, fI, fIB, fOrd, fEqG, fLen, fInt, fAbs, fSubB, fIsi, isiB, exOf, retD, T.mv, mask, startD, plAt, plPut, ixD, dIx, truD, j1, j2, j3, wipeD, unw]
        refine fmm _ _ ?_
        unfold t_plan_r8
        simp [sTryMany, clD, dTk, sRaise, sTryAs, sTry, dAt, flat, fIadd, dVar, dC, dNil, dCons, dFn, d2, d1, dLst, dTup, dLstV, dTupV, dTest, dTru, dNot, dAnd, dOr, dIf, dAndV, dOrV, dNotV, dChain, sNext, sSeq, sBreak, sCont, sDrop, sRet, sRetN, sIf, sAsg, gNm, gTupD, gTupD.go, sPar, dCall, T.vw, T.tk, vws, tks, Pd.resT, T.stay, isSh, isShs, noOb, noObs, noAl, noAls, fz, fzs, owp, ow, D.subs, D.sub, D.put1, D.puts, fAdd, fII, fII0, fMul, fI, fIB, fOrd, fEqG, fIsN, fLen, fInt, fAbs, fSubB, fIsi, tyD, isiB, exOf, retD, T.mv, mask, startD, plAt, plPut, ixD, dIx, ixE, ixS, truD, strOk]
        unfold t_plan_r7
        unfold sSeq sWhile
        refine ⟨25, ?_⟩
        have e0 : len * times = szK len times (0 + 1) := by unfold szK; simp [Int.pow_succ]
        rw [e0] at h
        have := pl_while (De := { endsOf [] 4 R with nx := fun e => t_plan_r6 (endsOf [] 4 R) e (exOf [] 4 RE) }) (W := exOf [] 4 RE) (newest := newest) (c4 := some (.lst true [])) ok l0 h1 h2 h3 h4 25 0 none none none rfl (by omega) (fun e => h _ _) fun z c6 c7 c8 c9 => by
          rw [z] at h
          unfold t_plan_r6
          simp [sTryMany, clD, dTk, sRaise, sTryAs, sTry, dAt, flat, fIadd, dVar, dC, dNil, dCons, dFn, d2, d1, dLst, dTup, dLstV, dTupV, dTest, dTru, dNot, dAnd, dOr, dIf, dAndV, dOrV, dNotV, dChain, sNext, sSeq, sBreak, sCont, sDrop, sRet, sRetN, sIf, sAsg, gNm, gTupD, gTupD.go, sPar, dCall, T.vw, T.tk, vws, tks, Pd.resT, T.stay, isSh, isShs, noOb, noObs, noAl, noAls, fz, fzs, owp, ow, D.subs, D.sub, D.put1, D.puts, fAdd, fII, fII0, fMul, fI, fIB, fOrd, fEqG, fIsN, fLen, fInt, fAbs, fSubB, fIsi, tyD, isiB, exOf, retD, T.mv, mask, startD, plAt, plPut, ixD, dIx, ixE, ixS, truD, strOk]
          exact h _ _
        exact this

def S_settled : SD := fun ds R _ => ∃ (l : List Sp) (len times newest : Int), ds = [.lst false (l.map spD), .int len, .int times, .int newest] ∧ SpOk l ∧ 1 ≤ len ∧ len ≤ 16 ∧ 2 ≤ times ∧ times ≤ 4 ∧ ∀ e, R (.tup [.lst false ((setG len times newest 50 l (mx (nums l ++ [-1]) + 1) []).1.map lsF), .lst true ((srtS (setG len times newest 50 l (mx (nums l ++ [-1]) + 1) []).2).map spD)]) e
theorem fol_ok {l : List Sp} (ok : SpOk l) : (∀ s ∈ l, s.1 < mx (nums l ++ [-1]) + 1) ∧ 0 ≤ mx (nums l ++ [-1]) + 1 := by
  obtain ⟨a, b⟩ := mx_mem (l := nums l ++ [-1]) (by simp)
  refine ⟨fun s hs => ?_, ?_⟩
  · have := b s.1 (List.mem_append_left _ (List.mem_map_of_mem hs))
    omega
  · have := b (-1) (by simp)
    omega
def t_settled_r1 : TSD := sAsg (dFn fIadd (d2 false (dVar 6) (dC (.int 1)))) (gNm 6)
def t_settled_r2 : TSD := sSeq (sDrop (dApp false (dVar 5) (dVar 7))) (t_settled_r1)
def t_settled_r3 : TSD := sSeq (sDrop (dApp true (dVar 4) (dTup (dCons true (dVar 6) (dCons true (dFn (fMM (fun i j => if j < i then j else i) fun y m => m ≤ y) (dCons false (dLc [9] (dTk (dVar 8)) (gNm 9) (dYes) (dIx false (dVar 9) (dC (.int 1)))) (dNil))) (dCons false (dFn (fMM (fun i j => if j > i then j else i) fun y m => y ≤ m) (dCons false (dLc [9] (dTk (dVar 8)) (gNm 9) (dYes) (dIx false (dVar 9) (dC (.int 2)))) (dNil))) (dNil))))))) (t_settled_r2)
def t_settled_r4 : TSD := sSeq (sAsg (dLc [9] (dTk (dVar 4)) (gNm 9) (dTest (dFn (fInA (!·)) (d2 false (dIx false (dVar 9) (dC (.int 0))) (dVar 7)))) (dVar 9)) (gNm 4)) (t_settled_r3)
def t_settled_r5 : TSD := sSeq (sAsg (dLc [9] (dTk (dVar 4)) (gNm 9) (dTest (dFn (fInA id) (d2 false (dIx false (dVar 9) (dC (.int 0))) (dVar 7)))) (dVar 9)) (gNm 8)) (t_settled_r4)
def t_settled_r6 : TSD := sSeq (sIf (dTest (dFn fEq (d2 false (dFn fLen (dCons false (dVar 7) (dNil))) (dC (.int 0))))) (sRet (dTup (dCons false (dVar 5) (dCons false (dFn fSorted (dCons false (dVar 4) (dNil))) (dNil))))) (sNext)) (t_settled_r5)
def t_settled_7 : TSD := sSeq (sAsg (dCall S_plan (dCons false (dTk (dVar 4)) (dCons false (dVar 1) (dCons false (dVar 2) (dCons false (dVar 3) (dNil)))))) (gNm 7)) (t_settled_r6)
def t_settled_r8 : TSD := sWhile (dTest (dC (.bl true))) (t_settled_7)
def t_settled_r9 : TSD := sSeq (sAsg (dFn fAdd (d2 false (dFn (fMM (fun i j => if j > i then j else i) fun y m => y ≤ m) (dCons false (dFn fAdd (d2 false (dLc [9] (dVar 0) (gNm 9) (dYes) (dIx false (dVar 9) (dC (.int 0)))) (dLst (dCons false (dC (.int (-1))) (dNil))))) (dNil))) (dC (.int 1)))) (gNm 6)) (t_settled_r8)
def t_settled_r10 : TSD := sSeq (sAsg (dLst (dNil)) (gNm 5)) (t_settled_r9)
def t_settled : TSD := sSeq (sAsg (dFn fListOf (dCons false (dVar 0) (dNil))) (gNm 4)) (t_settled_r10)
theorem h_settled : ∀ ds R RE, S_settled ds R RE → ds.length = 4 := by
  rintro ds R RE ⟨_, _, _, _, rfl, _⟩; rfl
theorem st_while {R : D → EnvD → Prop} {nx bk ct : EnvD → Prop} {W : WD} {len times newest : Int} {c0 : Option D} (h1 : 1 ≤ len) (h2 : len ≤ 16) (h3 : 2 ≤ times) (h4 : times ≤ 4) : ∀ (n : Nat) (l : List Sp) (o : Bool) (f : Int) (ms : List (List Int)) (c7 c8 : Option D), l.length < n → SpOk l → (∀ s ∈ l, s.1 < f) → 0 ≤ f → ms.length + l.length ≤ 100 →
    (∀ e, R (.tup [.lst false ((setG len times newest n l f ms).1.map lsF), .lst true ((srtS (setG len times newest n l f ms).2).map spD)]) e) →
    whD (dTest (dC (.bl true))) (t_settled_7) { nx := nx, rt := (endsOf [] 4 R).rt, bk := bk, ct := ct } W n [c0, some (.int len), some (.int times), some (.int newest), some (.lst o (l.map spD)), some (.lst true (ms.map lsF)), some (.int f), c7, c8, none]
  | 0, l, _, _, _, _, _, hn, _, _, _, _, _ => by omega
  | n + 1, l, o, f, ms, c7, c8, hn, ok, hf, f0, hml, h => by
    have lb := line_big
    have l2 : 2 ≤ sizeLine := by omega
    have l3 : 3 ≤ sizeLine := by omega
    have ll := ok.len
    have ps := sps_sh l
    have pf := sps_fz l
    have pb := sps_ob l
    have key : ∀ R RE, (∀ o e, R (.lst o ((planR l len times newest).map D.int)) e) → S_plan [.lst false (l.map spD), .int len, .int times, .int newest] R RE := fun R RE h => ⟨l, len, times, newest, rfl, ok, h1, h2, h3, h4, h⟩
    have po := plan_ok ok (len := len) (times := times) (newest := newest)
    have ih := fun l' o f' ms' c7 c8 => st_while (R := R) (nx := nx) (bk := bk) (ct := ct) (W := W) (newest := newest) (c0 := c0) h1 h2 h3 h4 n l' o f' ms' c7 c8
    unfold setG at h
    unfold whD
    generalize whD _ _ _ W n = Wn at *
    generalize planR l len times newest = r at *
    have x0 : ∀ s, ixE (spD s) (.int 0) = some (.int s.1) := fun _ => rfl
    have x1 : ∀ s, ixE (spD s) (.int 1) = some (.int (fst s)) := fun _ => rfl
    have x2 : ∀ s, ixE (spD s) (.int 2) = some (.int (lst s)) := fun _ => rfl
    have so : ∀ s, strOk (spD s) := fun _ => trivial
    have q1 := lss_sh ms
    have q2 := lss_fz ms
    have q3 := lss_ob ms
    have go : ∀ o2, t_settled_r6 { nx := Wn, rt := (endsOf [] 4 R).rt, bk := nx, ct := Wn } [c0, some (.int len), some (.int times), some (.int newest), some (.lst false (l.map spD)), some (.lst true (ms.map lsF)), some (.int f), some (.lst o2 (r.map D.int)), c8, none] W := by
      intro o2
      by_cases r0 : r = []
      · rw [if_pos r0] at h
        have fs := fun Q => fSorted_sp (o := false) (l := l) (Q := Q)
        subst r0
        unfold t_settled_r6
        cases o2
        all_goals
          simp [sTryMany, clD, dTk, sRaise, sTryAs, sTry, dAt, flat, fIadd, dVar, dC, dNil, dCons, dFn, d2, d1, dLst, dTup, dLstV, dTupV, dTest, dTru, dNot, dAnd, dOr, dIf, dAndV, dOrV, dNotV, dChain, sNext, sSeq, sBreak, sCont, sDrop, sRet, sRetN, sIf, sAsg, gNm, gTupD, gTupD.go, sPar, dCall, T.vw, T.tk, vws, tks, Pd.resT, T.stay, isSh, isShs, noOb, noObs, noAl, noAls, fz, fzs, owp, D.subs, D.put1, D.puts, fAdd, fII, fII0, fMul, fI, fIB, fOrd, fEqG, fLen, fInt, fAbs, fSubB, fIsi, isiB, exOf, retD, T.mv, mask, startD, plAt, plPut, ixD, dIx, truD, anySeq, ps, pf, pb, q1, q2, q3, fs, l2]
          exact h _
      · rw [if_neg r0] at h
        have po := po.resolve_left r0
        obtain ⟨mo, mf⟩ := merged_ok ok po hf f0
        have ml := merged_len ok.num po f
        have tne := taken_ne ok.num po
        have ih := fun c7 c8 => ih (merged l r f) true (f + 1) (ms ++ [r]) c7 c8 (by omega) mo mf (by omega) (by rw [List.length_append, List.length_singleton]; omega) h
        have rn : ¬ r.length = 0 := fun e => r0 (List.length_eq_zero_iff.mp e)
        have rn' : ¬ (r.length : Int) = 0 := by omega
        have i1 := ints_sh r
        have i2 := ints_fz r
        have i3 := ints_ob r
        have tl : (taken l r).length ≤ l.length := List.length_filter_le _ _
        have lfl : (left l r).length ≤ l.length := List.length_filter_le _ _
        have rl : (r.map D.int).length = r.length := List.length_map _
        have inn : ∀ (g : Bool → Bool) (o : Bool) (i : Int) Q, fInA g [.int i, .lst o (r.map D.int)] Q ↔ Q (.bl (g (decide (i ∈ r)))) := fun g o i Q => in_nums
        have er : lsF r = .lst false (r.map D.int) := rfl
        rw [List.map_append, List.map_singleton, er] at ih
        have msl : (ms.map lsF).length < sizeLine := by rw [List.length_map]; omega
        generalize ms.map lsF = MS at *
        generalize r.map D.int = RD at *
        unfold t_settled_r6
        have go5 : ∀ o2, t_settled_r5 { nx := Wn, rt := (endsOf [] 4 R).rt, bk := nx, ct := Wn } [c0, some (.int len), some (.int times), some (.int newest), some (.lst false (l.map spD)), some (.lst true MS), some (.int f), some (.lst o2 RD), c8, none] W := by
          intro o2
          unfold t_settled_r5
          simp [sTryMany, clD, dTk, sRaise, sTryAs, sTry, dAt, flat, fIadd, dVar, dC, dNil, dCons, dFn, d2, d1, dLst, dTup, dLstV, dTupV, dTest, dTru, dNot, dAnd, dOr, dIf, dAndV, dOrV, dNotV, dChain, sNext, sSeq, sBreak, sCont, sDrop, sRet, sRetN, sIf, sAsg, gNm, gTupD, gTupD.go, sPar, dCall, T.vw, T.tk, vws, tks, Pd.resT, T.stay, isSh, isShs, noOb, noObs, noAl, noAls, fz, fzs, owp, D.subs, D.put1, D.puts, fAdd, fII, fII0, fMul, fI, fIB, fOrd, fEqG, fLen, fInt, fAbs, fSubB, fIsi, isiB, exOf, retD, T.mv, mask, startD, plAt, plPut, ixD, dIx, truD, dLc, itemsD, wipeD, unw, ps]
          refine lcD_fm (h := spD) (p := fun s => decide (s.1 ∈ r)) (f := spD) rfl (by simp; omega) (fun s hs' K hK => ?_) (fun s hs' hp K hK => ?_) ?_
          · cases o2
            all_goals
              simp [sTryMany, clD, dTk, sRaise, sTryAs, sTry, dAt, flat, fIadd, dVar, dC, dNil, dCons, dFn, d2, d1, dLst, dTup, dLstV, dTupV, dTest, dTru, dNot, dAnd, dOr, dIf, dAndV, dOrV, dNotV, dChain, sNext, sSeq, sBreak, sCont, sDrop, sRet, sRetN, sIf, sAsg, gNm, gTupD, gTupD.go, sPar, dCall, T.vw, T.tk, vws, tks, Pd.resT, T.stay, isSh, isShs, noOb, noObs, noAl, noAls, fz, fzs, owp, D.subs, D.put1, D.puts, fAdd, fII, fII0, fMul, fI, fIB, fOrd, fEqG, fLen, fInt, fAbs, fSubB, fIsi, isiB, exOf, retD, T.mv, mask, startD, plAt, plPut, ixD, dIx, truD, so, x0, i1, i2, i3, inn]
              exact hK
          · simp [sTryMany, clD, dTk, sRaise, sTryAs, sTry, dAt, flat, fIadd, dVar, dC, dNil, dCons, dFn, d2, d1, dLst, dTup, dLstV, dTupV, dTest, dTru, dNot, dAnd, dOr, dIf, dAndV, dOrV, dNotV, dChain, sNext, sSeq, sBreak, sCont, sDrop, sRet, sRetN, sIf, sAsg, gNm, gTupD, gTupD.go, sPar, dCall, T.vw, T.tk, vws, tks, Pd.resT, T.stay, isSh, isShs, noOb, noObs, noAl, noAls, fz, fzs, owp, D.subs, D.put1, D.puts, fAdd, fII, fII0, fMul, fI, fIB, fOrd, fEqG, fLen, fInt, fAbs, fSubB, fIsi, isiB, exOf, retD, T.mv, mask, startD, plAt, plPut, ixD, dIx, truD]
            exact hK _ rfl
          · have et : (l.filter fun s => decide (s.1 ∈ r)).map spD = (taken l r).map spD := rfl
            rw [List.nil_append, et]
            have t1 := sps_sh (taken l r)
            have t2 := sps_fz (taken l r)
            have t3 := sps_ob (taken l r)
            simp [sTryMany, clD, dTk, sRaise, sTryAs, sTry, dAt, flat, fIadd, dVar, dC, dNil, dCons, dFn, d2, d1, dLst, dTup, dLstV, dTupV, dTest, dTru, dNot, dAnd, dOr, dIf, dAndV, dOrV, dNotV, dChain, sNext, sSeq, sBreak, sCont, sDrop, sRet, sRetN, sIf, sAsg, gNm, gTupD, gTupD.go, sPar, dCall, T.vw, T.tk, vws, tks, Pd.resT, T.stay, isSh, isShs, noOb, noObs, noAl, noAls, fz, fzs, owp, D.subs, D.put1, D.puts, fAdd, fII, fII0, fMul, fI, fIB, fOrd, fEqG, fLen, fInt, fAbs, fSubB, fIsi, isiB, exOf, retD, T.mv, mask, startD, plAt, plPut, ixD, dIx, truD, unw]
            unfold t_settled_r4
            simp [sTryMany, clD, dTk, sRaise, sTryAs, sTry, dAt, flat, fIadd, dVar, dC, dNil, dCons, dFn, d2, d1, dLst, dTup, dLstV, dTupV, dTest, dTru, dNot, dAnd, dOr, dIf, dAndV, dOrV, dNotV, dChain, sNext, sSeq, sBreak, sCont, sDrop, sRet, sRetN, sIf, sAsg, gNm, gTupD, gTupD.go, sPar, dCall, T.vw, T.tk, vws, tks, Pd.resT, T.stay, isSh, isShs, noOb, noObs, noAl, noAls, fz, fzs, owp, D.subs, D.put1, D.puts, fAdd, fII, fII0, fMul, fI, fIB, fOrd, fEqG, fLen, fInt, fAbs, fSubB, fIsi, isiB, exOf, retD, T.mv, mask, startD, plAt, plPut, ixD, dIx, truD, dLc, itemsD, wipeD, unw, ps]
            refine lcD_fm (h := spD) (p := fun s => !decide (s.1 ∈ r)) (f := spD) rfl (by simp; omega) (fun s hs' K hK => ?_) (fun s hs' hp K hK => ?_) ?_
            · cases o2
              all_goals
                simp [sTryMany, clD, dTk, sRaise, sTryAs, sTry, dAt, flat, fIadd, dVar, dC, dNil, dCons, dFn, d2, d1, dLst, dTup, dLstV, dTupV, dTest, dTru, dNot, dAnd, dOr, dIf, dAndV, dOrV, dNotV, dChain, sNext, sSeq, sBreak, sCont, sDrop, sRet, sRetN, sIf, sAsg, gNm, gTupD, gTupD.go, sPar, dCall, T.vw, T.tk, vws, tks, Pd.resT, T.stay, isSh, isShs, noOb, noObs, noAl, noAls, fz, fzs, owp, D.subs, D.put1, D.puts, fAdd, fII, fII0, fMul, fI, fIB, fOrd, fEqG, fLen, fInt, fAbs, fSubB, fIsi, isiB, exOf, retD, T.mv, mask, startD, plAt, plPut, ixD, dIx, truD, so, x0, i1, i2, i3, inn]
                simpa using hK
            · simp [sTryMany, clD, dTk, sRaise, sTryAs, sTry, dAt, flat, fIadd, dVar, dC, dNil, dCons, dFn, d2, d1, dLst, dTup, dLstV, dTupV, dTest, dTru, dNot, dAnd, dOr, dIf, dAndV, dOrV, dNotV, dChain, sNext, sSeq, sBreak, sCont, sDrop, sRet, sRetN, sIf, sAsg, gNm, gTupD, gTupD.go, sPar, dCall, T.vw, T.tk, vws, tks, Pd.resT, T.stay, isSh, isShs, noOb, noObs, noAl, noAls, fz, fzs, owp, D.subs, D.put1, D.puts, fAdd, fII, fII0, fMul, fI, fIB, fOrd, fEqG, fLen, fInt, fAbs, fSubB, fIsi, isiB, exOf, retD, T.mv, mask, startD, plAt, plPut, ixD, dIx, truD]
              exact hK _ rfl
            · have el : (l.filter fun s => !decide (s.1 ∈ r)).map spD = (left l r).map spD := rfl
              rw [List.nil_append, el]
              have lfz : ((left l r).map spD).length < sizeLine := by rw [List.length_map]; omega
              have em : (merged l r f).map spD = (left l r).map spD ++ [.tup [.int f, .int (mn (firsts (taken l r))), .int (mx (lasts (taken l r)))]] := by
                unfold merged
                rw [List.map_append]; rfl
              rw [em] at ih
              have tf : 0 < (firsts (taken l r)).length := by unfold firsts; rw [List.length_map]; exact List.length_pos_iff.mpr tne
              have tg : 0 < (lasts (taken l r)).length := by unfold lasts; rw [List.length_map]; exact List.length_pos_iff.mpr tne
              have fmn := mn_use tf
              have fmx := mx_use tg
              have a1 := ints_sh (firsts (taken l r))
              have a2 := ints_fz (firsts (taken l r))
              have a3 := ints_ob (firsts (taken l r))
              have b1 := ints_sh (lasts (taken l r))
              have b2 := ints_fz (lasts (taken l r))
              have b3 := ints_ob (lasts (taken l r))
              have ea : ((taken l r).map fun s : Sp => D.int (fst s)) = (firsts (taken l r)).map D.int := by unfold firsts; rw [List.map_map]; rfl
              have eb : ((taken l r).map fun s : Sp => D.int (lst s)) = (lasts (taken l r)).map D.int := by unfold lasts; rw [List.map_map]; rfl
              generalize (left l r).map spD = LF at *
              generalize (firsts (taken l r)).map D.int = FD at *
              generalize (lasts (taken l r)).map D.int = LD at *
              simp [sTryMany, clD, dTk, sRaise, sTryAs, sTry, dAt, flat, fIadd, dVar, dC, dNil, dCons, dFn, d2, d1, dLst, dTup, dLstV, dTupV, dTest, dTru, dNot, dAnd, dOr, dIf, dAndV, dOrV, dNotV, dChain, sNext, sSeq, sBreak, sCont, sDrop, sRet, sRetN, sIf, sAsg, gNm, gTupD, gTupD.go, sPar, dCall, T.vw, T.tk, vws, tks, Pd.resT, T.stay, isSh, isShs, noOb, noObs, noAl, noAls, fz, fzs, owp, D.subs, D.put1, D.puts, fAdd, fII, fII0, fMul, fI, fIB, fOrd, fEqG, fLen, fInt, fAbs, fSubB, fIsi, isiB, exOf, retD, T.mv, mask, startD, plAt, plPut, ixD, dIx, truD, unw]
              unfold t_settled_r3
              simp [sTryMany, clD, dTk, sRaise, sTryAs, sTry, dAt, flat, fIadd, dVar, dC, dNil, dCons, dFn, d2, d1, dLst, dTup, dLstV, dTupV, dTest, dTru, dNot, dAnd, dOr, dIf, dAndV, dOrV, dNotV, dChain, sNext, sSeq, sBreak, sCont, sDrop, sRet, sRetN, sIf, sAsg, gNm, gTupD, gTupD.go, sPar, dCall, T.vw, T.tk, vws, tks, Pd.resT, T.stay, isSh, isShs, noOb, noObs, noAl, noAls, fz, fzs, owp, D.subs, D.put1, D.puts, fAdd, fII, fII0, fMul, fI, fIB, fOrd, fEqG, fLen, fInt, fAbs, fSubB, fIsi, isiB, exOf, retD, T.mv, mask, startD, plAt, plPut, ixD, dIx, truD, dApp, dLc, itemsD, wipeD, unw, t1, t2, t3]
              refine lcD_map (h := spD) (f := fun s => .int (fst s)) rfl (by omega) (fun s hs' K hK => ?_) ?_
              · simp [sTryMany, clD, dTk, sRaise, sTryAs, sTry, dAt, flat, fIadd, dVar, dC, dNil, dCons, dFn, d2, d1, dLst, dTup, dLstV, dTupV, dTest, dTru, dNot, dAnd, dOr, dIf, dAndV, dOrV, dNotV, dChain, sNext, sSeq, sBreak, sCont, sDrop, sRet, sRetN, sIf, sAsg, gNm, gTupD, gTupD.go, sPar, dCall, T.vw, T.tk, vws, tks, Pd.resT, T.stay, isSh, isShs, noOb, noObs, noAl, noAls, fz, fzs, owp, D.subs, D.put1, D.puts, fAdd, fII, fII0, fMul, fI, fIB, fOrd, fEqG, fLen, fInt, fAbs, fSubB, fIsi, isiB, exOf, retD, T.mv, mask, startD, plAt, plPut, ixD, dIx, truD, so, x1]
                exact hK _ rfl
              · rw [ea]
                simp [sTryMany, clD, dTk, sRaise, sTryAs, sTry, dAt, flat, fIadd, dVar, dC, dNil, dCons, dFn, d2, d1, dLst, dTup, dLstV, dTupV, dTest, dTru, dNot, dAnd, dOr, dIf, dAndV, dOrV, dNotV, dChain, sNext, sSeq, sBreak, sCont, sDrop, sRet, sRetN, sIf, sAsg, gNm, gTupD, gTupD.go, sPar, dCall, T.vw, T.tk, vws, tks, Pd.resT, T.stay, isSh, isShs, noOb, noObs, noAl, noAls, fz, fzs, owp, D.subs, D.put1, D.puts, fAdd, fII, fII0, fMul, fI, fIB, fOrd, fEqG, fLen, fInt, fAbs, fSubB, fIsi, isiB, exOf, retD, T.mv, mask, startD, plAt, plPut, ixD, dIx, truD, a1, a2, a3, wipeD, unw]
                refine fmn _ _ ?_
                refine lcD_map (h := spD) (f := fun s => .int (lst s)) rfl (by omega) (fun s hs' K hK => ?_) ?_
                · simp [sTryMany, clD, dTk, sRaise, sTryAs, sTry, dAt, flat, fIadd, dVar, dC, dNil, dCons, dFn, d2, d1, dLst, dTup, dLstV, dTupV, dTest, dTru, dNot, dAnd, dOr, dIf, dAndV, dOrV, dNotV, dChain, sNext, sSeq, sBreak, sCont, sDrop, sRet, sRetN, sIf, sAsg, gNm, gTupD, gTupD.go, sPar, dCall, T.vw, T.tk, vws, tks, Pd.resT, T.stay, isSh, isShs, noOb, noObs, noAl, noAls, fz, fzs, owp, D.subs, D.put1, D.puts, fAdd, fII, fII0, fMul, fI, fIB, fOrd, fEqG, fLen, fInt, fAbs, fSubB, fIsi, isiB, exOf, retD, T.mv, mask, startD, plAt, plPut, ixD, dIx, truD, so, x2]
                  exact hK _ rfl
                · rw [eb]
                  simp [sTryMany, clD, dTk, sRaise, sTryAs, sTry, dAt, flat, fIadd, dVar, dC, dNil, dCons, dFn, d2, d1, dLst, dTup, dLstV, dTupV, dTest, dTru, dNot, dAnd, dOr, dIf, dAndV, dOrV, dNotV, dChain, sNext, sSeq, sBreak, sCont, sDrop, sRet, sRetN, sIf, sAsg, gNm, gTupD, gTupD.go, sPar, dCall, T.vw, T.tk, vws, tks, Pd.resT, T.stay, isSh, isShs, noOb, noObs, noAl, noAls, fz, fzs, owp, D.subs, D.put1, D.puts, fAdd, fII, fII0, fMul, fI, fIB, fOrd, fEqG, fLen, fInt, fAbs, fSubB, fIsi, isiB, exOf, retD, T.mv, mask, startD, plAt, plPut, ixD, dIx, truD, b1, b2, b3, wipeD, unw]
                  refine fmx _ _ ?_
                  simp [sTryMany, clD, dTk, sRaise, sTryAs, sTry, dAt, flat, fIadd, dVar, dC, dNil, dCons, dFn, d2, d1, dLst, dTup, dLstV, dTupV, dTest, dTru, dNot, dAnd, dOr, dIf, dAndV, dOrV, dNotV, dChain, sNext, sSeq, sBreak, sCont, sDrop, sRet, sRetN, sIf, sAsg, gNm, gTupD, gTupD.go, sPar, dCall, T.vw, T.tk, vws, tks, Pd.resT, T.stay, isSh, isShs, noOb, noObs, noAl, noAls, fz, fzs, owp, D.subs, D.put1, D.puts, fAdd, fII, fII0, fMul, fI, fIB, fOrd, fEqG, fLen, fInt, fAbs, fSubB, fIsi, isiB, exOf, retD, T.mv, mask, startD, plAt, plPut, ixD, dIx, truD, l3, lfz]
                  unfold t_settled_r2
                  cases o2
                  all_goals
                    simp [sTryMany, clD, dTk, sRaise, sTryAs, sTry, dAt, flat, fIadd, dVar, dC, dNil, dCons, dFn, d2, d1, dLst, dTup, dLstV, dTupV, dTest, dTru, dNot, dAnd, dOr, dIf, dAndV, dOrV, dNotV, dChain, sNext, sSeq, sBreak, sCont, sDrop, sRet, sRetN, sIf, sAsg, gNm, gTupD, gTupD.go, sPar, dCall, T.vw, T.tk, vws, tks, Pd.resT, T.stay, isSh, isShs, noOb, noObs, noAl, noAls, fz, fzs, owp, D.subs, D.put1, D.puts, fAdd, fII, fII0, fMul, fI, fIB, fOrd, fEqG, fLen, fInt, fAbs, fSubB, fIsi, isiB, exOf, retD, T.mv, mask, startD, plAt, plPut, ixD, dIx, truD, dApp, i1, i2, i3, msl]
                    unfold t_settled_r1
                    simp [sTryMany, clD, dTk, sRaise, sTryAs, sTry, dAt, flat, fIadd, dVar, dC, dNil, dCons, dFn, d2, d1, dLst, dTup, dLstV, dTupV, dTest, dTru, dNot, dAnd, dOr, dIf, dAndV, dOrV, dNotV, dChain, sNext, sSeq, sBreak, sCont, sDrop, sRet, sRetN, sIf, sAsg, gNm, gTupD, gTupD.go, sPar, dCall, T.vw, T.tk, vws, tks, Pd.resT, T.stay, isSh, isShs, noOb, noObs, noAl, noAls, fz, fzs, owp, D.subs, D.put1, D.puts, fAdd, fII, fII0, fMul, fI, fIB, fOrd, fEqG, fLen, fInt, fAbs, fSubB, fIsi, isiB, exOf, retD, T.mv, mask, startD, plAt, plPut, ixD, dIx, truD]
                    exact ih _ _
        cases o2
        all_goals
          simp [sTryMany, clD, dTk, sRaise, sTryAs, sTry, dAt, flat, fIadd, dVar, dC, dNil, dCons, dFn, d2, d1, dLst, dTup, dLstV, dTupV, dTest, dTru, dNot, dAnd, dOr, dIf, dAndV, dOrV, dNotV, dChain, sNext, sSeq, sBreak, sCont, sDrop, sRet, sRetN, sIf, sAsg, gNm, gTupD, gTupD.go, sPar, dCall, T.vw, T.tk, vws, tks, Pd.resT, T.stay, isSh, isShs, noOb, noObs, noAl, noAls, fz, fzs, owp, D.subs, D.put1, D.puts, fAdd, fII, fII0, fMul, fI, fIB, fOrd, fEqG, fLen, fInt, fAbs, fSubB, fIsi, isiB, exOf, retD, T.mv, mask, startD, plAt, plPut, ixD, dIx, truD, anySeq, rn, rn', r0, rl, i1, i2, i3]
          exact go5 _
    unfold t_settled_7
    cases o
    all_goals
      simp [sTryMany, clD, dTk, sRaise, sTryAs, sTry, dAt, flat, fIadd, dVar, dC, dNil, dCons, dFn, d2, d1, dLst, dTup, dLstV, dTupV, dTest, dTru, dNot, dAnd, dOr, dIf, dAndV, dOrV, dNotV, dChain, sNext, sSeq, sBreak, sCont, sDrop, sRet, sRetN, sIf, sAsg, gNm, gTupD, gTupD.go, sPar, dCall, T.vw, T.tk, vws, tks, Pd.resT, T.stay, isSh, isShs, noOb, noObs, noAl, noAls, fz, fzs, owp, ow, D.subs, D.sub, D.put1, D.puts, fAdd, fII, fII0, fMul, fI, fIB, fOrd, fEqG, fIsN, fLen, fInt, fAbs, fSubB, fIsi, tyD, isiB, exOf, retD, T.mv, mask, startD, plAt, plPut, ixD, dIx, ixE, ixS, truD, strOk, ps, pf, pb]
      refine key _ _ fun o2 e => ?_
      exact go o2
theorem p_settled : ∀ ds R RE, S_settled ds R RE → t_settled (endsOf [] 4 R) (startD 10 ds) (exOf [] 4 RE) := by
  rintro ds R RE ⟨l, len, times, newest, rfl, ok, h1, h2, h3, h4, h⟩
  have lb := line_big
  have l1 : 1 ≤ sizeLine := by omega
  have ps := sps_sh l
  have ll := ok.len
  have x0 : ∀ s, ixE (spD s) (.int 0) = some (.int s.1) := fun _ => rfl
  have so : ∀ s, strOk (spD s) := fun _ => trivial
  obtain ⟨f1, f2⟩ := fol_ok ok
  unfold t_settled
  simp [sTryMany, clD, dTk, sRaise, sTryAs, sTry, dAt, flat, fIadd, dVar, dC, dNil, dCons, dFn, d2, d1, dLst, dTup, dLstV, dTupV, dTest, dTru, dNot, dAnd, dOr, dIf, dAndV, dOrV, dNotV, dChain, sNext, sSeq, sBreak, sCont, sDrop, sRet, sRetN, sIf, sAsg, gNm, gTupD, gTupD.go, sPar, dCall, T.vw, T.tk, vws, tks, Pd.resT, T.stay, isSh, isShs, noOb, noObs, noAl, noAls, fz, fzs, owp, D.subs, D.put1, D.puts, fAdd, fII, fII0, fMul, fI, fIB, fOrd, fEqG, fLen, fInt, fAbs, fSubB, fIsi, isiB, exOf, retD, T.mv, mask, startD, plAt, plPut, ixD, dIx, truD, fListOf, anySeq, ps]
  unfold t_settled_r10
  simp [sTryMany, clD, dTk, sRaise, sTryAs, sTry, dAt, flat, fIadd, dVar, dC, dNil, dCons, dFn, d2, d1, dLst, dTup, dLstV, dTupV, dTest, dTru, dNot, dAnd, dOr, dIf, dAndV, dOrV, dNotV, dChain, sNext, sSeq, sBreak, sCont, sDrop, sRet, sRetN, sIf, sAsg, gNm, gTupD, gTupD.go, sPar, dCall, T.vw, T.tk, vws, tks, Pd.resT, T.stay, isSh, isShs, noOb, noObs, noAl, noAls, fz, fzs, owp, D.subs, D.put1, D.puts, fAdd, fII, fII0, fMul, fI, fIB, fOrd, fEqG, fLen, fInt, fAbs, fSubB, fIsi, isiB, exOf, retD, T.mv, mask, startD, plAt, plPut, ixD, dIx, truD]
  unfold t_settled_r9
  simp [sTryMany, clD, dTk, sRaise, sTryAs, sTry, dAt, flat, fIadd, dVar, dC, dNil, dCons, dFn, d2, d1, dLst, dTup, dLstV, dTupV, dTest, dTru, dNot, dAnd, dOr, dIf, dAndV, dOrV, dNotV, dChain, sNext, sSeq, sBreak, sCont, sDrop, sRet, sRetN, sIf, sAsg, gNm, gTupD, gTupD.go, sPar, dCall, T.vw, T.tk, vws, tks, Pd.resT, T.stay, isSh, isShs, noOb, noObs, noAl, noAls, fz, fzs, owp, D.subs, D.put1, D.puts, fAdd, fII, fII0, fMul, fI, fIB, fOrd, fEqG, fLen, fInt, fAbs, fSubB, fIsi, isiB, exOf, retD, T.mv, mask, startD, plAt, plPut, ixD, dIx, truD, dLc, itemsD, wipeD, unw, ps]
  refine lcD_map (h := spD) (f := fun s => .int s.1) rfl (by omega) (fun s hs' K hK => ?_) ?_
  · simp [sTryMany, clD, dTk, sRaise, sTryAs, sTry, dAt, flat, fIadd, dVar, dC, dNil, dCons, dFn, d2, d1, dLst, dTup, dLstV, dTupV, dTest, dTru, dNot, dAnd, dOr, dIf, dAndV, dOrV, dNotV, dChain, sNext, sSeq, sBreak, sCont, sDrop, sRet, sRetN, sIf, sAsg, gNm, gTupD, gTupD.go, sPar, dCall, T.vw, T.tk, vws, tks, Pd.resT, T.stay, isSh, isShs, noOb, noObs, noAl, noAls, fz, fzs, owp, D.subs, D.put1, D.puts, fAdd, fII, fII0, fMul, fI, fIB, fOrd, fEqG, fLen, fInt, fAbs, fSubB, fIsi, isiB, exOf, retD, T.mv, mask, startD, plAt, plPut, ixD, dIx, truD, so, x0]
    exact hK _ rfl
  · have e1 : (l.map fun s : Sp => D.int s.1) = (nums l).map D.int := by unfold nums; rw [List.map_map]; rfl
    have e2 : (nums l ++ [-1]).map D.int = (nums l).map D.int ++ [.int (-1)] := by rw [List.map_append]; rfl
    rw [e1]
    have fmx := mx_use (l := nums l ++ [-1]) (by simp)
    rw [e2] at fmx
    have j1 := ints_sh (nums l)
    have j2 := ints_fz (nums l)
    have j3 := ints_ob (nums l)
    have j4 : ((nums l).map D.int).length + 1 ≤ sizeLine := by rw [List.length_map, nums, List.length_map]; omega
    have k1 : isShs ((nums l).map D.int ++ [.int (-1)]) = true := by rw [← e2]; exact ints_sh _
    have k2 : fzs ((nums l).map D.int ++ [.int (-1)]) = (nums l).map D.int ++ [.int (-1)] := by rw [← e2]; exact ints_fz _
    have k3 : noObs ((nums l).map D.int ++ [.int (-1)]) = true := by rw [← e2]; exact ints_ob _
    generalize (nums l).map D.int = X at *
    simp [sTryMany, clD, dTk, sRaise, sTryAs, sTry, dAt, flat, fIadd, dVar, dC, dNil, dCons, dFn, d2, d1, dLst, dTup, dLstV, dTupV, dTest, dTru, dNot, dAnd, dOr, dIf, dAndV, dOrV, dNotV, dChain, sNext, sSeq, sBreak, sCont, sDrop, sRet, sRetN, sIf, sAsg, gNm, gTupD, gTupD.go, sPar, dCall, T.vw, T.tk, vws, tks, Pd.resT, T.stay, isSh, isShs, noOb, noObs, noAl, noAls, fz, fzs, owp, D.subs, D.put1, D.puts, fAdd, fII, fII0, fMul, fI, fIB, fOrd, fEqG, fLen, fInt, fAbs, fSubB, fIsi, isiB, exOf, retD, T.mv, mask, startD, plAt, plPut, ixD, dIx, truD, j1, j2, j3, j4, l1, k1, k2, k3, wipeD, unw]
    refine fmx _ _ ?_
    simp [sTryMany, clD, dTk, sRaise, sTryAs, sTry, dAt, flat, fIadd, dVar, dC, dNil, dCons, dFn, d2, d1, dLst, dTup, dLstV, dTupV, dTest, dTru, dNot, dAnd, dOr, dIf, dAndV, dOrV, dNotV, dChain, sNext, sSeq, sBreak, sCont, sDrop, sRet, sRetN, sIf, sAsg, gNm, gTupD, gTupD.go, sPar, dCall, T.vw, T.tk, vws, tks, Pd.resT, T.stay, isSh, isShs, noOb, noObs, noAl, noAls, fz, fzs, owp, D.subs, D.put1, D.puts, fAdd, fII, fII0, fMul, fI, fIB, fOrd, fEqG, fLen, fInt, fAbs, fSubB, fIsi, isiB, exOf, retD, T.mv, mask, startD, plAt, plPut, ixD, dIx, truD]
    unfold t_settled_r8
    unfold sWhile
    refine ⟨51, ?_⟩
    have more := (setG_more (len := len) (times := times) (newest := newest) (k := 50) (m := 51) (ms := []) ok f1 f2 (by omega) (by omega)).1
    rw [more] at h
    exact st_while (R := R) (nx := (endsOf [] 4 R).nx) (bk := (endsOf [] 4 R).bk) (ct := (endsOf [] 4 R).ct) (W := exOf [] 4 RE) (newest := newest) h1 h2 h3 h4 51 l true _ [] none none (by omega) ok f1 f2 (by simp; omega) h

def S_law_draws : SD := fun ds R _ => ∃ ns : List Int, ds = [.frl false (ns.map .int)] ∧ ∀ d e, DrN (2 ^ 40) d → R d e
def t_law_draws_1 : TSD := sIf (dTest (dFn fGe (d2 false (dVar 3) (dC (.int 1048576))))) (sSeq (sDrop (dApp false (dVar 1) (dFn fMod (d2 false (dFn fInt (dCons false (dVar 3) (dNil))) (dC (.int 1048576)))))) (sAsg (dFn fFdiv (d2 false (dVar 3) (dC (.int 1048576)))) (gNm 3))) (sSeq (sAsg (dFn fMod (d2 false (dFn fInt (dCons false (dFn fAdd (d2 false (dFn fAdd (d2 false (dFn fAdd (d2 false (dFn fMul (d2 false (dVar 4) (dC (.int 48271)))) (dFn fMul (d2 false (dC (.int 11)) (dVar 5))))) (dC (.int 7)))) (dVar 3))) (dNil))) (dC (.int 2147483647)))) (gNm 4)) (sDrop (dApp false (dVar 1) (dFn fMod (d2 false (dFn fInt (dCons false (dFn fFdiv (d2 false (dFn fMul (d2 false (dVar 4) (dC (.int 2862933555777941757)))) (dC (.int 1024)))) (dNil))) (dC (.int 1048576)))))))
def t_law_draws_2 : TSD := sSeq (sAsg (dFn fAbs (dCons false (dFn fInt (dCons false (dVar 2) (dNil))) (dNil))) (gNm 3)) (sSeq (sAsg (dFn fAdd (d2 false (dFn fMod (d2 false (dFn fInt (dCons false (dVar 2) (dNil))) (dC (.int 1000003)))) (dC (.int 1)))) (gNm 4)) (sForR1 (dCons false (dC (.int 40)) (dNil)) (gNm 5) (t_law_draws_1)))
def t_law_draws : TSD := sSeq (sAsg (dLst (dNil)) (gNm 1)) (sSeq (sFor (dFn fAdd (d2 false (dFn fListOf (dCons false (dSl false (dVar 0) (pNone) (pSome (dC (.int 8)))) (dNil))) (dLst (dCons false (dC (.int 7)) (dNil))))) (gNm 2) (t_law_draws_2)) (sRet (dDisp (dkCons (dC (.str ("numbers" : Str))) (dVar 1) (dkCons (dC (.str ("at" : Str))) (dC (.int 0)) (dkNil))))))
theorem h_law_draws : ∀ ds R RE, S_law_draws ds R RE → ds.length = 1 := by
  rintro ds R RE ⟨a, rfl, _⟩; rfl
def inR (l : List Int) : Prop := ∀ n ∈ l, 0 ≤ n ∧ n < 1048576
theorem inR_snoc {l : List Int} {n : Int} (h : inR l) (h0 : 0 ≤ n) (h1 : n < 1048576) : inR (l ++ [n]) := fun x hx => by
  rcases List.mem_append.mp hx with hx | hx
  · exact h x hx
  · rw [List.mem_singleton.mp hx]; exact ⟨h0, h1⟩
theorem p_law_draws : ∀ ds R RE, S_law_draws ds R RE → t_law_draws (endsOf [] 1 R) (startD 6 ds) (exOf [] 1 RE) := by
  rintro ds R RE ⟨ns, rfl, h⟩
  have lb := line_big
  have l1 : 1 ≤ sizeLine := by omega
  have p100 : (2 : Nat) ^ 100 = 1267650600228229401496703205376 := by decide
  have d1 : ∀ x, CDivW x 1048576 := fun x => sml_divN (by decide) (by decide)
  have d2' : ∀ x, CDivW x 1000003 := fun x => sml_divN (by decide) (by decide)
  have d3 : ∀ x, CDivW x 2147483647 := fun x => sml_divN (by decide) (by decide)
  have d4 : ∀ x, CDivW x 1024 := fun x => sml_divN (by decide) (by decide)
  unfold t_law_draws
  have ec : cutD (ns.map D.int) none (some 8) = (ns.take 8).map D.int := by
    unfold cutD
    rw [show (8 : Int) = ((8 : Nat) : Int) from rfl, HT.sIx_none, HT.sIx_nat, List.drop_zero, Nat.sub_zero]
    rcases Nat.le_total ns.length 8 with z | z
    · rw [List.length_map, Nat.min_eq_right z, List.take_of_length_le (by simp), List.take_of_length_le z]
    · rw [List.length_map, Nat.min_eq_left z, List.map_take]
  simp [sTryMany, clD, dTk, sRaise, sTryAs, sTry, dAt, flat, fIadd, dVar, dC, dNil, dCons, dFn, d2, d1, dLst, dTup, dLstV, dTupV, dTest, dTru, dNot, dAnd, dOr, dIf, dAndV, dOrV, dNotV, dChain, sNext, sSeq, sBreak, sCont, sDrop, sRet, sRetN, sIf, sAsg, gNm, gTupD, gTupD.go, sPar, dCall, T.vw, T.tk, vws, tks, Pd.resT, T.stay, isSh, isShs, noOb, noObs, noAl, noAls, fz, fzs, owp, ow, D.subs, D.sub, D.put1, D.puts, fAdd, fII, fII0, fMul, fI, fIB, fOrd, fEqG, fIsN, fLen, fInt, fAbs, fSubB, fIsi, tyD, isiB, exOf, retD, T.mv, mask, startD, plAt, plPut, ixD, dIx, ixE, ixS, truD, strOk, dDisp, dkCons, dkNil, dputs, dput, gSubD, kOk, lkI, lk, strE, dDicK, dDicT, sFor, dSl, pNone, pSome, fSl, fListOf, anySeq, itemsD, ec, l1, -List.map_take]
  refine ⟨by omega, ?_⟩
  rw [show (ns.take 8).map D.int ++ [D.int 7] = (ns.take 8 ++ [7]).map D.int by simp]
  have cl : (ns.take 8 ++ [7]).length ≤ 9 := by simp; omega
  have cl0 : 0 < (ns.take 8 ++ [7]).length := by simp
  generalize ns.take 8 ++ [7] = cells at cl cl0 ⊢
  refine forD_inv (fun j e => ∃ (l : List Int) (c2 c3 c4 c5 : Option D), e = [some (.frl false (ns.map .int)), some (.lst true (l.map .int)), c2, c3, c4, c5] ∧ l.length = 40 * j ∧ inR l) (k := 0) ⟨[], none, none, none, none, rfl, rfl, fun _ z => nomatch z⟩ ?_ ?_
  · rintro j cell e hj ⟨l, c2, c3, c4, c5, rfl, hl, hr⟩ next hnx
    have hjl := (List.getElem?_eq_some_iff.mp hj).1
    have e1 := Int.emod_nonneg cell (show (1000003 : Int) ≠ 0 by decide)
    have e2 := Int.emod_lt_of_pos cell (show (0 : Int) < 1000003 by decide)
    unfold t_law_draws_2
    simp [sTryMany, clD, dTk, sRaise, sTryAs, sTry, dAt, flat, fIadd, dVar, dC, dNil, dCons, dFn, d2, d1, dLst, dTup, dLstV, dTupV, dTest, dTru, dNot, dAnd, dOr, dIf, dAndV, dOrV, dNotV, dChain, sNext, sSeq, sBreak, sCont, sDrop, sRet, sRetN, sIf, sAsg, gNm, gTupD, gTupD.go, sPar, dCall, T.vw, T.tk, vws, tks, Pd.resT, T.stay, isSh, isShs, noOb, noObs, noAl, noAls, fz, fzs, owp, ow, D.subs, D.sub, D.put1, D.puts, fAdd, fII, fII0, fMul, fI, fIB, fOrd, fEqG, fIsN, fLen, fInt, fAbs, fSubB, fIsi, tyD, isiB, exOf, retD, T.mv, mask, startD, plAt, plPut, ixD, dIx, ixE, ixS, truD, strOk, sForR1, d2']
    rw [show rangeD 0 40 = rangeD 0 ((40 : Nat) : Int) from rfl, rangeD_eq]
    refine forD_inv (fun i e => ∃ (l : List Int) (c5 : Option D) (rest mixed : Int), e = [some (.frl false (ns.map .int)), some (.lst true (l.map .int)), some (.int cell), some (.int rest), some (.int mixed), c5] ∧ l.length = 40 * j + i ∧ inR l ∧ 0 ≤ rest ∧ 0 ≤ mixed ∧ mixed < 4294967296) (k := 0)
      ⟨l, c5, _, _, rfl, by omega, hr, by split <;> omega, by omega, by omega⟩ ?_ ?_
    · rintro i k e hi ⟨l, c5, rest, mixed, rfl, hl, hr, r0, m0, m1⟩ next2 hn2
      obtain ⟨hil, ek⟩ := List.getElem?_eq_some_iff.mp hi
      rw [List.length_range] at hil
      rw [List.getElem_range] at ek
      subst ek
      have ls : l.length < sizeLine := by omega
      have cm1 : CMulW mixed 48271 := mul_okN (by omega) (by decide)
      have cm2 : CMulW 11 (i : Int) := mul_okN (by decide) (by omega)
      unfold t_law_draws_1
      by_cases c : 1048576 ≤ rest
      · have n1 := Int.emod_nonneg rest (show (1048576 : Int) ≠ 0 by decide)
        have n2 := Int.emod_lt_of_pos rest (show (0 : Int) < 1048576 by decide)
        have nx := hn2 _ ⟨l ++ [rest % 1048576], some (.int i), rest / 1048576, mixed, rfl, by simp; omega, inR_snoc hr n1 n2, Int.ediv_nonneg r0 (by decide), m0, m1⟩
        simp [sTryMany, clD, dTk, sRaise, sTryAs, sTry, dAt, flat, fIadd, dVar, dC, dNil, dCons, dFn, d2, d1, dLst, dTup, dLstV, dTupV, dTest, dTru, dNot, dAnd, dOr, dIf, dAndV, dOrV, dNotV, dChain, sNext, sSeq, sBreak, sCont, sDrop, sRet, sRetN, sIf, sAsg, gNm, gTupD, gTupD.go, sPar, dCall, T.vw, T.tk, vws, tks, Pd.resT, T.stay, isSh, isShs, noOb, noObs, noAl, noAls, fz, fzs, owp, ow, D.subs, D.sub, D.put1, D.puts, fAdd, fII, fII0, fMul, fI, fIB, fOrd, fEqG, fIsN, fLen, fInt, fAbs, fSubB, fIsi, tyD, isiB, exOf, retD, T.mv, mask, startD, plAt, plPut, ixD, dIx, ixE, ixS, truD, strOk, dApp, c, d1, ls] at nx ⊢
        exact nx
      · have n3 := Int.emod_nonneg (mixed * 48271 + 11 * (i : Int) + 7 + rest) (show (2147483647 : Int) ≠ 0 by decide)
        have n4 := Int.emod_lt_of_pos (mixed * 48271 + 11 * (i : Int) + 7 + rest) (show (0 : Int) < 2147483647 by decide)
        have cm3 : CMulW ((mixed * 48271 + 11 * (i : Int) + 7 + rest) % 2147483647) 2862933555777941757 := mul_okN (by omega) (by decide)
        generalize hq : (mixed * 48271 + 11 * (i : Int) + 7 + rest) % 2147483647 = q at n3 n4 cm3
        have n1 := Int.emod_nonneg (q * 2862933555777941757 / 1024) (show (1048576 : Int) ≠ 0 by decide)
        have n2 := Int.emod_lt_of_pos (q * 2862933555777941757 / 1024) (show (0 : Int) < 1048576 by decide)
        have nx := hn2 _ ⟨l ++ [q * 2862933555777941757 / 1024 % 1048576], some (.int i), rest, q, rfl, by simp; omega, inR_snoc hr n1 n2, r0, n3, by omega⟩
        simp [sTryMany, clD, dTk, sRaise, sTryAs, sTry, dAt, flat, fIadd, dVar, dC, dNil, dCons, dFn, d2, d1, dLst, dTup, dLstV, dTupV, dTest, dTru, dNot, dAnd, dOr, dIf, dAndV, dOrV, dNotV, dChain, sNext, sSeq, sBreak, sCont, sDrop, sRet, sRetN, sIf, sAsg, gNm, gTupD, gTupD.go, sPar, dCall, T.vw, T.tk, vws, tks, Pd.resT, T.stay, isSh, isShs, noOb, noObs, noAl, noAls, fz, fzs, owp, ow, D.subs, D.sub, D.put1, D.puts, fAdd, fII, fII0, fMul, fI, fIB, fOrd, fEqG, fIsN, fLen, fInt, fAbs, fSubB, fIsi, tyD, isiB, exOf, retD, T.mv, mask, startD, plAt, plPut, ixD, dIx, ixE, ixS, truD, strOk, dApp, c, d1, d3, d4, ls, cm1, cm2, cm3, hq] at nx ⊢
        exact nx
    · rintro e ⟨l, c5, rest, mixed, rfl, hl, hr, _⟩
      simp at hl
      exact hnx _ ⟨l, _, _, _, _, rfl, by omega, hr⟩
  · rintro e ⟨l, c2, c3, c4, c5, rfl, hl, hr⟩
    rw [Nat.zero_add] at hl
    have fin : ∀ e, R (drD l 0) e := fun e => h _ e ⟨l, 0, rfl, by omega, by omega, hr, by omega⟩
    simp [sTryMany, clD, dTk, sRaise, sTryAs, sTry, dAt, flat, fIadd, dVar, dC, dNil, dCons, dFn, d2, d1, dLst, dTup, dLstV, dTupV, dTest, dTru, dNot, dAnd, dOr, dIf, dAndV, dOrV, dNotV, dChain, sNext, sSeq, sBreak, sCont, sDrop, sRet, sRetN, sIf, sAsg, gNm, gTupD, gTupD.go, sPar, dCall, T.vw, T.tk, vws, tks, Pd.resT, T.stay, isSh, isShs, noOb, noObs, noAl, noAls, fz, fzs, owp, ow, D.subs, D.sub, D.put1, D.puts, fAdd, fII, fII0, fMul, fI, fIB, fOrd, fEqG, fIsN, fLen, fInt, fAbs, fSubB, fIsi, tyD, isiB, exOf, retD, T.mv, mask, startD, plAt, plPut, ixD, dIx, ixE, ixS, truD, strOk, drD] at fin ⊢
    exact fin _

def S_law_next : SD := fun ds R _ => ∃ d f b, ds = [d, .int b] ∧ DrN (f + 1) d ∧ 0 < b ∧ b < 2 ^ 60 ∧ ∀ v d', 0 ≤ v → v < b → DrN f d' → R (.int v) [some d', none]
theorem next_use {j : Nat} {d : D} {l : Int} {f : Nat} {env : EnvD} {Q : T → EnvD → Prop} {W : WD} (he : env[j]? = some (some d)) (hd : DrN (f + 1) d) (h0 : 0 < l) (h1 : l < 2 ^ 60)
    (h : ∀ v d', 0 ≤ v → v < l → DrN f d' → Q (.tmp (.int v)) (env.set j (some d'))) : dCallIO [0] S_law_next (dCons false (dVar j) (dCons false (dC (.int l)) dNil)) env Q W := by
  simp [dCallIO, dCons, dVar, dC, dNil, he, cAs, cA, owp, D.subs, T.vw, noOb, fz, CA.root, CA.d, List.filterMap]
  refine ⟨d, f, l, rfl, hd, h0, h1, fun v d' a b c => ?_⟩
  simp [cback, D.puts]
  exact h v d' a b c
theorem draws_lc {i j : Nat} (hij : i ≠ j) {b : Int} (h0 : 0 < b) (h1 : b < 2 ^ 60) {α : Type} {h : α → D} {Q : List D → EnvD → Prop} : ∀ {xs : List α} {ns : List Int} {f : Nat} {d : D} {env : EnvD}, env.set i none = env → env[j]? = some (some d) → ns.length + xs.length ≤ sizeLine → (∀ v ∈ ns, 0 ≤ v ∧ v < b) → DrN (f + xs.length) d →
    (∀ (ms : List Int) (d' : D), ms.length = ns.length + xs.length → (∀ v ∈ ms, 0 ≤ v ∧ v < b) → DrN f d' → Q (ms.map D.int) (env.set j (some d'))) →
    lcD [i] (gNm i) dYes (dCallIO [0] S_law_next (dCons false (dVar j) (dCons false (dC (.int b)) dNil))) Q (xs.map h) (ns.map D.int) env
  | [], ns, f, d, env, he, hj, hl, hv, hd, q => by
    have := q ns d rfl hv hd
    rwa [show env.set j (some d) = env from by
      obtain ⟨jl, e⟩ := List.getElem?_eq_some_iff.mp hj
      rw [← e]; exact List.set_getElem_self jl] at this
  | x :: xs, ns, f, d, env, he, hj, hl, hv, hd, q => by
    rw [List.length_cons] at hl hd
    rw [List.map_cons]
    unfold lcD
    simp only [gNm, dYes, if_true]
    show dCallIO [0] S_law_next (dCons false (dVar j) (dCons false (dC (.int b)) dNil)) (env.set i (some (h x))) _ noW
    refine next_use (f := f + xs.length) (by rw [List.getElem?_set_ne hij]; exact hj) hd h0 h1 fun v d' v0 v1 hd' => ?_
    refine ⟨by rw [List.length_map]; omega, ?_⟩
    have e : wipeD (((env.set i (some (h x))).set j (some d'))) [i] = env.set j (some d') := by
      show ((env.set i (some (h x))).set j (some d')).set i none = env.set j (some d')
      rw [List.set_comm _ _ (fun z => hij z.symm), List.set_set, he]
    have jl : j < env.length := (List.getElem?_eq_some_iff.mp hj).1
    have go := draws_lc hij h0 h1 (h := h) (Q := Q) (xs := xs) (ns := ns ++ [v]) (f := f) (d := d') (env := env.set j (some d')) (by rw [List.set_comm _ _ (fun z => hij z.symm), he]) (by rw [List.getElem?_set_self jl]) (by rw [List.length_append, List.length_singleton]; omega) (fun w hw => by
      rcases List.mem_append.mp hw with hw | hw
      · exact hv w hw
      · rw [List.mem_singleton.mp hw]; exact ⟨v0, v1⟩) hd' fun ms d2 hm hmv hd2 => by
        rw [List.set_set]
        exact q ms d2 (by rw [hm, List.length_append, List.length_singleton, List.length_cons]; omega) hmv hd2
    rw [List.map_append] at go
    show lcD [i] (gNm i) dYes _ Q (xs.map h) (ns.map D.int ++ [.int v]) (wipeD (((env.set i (some (h x))).set j (some d'))) [i])
    rw [e]
    exact go
def t_law_next : TSD := sSeq (sAsg (dFn fInt (dCons false (dIx false (dVar 0) (dC (.str ("at" : Str)))) (dNil))) (gNm 2)) (sSeq (sAsg (dFn fAdd (d2 false (dVar 2) (dC (.int 1)))) (gSubD false (dVar 0) (dC (.str ("at" : Str))))) (sRet (dFn fMod (d2 false (dFn fInt (dCons false (dFn fAdd (d2 false (dIx false (dIx false (dVar 0) (dC (.str ("numbers" : Str)))) (dFn fMod (d2 false (dVar 2) (dFn fLen (dCons false (dIx false (dVar 0) (dC (.str ("numbers" : Str)))) (dNil)))))) (dFn fMul (d2 false (dC (.int 31)) (dFn fFdiv (d2 false (dVar 2) (dFn fLen (dCons false (dIx false (dVar 0) (dC (.str ("numbers" : Str)))) (dNil))))))))) (dNil))) (dVar 1)))))
theorem h_law_next : ∀ ds R RE, S_law_next ds R RE → ds.length = 2 := by
  rintro ds R RE ⟨a, f, b, rfl, _⟩; rfl
theorem p_law_next : ∀ ds R RE, S_law_next ds R RE → t_law_next (endsOf [0] 2 R) (startD 3 ds) (exOf [0] 2 RE) := by
  rintro ds R RE ⟨d, f, b, rfl, ⟨ns, a, rfl, n0, n1, nr, ha⟩, b0, b1, h⟩
  have lb := line_big
  have p100 : (2 : Nat) ^ 100 = 1267650600228229401496703205376 := by decide
  have l2 : 2 < sizeLine := by omega
  have dv : ∀ x, CDivW x b := fun x => sml_divN b0 (by omega)
  have dl : ∀ x, CDivW x (ns.length : Int) := fun x => sml_divN (by omega) (by omega)
  have nl : (0 : Int) < ns.length := by omega
  have m1 := Int.emod_nonneg (a : Int) (show (ns.length : Int) ≠ 0 by omega)
  have m2 := Int.emod_lt_of_pos (a : Int) nl
  have q1 : 0 ≤ (a : Int) / ns.length := Int.ediv_nonneg (by omega) (by omega)
  have q2 : (a : Int) / ns.length ≤ a := Int.ediv_le_self _ (by omega)
  have cm : CMulW 31 ((a : Int) / ns.length) := mul_okN (by decide) (by omega)
  obtain ⟨k, hk⟩ : ∃ k : Nat, (a : Int) % ns.length = k := ⟨((a : Int) % ns.length).toNat, by omega⟩
  have kl : k < ns.length := by omega
  have ea : atI (ns.map D.int) (k : Int) = some (.int ns[k]) := atI_ofNat (by rw [List.getElem?_map, List.getElem?_eq_getElem kl]; rfl)
  have hm := Int.emod_nonneg (ns[k] + 31 * ((a : Int) / ns.length)) (show b ≠ 0 by omega)
  have hm2 := Int.emod_lt_of_pos (ns[k] + 31 * ((a : Int) / ns.length)) b0
  have fin := h _ _ hm hm2 ⟨ns, a + 1, rfl, n0, n1, nr, by omega⟩
  unfold t_law_next
  simp [sTryMany, clD, dTk, sRaise, sTryAs, sTry, dAt, flat, fIadd, dVar, dC, dNil, dCons, dFn, d2, d1, dLst, dTup, dLstV, dTupV, dTest, dTru, dNot, dAnd, dOr, dIf, dAndV, dOrV, dNotV, dChain, sNext, sSeq, sBreak, sCont, sDrop, sRet, sRetN, sIf, sAsg, gNm, gTupD, gTupD.go, sPar, dCall, T.vw, T.tk, vws, tks, Pd.resT, T.stay, isSh, isShs, noOb, noObs, noAl, noAls, fz, fzs, owp, ow, D.subs, D.sub, D.put1, D.puts, fAdd, fII, fII0, fMul, fI, fIB, fOrd, fEqG, fIsN, fLen, fInt, fAbs, fSubB, fIsi, tyD, isiB, exOf, retD, T.mv, mask, startD, plAt, plPut, ixD, dIx, ixE, ixS, truD, strOk, dDisp, dkCons, dkNil, dputs, dput, gSubD, kOk, lkI, lk, strE, dDicK, dDicT, drD, anySeq, l2, dl, dv, cm, hk, ea, nl, n0, b0] at fin ⊢
  exact fin

def S_law_pick : SD := fun ds R _ => ∃ (d : D) (f : Nat) (xs : List D), ds = [d, .lst false xs] ∧ DrN (f + 1) d ∧ 0 < xs.length ∧ xs.length < 2 ^ 30 ∧ isShs xs = true ∧ ∀ (k : Nat) (x d' : D), xs[k]? = some x → DrN f d' → R x [some d', none]
def t_law_pick : TSD := sRet (dIx true (dVar 1) (dCallIO [0] S_law_next (dCons false (dVar 0) (dCons false (dFn fLen (dCons false (dVar 1) (dNil))) (dNil)))))
theorem h_law_pick : ∀ ds R RE, S_law_pick ds R RE → ds.length = 2 := by
  rintro ds R RE ⟨a, f, b, rfl, _⟩; rfl
theorem p_law_pick : ∀ ds R RE, S_law_pick ds R RE → t_law_pick (endsOf [0] 2 R) (startD 2 ds) (exOf [0] 2 RE) := by
  rintro ds R RE ⟨d, f, xs, rfl, hd, x0, x1, sx, h⟩
  have ex : noOb d = true := by
    obtain ⟨ns, a, rfl, _⟩ := hd
    simp [drD, noOb, noObs]
  unfold t_law_pick
  simp [sTryMany, clD, dTk, sRaise, sTryAs, sTry, dAt, flat, fIadd, dVar, dC, dNil, dCons, dFn, d2, d1, dLst, dTup, dLstV, dTupV, dTest, dTru, dNot, dAnd, dOr, dIf, dAndV, dOrV, dNotV, dChain, sNext, sSeq, sBreak, sCont, sDrop, sRet, sRetN, sIf, sAsg, gNm, gTupD, gTupD.go, sPar, dCall, T.vw, T.tk, vws, tks, Pd.resT, T.stay, isSh, isShs, noOb, noObs, noAl, noAls, fz, fzs, owp, ow, D.subs, D.sub, D.put1, D.puts, fAdd, fII, fII0, fMul, fI, fIB, fOrd, fEqG, fIsN, fLen, fInt, fAbs, fSubB, fIsi, tyD, isiB, exOf, retD, T.mv, mask, startD, plAt, plPut, ixD, dIx, ixE, ixS, truD, strOk, dCallIO, anySeq, cAs, cA, sx, CA.root, CA.d, List.filterMap]
  refine ⟨d, f, xs.length, rfl, hd, by omega, by omega, fun v d' v0 v1 hd' => ?_⟩
  obtain ⟨k, rfl⟩ : ∃ k : Nat, v = k := ⟨v.toNat, by omega⟩
  have kl : k < xs.length := by omega
  have e1 : xs[k]? = some xs[k] := List.getElem?_eq_getElem kl
  have ea : atI xs (k : Int) = some xs[k] := atI_ofNat e1
  have sk := isShs_mem sx (List.getElem_mem kl)
  have fin := h k _ d' e1 hd'
  simp [sTryMany, clD, dTk, sRaise, sTryAs, sTry, dAt, flat, fIadd, dVar, dC, dNil, dCons, dFn, d2, d1, dLst, dTup, dLstV, dTupV, dTest, dTru, dNot, dAnd, dOr, dIf, dAndV, dOrV, dNotV, dChain, sNext, sSeq, sBreak, sCont, sDrop, sRet, sRetN, sIf, sAsg, gNm, gTupD, gTupD.go, sPar, dCall, T.vw, T.tk, vws, tks, Pd.resT, T.stay, isSh, isShs, noOb, noObs, noAl, noAls, fz, fzs, owp, ow, D.subs, D.sub, D.put1, D.puts, fAdd, fII, fII0, fMul, fI, fIB, fOrd, fEqG, fIsN, fLen, fInt, fAbs, fSubB, fIsi, tyD, isiB, exOf, retD, T.mv, mask, startD, plAt, plPut, ixD, dIx, ixE, ixS, truD, strOk, cback, ea, sx, sk] at fin ⊢
  exact fin

def S_law_same : Nat → SD
  | 0 => fun _ _ _ => False
  | n + 1 => fun ds R _ => ∃ x y, ds = [x, y] ∧ isSh x = true ∧ isSh y = true ∧ pyOk x = true ∧ pyOk y = true ∧ toPy x = toPy y ∧ dep y ≤ n ∧ lenB y = true ∧ ∀ e, R (.bl true) e
def t_law_same (S : Nat → SD) (n : Nat) : TSD := sSeq (sIf (dTest (dFn (fIsN id) (d2 false (dVar 1) (dC .non)))) (sRet (dFn (fIsN id) (d2 false (dVar 0) (dC .non)))) (sNext)) (sSeq (sIf (dTest (dFn fIsi (dCons false (dVar 1) (dCons false (dC (.raw (.ty "bool"))) (dNil))))) (sRet (dAndV (dFn fIsi (dCons false (dVar 0) (dCons false (dC (.raw (.ty "bool"))) (dNil)))) (dFn fEq (d2 false (dVar 0) (dVar 1))))) (sNext)) (sSeq (sIf (dTest (dFn fIsi (dCons false (dVar 1) (dCons false (dC (.raw (.ty "int"))) (dNil))))) (sRet (dAndV (dFn fIsi (dCons false (dVar 0) (dCons false (dC (.raw (.ty "int"))) (dNil)))) (dAndV (dNotV (dFn fIsi (dCons false (dVar 0) (dCons false (dC (.raw (.ty "bool"))) (dNil))))) (dFn fEq (d2 false (dVar 0) (dVar 1)))))) (sNext)) (sSeq (sIf (dTest (dFn fIsi (dCons false (dVar 1) (dCons false (dC (.raw (.ty "str"))) (dNil))))) (sRet (dAndV (dFn fIsi (dCons false (dVar 0) (dCons false (dC (.raw (.ty "str"))) (dNil)))) (dFn fEq (d2 false (dVar 0) (dVar 1))))) (sNext)) (sSeq (sIf (dTest (dFn fIsi (dCons false (dVar 1) (dCons false (dC (.raw (.ty "dict"))) (dNil))))) (sSeq (sIf (dOr (dNot (dTest (dFn fIsi (dCons false (dVar 0) (dCons false (dC (.raw (.ty "dict"))) (dNil)))))) (dOr (dTest (dFn fNe (d2 false (dFn fLen (dCons false (dVar 0) (dNil))) (dFn fLen (dCons false (dVar 1) (dNil)))))) (dNot (dTest (dFn fAll (dCons false (dLc [2] (dVar 1) (gNm 2) (dYes) (dFn (fInA id) (d2 false (dVar 2) (dVar 0)))) (dNil))))))) (sRet (dC (.bl false))) (sNext)) (sRet (dFn fAll (dCons false (dLc [2] (dVar 1) (gNm 2) (dYes) (dCall (S n) (dCons false (dIx false (dVar 0) (dVar 2)) (dCons false (dIx false (dVar 1) (dVar 2)) (dNil))))) (dNil))))) (sNext)) (sSeq (sIf (dTest (dFn fIsi (dCons false (dVar 1) (dCons false (dC (.raw (.ty "list"))) (dNil))))) (sRet (dAndV (dFn fIsi (dCons false (dVar 0) (dCons false (dC (.raw (.ty "list"))) (dNil)))) (dAndV (dFn fEq (d2 false (dFn fLen (dCons false (dVar 0) (dNil))) (dFn fLen (dCons false (dVar 1) (dNil))))) (dFn fAll (dCons false (dLcR1 [3] (dCons false (dFn fLen (dCons false (dVar 1) (dNil))) (dNil)) (gNm 3) (dYes) (dCall (S n) (dCons false (dIx false (dVar 0) (dVar 3)) (dCons false (dIx false (dVar 1) (dVar 3)) (dNil))))) (dNil)))))) (sNext)) (sRet (dAndV (dFn fIsi (dCons false (dVar 0) (dCons false (dC (.raw (.ty "tuple"))) (dNil)))) (dAndV (dFn fEq (d2 false (dFn fLen (dCons false (dVar 0) (dNil))) (dFn fLen (dCons false (dVar 1) (dNil))))) (dFn fAll (dCons false (dLcR1 [3] (dCons false (dFn fLen (dCons false (dVar 1) (dNil))) (dNil)) (gNm 3) (dYes) (dCall (S n) (dCons false (dIx false (dVar 0) (dVar 3)) (dCons false (dIx false (dVar 1) (dVar 3)) (dNil))))) (dNil)))))))))))
theorem h_law_same (n : Nat) : ∀ ds R RE, S_law_same (n + 1) ds R RE → ds.length = 2 := by
  rintro ds R RE ⟨a, b, rfl, _⟩; rfl
/-- the items, place by place -/
theorem c_law_same {n : Nat} {x y : D} {xs ys : List D} {c : Option D} {Q : List D → EnvD → Prop} (hx : anySeq x = some xs) (hy : anySeq y = some ys) (sx : isSh x = true) (sy : isSh y = true) (px : pyOks xs = true) (py : pyOks ys = true)
    (sxs : isShs xs = true) (sys : isShs ys = true) (e : toPys xs = toPys ys) (hd : deps ys < n) (hl : ys.length < 2 ^ 20) (lb : lenBs ys = true) (ix : ∀ i : Int, ixE x (.int i) = atI xs i) (iy : ∀ i : Int, ixE y (.int i) = atI ys i) (ox : strOk x) (oy : strOk y)
    (q : Q ((List.range ys.length).map fun _ => .bl true) [some x, some y, c, none]) :
    lcD [3] (gNm 3) dYes (dCall (S_law_same n) (dCons false (dIx false (dVar 0) (dVar 3)) (dCons false (dIx false (dVar 1) (dVar 3)) (dNil)))) Q (rangeD 0 ys.length) [] [some x, some y, c, none] := by
  rw [rangeD_eq]
  refine lcD_map rfl (by simp; have := line_big; omega) (fun i hi K hK => ?_) q
  obtain ⟨hlen, hg⟩ := toPys_get e
  have hi' : i < ys.length := List.mem_range.mp hi
  have g1 : xs[i]? = some xs[i] := List.getElem?_eq_getElem (by omega)
  have g2 : ys[i]? = some ys[i] := List.getElem?_eq_getElem hi'
  have s1 := isShs_mem sxs (List.getElem_mem (l := xs) (n := i) (by omega))
  have s2 := isShs_mem sys (List.getElem_mem hi')
  have p1 := pyOks_mem px (List.getElem_mem (l := xs) (n := i) (by omega))
  have p2 := pyOks_mem py (List.getElem_mem hi')
  have a1 : atI xs (i : Int) = some xs[i] := atI_ofNat g1
  have a2 : atI ys (i : Int) = some ys[i] := atI_ofNat g2
  have n1 := isSh_noOb _ s1
  have n2 := isSh_noOb _ s2
  have f1 := fz_id _ s1 p1
  have f2 := fz_id _ s2 p2
  simp [sTryMany, clD, dTk, sRaise, sTryAs, sTry, dAt, flat, fIadd, dVar, dC, dNil, dCons, dFn, d2, d1, dLst, dTup, dLstV, dTupV, dTest, dTru, dNot, dAnd, dOr, dIf, dAndV, dOrV, dNotV, dChain, sNext, sSeq, sBreak, sCont, sDrop, sRet, sRetN, sIf, sAsg, gNm, gTupD, gTupD.go, sPar, dCall, T.vw, T.tk, vws, tks, Pd.resT, T.stay, isSh, isShs, noOb, noObs, noAl, noAls, fz, fzs, owp, D.subs, D.put1, D.puts, fAdd, fII, fII0, fMul, fI, fIB, fOrd, fEqG, fLen, fInt, fAbs, fSubB, fIsi, isiB, exOf, retD, T.mv, mask, startD, plAt, plPut, ixD, dIx, truD, ix, iy, a1, a2, s1, s2, n1, n2, f1, f2, ox, oy] at hK ⊢
  have hdy : dep ys[i] ≤ deps ys := deps_le.mp (Nat.le_refl _) _ (List.getElem_mem hi')
  match n, hd with
  | n + 1, hd => exact ⟨_, _, rfl, s1, s2, p1, p2, hg i _ _ g1 g2, by omega, lenBs_mem lb (List.getElem_mem hi'), fun e => hK _ rfl⟩
theorem allB {α : Type} (l : List α) : (l.map fun _ => true).all id = true := by simp
theorem p_law_same (n : Nat) : ∀ ds R RE, S_law_same (n + 1) ds R RE → t_law_same S_law_same n (endsOf [] 2 R) (startD 4 ds) (exOf [] 2 RE) := by
  rintro ds R RE ⟨x, y, rfl, sx, sy, px, py, e, hd, hl, h⟩
  unfold t_law_same
  have fin : ∀ {xs ys : List D} (l : toPys xs = toPys ys), xs.length = ys.length := fun l => (toPys_get l).1
  cases y with
  | non => cases toPy_non e; simp [sTryMany, clD, dTk, sRaise, sTryAs, sTry, dAt, flat, fIadd, dVar, dC, dNil, dCons, dFn, d2, d1, dLst, dTup, dLstV, dTupV, dTest, dTru, dNot, dAnd, dOr, dIf, dAndV, dOrV, dNotV, dChain, sNext, sSeq, sBreak, sCont, sDrop, sRet, sRetN, sIf, sAsg, gNm, gTupD, gTupD.go, sPar, dCall, T.vw, T.tk, vws, tks, Pd.resT, T.stay, isSh, isShs, noOb, noObs, noAl, noAls, fz, fzs, owp, ow, D.subs, D.sub, D.put1, D.puts, fAdd, fII, fII0, fMul, fI, fIB, fOrd, fEqG, fIsN, fLen, fInt, fAbs, fSubB, fIsi, tyD, isiB, exOf, retD, T.mv, mask, startD, plAt, plPut, ixD, dIx, ixE, ixS, truD, strOk]; exact h _
  | bl b => cases toPy_bl e; simp [sTryMany, clD, dTk, sRaise, sTryAs, sTry, dAt, flat, fIadd, dVar, dC, dNil, dCons, dFn, d2, d1, dLst, dTup, dLstV, dTupV, dTest, dTru, dNot, dAnd, dOr, dIf, dAndV, dOrV, dNotV, dChain, sNext, sSeq, sBreak, sCont, sDrop, sRet, sRetN, sIf, sAsg, gNm, gTupD, gTupD.go, sPar, dCall, T.vw, T.tk, vws, tks, Pd.resT, T.stay, isSh, isShs, noOb, noObs, noAl, noAls, fz, fzs, owp, ow, D.subs, D.sub, D.put1, D.puts, fAdd, fII, fII0, fMul, fI, fIB, fOrd, fEqG, fIsN, fLen, fInt, fAbs, fSubB, fIsi, tyD, isiB, exOf, retD, T.mv, mask, startD, plAt, plPut, ixD, dIx, ixE, ixS, truD, strOk, clsNames]; exact h _
  | int b => cases toPy_int e; simp [sTryMany, clD, dTk, sRaise, sTryAs, sTry, dAt, flat, fIadd, dVar, dC, dNil, dCons, dFn, d2, d1, dLst, dTup, dLstV, dTupV, dTest, dTru, dNot, dAnd, dOr, dIf, dAndV, dOrV, dNotV, dChain, sNext, sSeq, sBreak, sCont, sDrop, sRet, sRetN, sIf, sAsg, gNm, gTupD, gTupD.go, sPar, dCall, T.vw, T.tk, vws, tks, Pd.resT, T.stay, isSh, isShs, noOb, noObs, noAl, noAls, fz, fzs, owp, ow, D.subs, D.sub, D.put1, D.puts, fAdd, fII, fII0, fMul, fI, fIB, fOrd, fEqG, fIsN, fLen, fInt, fAbs, fSubB, fIsi, tyD, isiB, exOf, retD, T.mv, mask, startD, plAt, plPut, ixD, dIx, ixE, ixS, truD, strOk, clsNames]; exact h _
  | str b => cases toPy_str e; simp [sTryMany, clD, dTk, sRaise, sTryAs, sTry, dAt, flat, fIadd, dVar, dC, dNil, dCons, dFn, d2, d1, dLst, dTup, dLstV, dTupV, dTest, dTru, dNot, dAnd, dOr, dIf, dAndV, dOrV, dNotV, dChain, sNext, sSeq, sBreak, sCont, sDrop, sRet, sRetN, sIf, sAsg, gNm, gTupD, gTupD.go, sPar, dCall, T.vw, T.tk, vws, tks, Pd.resT, T.stay, isSh, isShs, noOb, noObs, noAl, noAls, fz, fzs, owp, ow, D.subs, D.sub, D.put1, D.puts, fAdd, fII, fII0, fMul, fI, fIB, fOrd, fEqG, fIsN, fLen, fInt, fAbs, fSubB, fIsi, tyD, isiB, exOf, retD, T.mv, mask, startD, plAt, plPut, ixD, dIx, ixE, ixS, truD, strOk, clsNames]; exact h _
  | raw v => cases py
  | dic o t ks vs => cases py
  | obj C ns vs => cases py
  | lst o ys =>
    obtain ⟨rfl, sys⟩ := isSh_lst sy
    obtain ⟨l1, l2⟩ := lenB_lst hl
    have hb : (ys.length : Int) < 2 ^ 62 ∧ -(2 ^ 62 : Int) ≤ ys.length := by omega
    obtain ⟨xs, hx, ee⟩ := toPy_list e sx
    have el := fin ee
    rcases hx with rfl | rfl
    · obtain ⟨_, sxs⟩ := isSh_lst sx
      have key := fun Q q => c_law_same (Q := Q) (c := none) (x := .lst false xs) (y := .lst false ys) (n := n) rfl rfl sx sy px py sxs sys ee (by have : deps ys + 1 ≤ n := hd; omega) l1 l2 (fun _ => rfl) (fun _ => rfl) trivial trivial q
      simp [sTryMany, clD, dTk, sRaise, sTryAs, sTry, dAt, flat, fIadd, dVar, dC, dNil, dCons, dFn, d2, d1, dLst, dTup, dLstV, dTupV, dTest, dTru, dNot, dAnd, dOr, dIf, dAndV, dOrV, dNotV, dChain, sNext, sSeq, sBreak, sCont, sDrop, sRet, sRetN, sIf, sAsg, gNm, gTupD, gTupD.go, sPar, dCall, T.vw, T.tk, vws, tks, Pd.resT, T.stay, isSh, isShs, noOb, noObs, noAl, noAls, fz, fzs, owp, ow, D.subs, D.sub, D.put1, D.puts, fAdd, fII, fII0, fMul, fI, fIB, fOrd, fEqG, fIsN, fLen, fInt, fAbs, fSubB, fIsi, tyD, isiB, exOf, retD, T.mv, mask, startD, plAt, plPut, ixD, dIx, ixE, ixS, truD, strOk, clsNames, anySeq, sxs, sys, isSh_noOb, isShs_noObs, dLcR1, unw, wipeD, el]
      refine ⟨by omega, key _ ?_⟩
      simp [sTryMany, clD, dTk, sRaise, sTryAs, sTry, dAt, flat, fIadd, dVar, dC, dNil, dCons, dFn, d2, d1, dLst, dTup, dLstV, dTupV, dTest, dTru, dNot, dAnd, dOr, dIf, dAndV, dOrV, dNotV, dChain, sNext, sSeq, sBreak, sCont, sDrop, sRet, sRetN, sIf, sAsg, gNm, gTupD, gTupD.go, sPar, dCall, T.vw, T.tk, vws, tks, Pd.resT, T.stay, isSh, isShs, noOb, noObs, noAl, noAls, fz, fzs, owp, ow, D.subs, D.sub, D.put1, D.puts, fAdd, fII, fII0, fMul, fI, fIB, fOrd, fEqG, fIsN, fLen, fInt, fAbs, fSubB, fIsi, tyD, isiB, exOf, retD, T.mv, mask, startD, plAt, plPut, ixD, dIx, ixE, ixS, truD, strOk]
      exact h _
    · have sxs : isShs xs = true := sx
      have key := fun Q q => c_law_same (Q := Q) (c := none) (x := .frl false xs) (y := .lst false ys) (n := n) rfl rfl sx sy px py sxs sys ee (by have : deps ys + 1 ≤ n := hd; omega) l1 l2 (fun _ => rfl) (fun _ => rfl) trivial trivial q
      simp [sTryMany, clD, dTk, sRaise, sTryAs, sTry, dAt, flat, fIadd, dVar, dC, dNil, dCons, dFn, d2, d1, dLst, dTup, dLstV, dTupV, dTest, dTru, dNot, dAnd, dOr, dIf, dAndV, dOrV, dNotV, dChain, sNext, sSeq, sBreak, sCont, sDrop, sRet, sRetN, sIf, sAsg, gNm, gTupD, gTupD.go, sPar, dCall, T.vw, T.tk, vws, tks, Pd.resT, T.stay, isSh, isShs, noOb, noObs, noAl, noAls, fz, fzs, owp, ow, D.subs, D.sub, D.put1, D.puts, fAdd, fII, fII0, fMul, fI, fIB, fOrd, fEqG, fIsN, fLen, fInt, fAbs, fSubB, fIsi, tyD, isiB, exOf, retD, T.mv, mask, startD, plAt, plPut, ixD, dIx, ixE, ixS, truD, strOk, clsNames, anySeq, sxs, sys, isSh_noOb, isShs_noObs, dLcR1, unw, wipeD, el]
      refine ⟨by omega, key _ ?_⟩
      simp [sTryMany, clD, dTk, sRaise, sTryAs, sTry, dAt, flat, fIadd, dVar, dC, dNil, dCons, dFn, d2, d1, dLst, dTup, dLstV, dTupV, dTest, dTru, dNot, dAnd, dOr, dIf, dAndV, dOrV, dNotV, dChain, sNext, sSeq, sBreak, sCont, sDrop, sRet, sRetN, sIf, sAsg, gNm, gTupD, gTupD.go, sPar, dCall, T.vw, T.tk, vws, tks, Pd.resT, T.stay, isSh, isShs, noOb, noObs, noAl, noAls, fz, fzs, owp, ow, D.subs, D.sub, D.put1, D.puts, fAdd, fII, fII0, fMul, fI, fIB, fOrd, fEqG, fIsN, fLen, fInt, fAbs, fSubB, fIsi, tyD, isiB, exOf, retD, T.mv, mask, startD, plAt, plPut, ixD, dIx, ixE, ixS, truD, strOk]
      exact h _
  | frl t ys =>
    have sys : isShs ys = true := sy
    obtain ⟨l1, l2⟩ := lenB_frl hl
    cases t with
    | false =>
      obtain ⟨xs, hx, ee⟩ := toPy_list e sx
      have el := fin ee
      rcases hx with rfl | rfl
      · obtain ⟨_, sxs⟩ := isSh_lst sx
        have key := fun Q q => c_law_same (Q := Q) (c := none) (x := .lst false xs) (y := .frl false ys) (n := n) rfl rfl sx sy px py sxs sys ee (by have : deps ys + 1 ≤ n := hd; omega) l1 l2 (fun _ => rfl) (fun _ => rfl) trivial trivial q
        simp [sTryMany, clD, dTk, sRaise, sTryAs, sTry, dAt, flat, fIadd, dVar, dC, dNil, dCons, dFn, d2, d1, dLst, dTup, dLstV, dTupV, dTest, dTru, dNot, dAnd, dOr, dIf, dAndV, dOrV, dNotV, dChain, sNext, sSeq, sBreak, sCont, sDrop, sRet, sRetN, sIf, sAsg, gNm, gTupD, gTupD.go, sPar, dCall, T.vw, T.tk, vws, tks, Pd.resT, T.stay, isSh, isShs, noOb, noObs, noAl, noAls, fz, fzs, owp, ow, D.subs, D.sub, D.put1, D.puts, fAdd, fII, fII0, fMul, fI, fIB, fOrd, fEqG, fIsN, fLen, fInt, fAbs, fSubB, fIsi, tyD, isiB, exOf, retD, T.mv, mask, startD, plAt, plPut, ixD, dIx, ixE, ixS, truD, strOk, clsNames, anySeq, sxs, sys, isSh_noOb, isShs_noObs, dLcR1, unw, wipeD, el]
        refine ⟨by omega, key _ ?_⟩
        simp [sTryMany, clD, dTk, sRaise, sTryAs, sTry, dAt, flat, fIadd, dVar, dC, dNil, dCons, dFn, d2, d1, dLst, dTup, dLstV, dTupV, dTest, dTru, dNot, dAnd, dOr, dIf, dAndV, dOrV, dNotV, dChain, sNext, sSeq, sBreak, sCont, sDrop, sRet, sRetN, sIf, sAsg, gNm, gTupD, gTupD.go, sPar, dCall, T.vw, T.tk, vws, tks, Pd.resT, T.stay, isSh, isShs, noOb, noObs, noAl, noAls, fz, fzs, owp, ow, D.subs, D.sub, D.put1, D.puts, fAdd, fII, fII0, fMul, fI, fIB, fOrd, fEqG, fIsN, fLen, fInt, fAbs, fSubB, fIsi, tyD, isiB, exOf, retD, T.mv, mask, startD, plAt, plPut, ixD, dIx, ixE, ixS, truD, strOk]
        exact h _
      · have sxs : isShs xs = true := sx
        have key := fun Q q => c_law_same (Q := Q) (c := none) (x := .frl false xs) (y := .frl false ys) (n := n) rfl rfl sx sy px py sxs sys ee (by have : deps ys + 1 ≤ n := hd; omega) l1 l2 (fun _ => rfl) (fun _ => rfl) trivial trivial q
        simp [sTryMany, clD, dTk, sRaise, sTryAs, sTry, dAt, flat, fIadd, dVar, dC, dNil, dCons, dFn, d2, d1, dLst, dTup, dLstV, dTupV, dTest, dTru, dNot, dAnd, dOr, dIf, dAndV, dOrV, dNotV, dChain, sNext, sSeq, sBreak, sCont, sDrop, sRet, sRetN, sIf, sAsg, gNm, gTupD, gTupD.go, sPar, dCall, T.vw, T.tk, vws, tks, Pd.resT, T.stay, isSh, isShs, noOb, noObs, noAl, noAls, fz, fzs, owp, ow, D.subs, D.sub, D.put1, D.puts, fAdd, fII, fII0, fMul, fI, fIB, fOrd, fEqG, fIsN, fLen, fInt, fAbs, fSubB, fIsi, tyD, isiB, exOf, retD, T.mv, mask, startD, plAt, plPut, ixD, dIx, ixE, ixS, truD, strOk, clsNames, anySeq, sxs, sys, isSh_noOb, isShs_noObs, dLcR1, unw, wipeD, el]
        refine ⟨by omega, key _ ?_⟩
        simp [sTryMany, clD, dTk, sRaise, sTryAs, sTry, dAt, flat, fIadd, dVar, dC, dNil, dCons, dFn, d2, d1, dLst, dTup, dLstV, dTupV, dTest, dTru, dNot, dAnd, dOr, dIf, dAndV, dOrV, dNotV, dChain, sNext, sSeq, sBreak, sCont, sDrop, sRet, sRetN, sIf, sAsg, gNm, gTupD, gTupD.go, sPar, dCall, T.vw, T.tk, vws, tks, Pd.resT, T.stay, isSh, isShs, noOb, noObs, noAl, noAls, fz, fzs, owp, ow, D.subs, D.sub, D.put1, D.puts, fAdd, fII, fII0, fMul, fI, fIB, fOrd, fEqG, fIsN, fLen, fInt, fAbs, fSubB, fIsi, tyD, isiB, exOf, retD, T.mv, mask, startD, plAt, plPut, ixD, dIx, ixE, ixS, truD, strOk]
        exact h _
    | true =>
      obtain ⟨xs, hx, ee⟩ := toPy_tuple e
      have el := fin ee
      rcases hx with rfl | rfl
      · have sxs : isShs xs = true := sx
        have key := fun Q q => c_law_same (Q := Q) (c := none) (x := .tup xs) (y := .frl true ys) (n := n) rfl rfl sx sy px py sxs sys ee (by have : deps ys + 1 ≤ n := hd; omega) l1 l2 (fun _ => rfl) (fun _ => rfl) trivial trivial q
        simp [sTryMany, clD, dTk, sRaise, sTryAs, sTry, dAt, flat, fIadd, dVar, dC, dNil, dCons, dFn, d2, d1, dLst, dTup, dLstV, dTupV, dTest, dTru, dNot, dAnd, dOr, dIf, dAndV, dOrV, dNotV, dChain, sNext, sSeq, sBreak, sCont, sDrop, sRet, sRetN, sIf, sAsg, gNm, gTupD, gTupD.go, sPar, dCall, T.vw, T.tk, vws, tks, Pd.resT, T.stay, isSh, isShs, noOb, noObs, noAl, noAls, fz, fzs, owp, ow, D.subs, D.sub, D.put1, D.puts, fAdd, fII, fII0, fMul, fI, fIB, fOrd, fEqG, fIsN, fLen, fInt, fAbs, fSubB, fIsi, tyD, isiB, exOf, retD, T.mv, mask, startD, plAt, plPut, ixD, dIx, ixE, ixS, truD, strOk, clsNames, anySeq, sxs, sys, isSh_noOb, isShs_noObs, dLcR1, unw, wipeD, el]
        refine ⟨by omega, key _ ?_⟩
        simp [sTryMany, clD, dTk, sRaise, sTryAs, sTry, dAt, flat, fIadd, dVar, dC, dNil, dCons, dFn, d2, d1, dLst, dTup, dLstV, dTupV, dTest, dTru, dNot, dAnd, dOr, dIf, dAndV, dOrV, dNotV, dChain, sNext, sSeq, sBreak, sCont, sDrop, sRet, sRetN, sIf, sAsg, gNm, gTupD, gTupD.go, sPar, dCall, T.vw, T.tk, vws, tks, Pd.resT, T.stay, isSh, isShs, noOb, noObs, noAl, noAls, fz, fzs, owp, ow, D.subs, D.sub, D.put1, D.puts, fAdd, fII, fII0, fMul, fI, fIB, fOrd, fEqG, fIsN, fLen, fInt, fAbs, fSubB, fIsi, tyD, isiB, exOf, retD, T.mv, mask, startD, plAt, plPut, ixD, dIx, ixE, ixS, truD, strOk]
        exact h _
      · have sxs : isShs xs = true := sx
        have key := fun Q q => c_law_same (Q := Q) (c := none) (x := .frl true xs) (y := .frl true ys) (n := n) rfl rfl sx sy px py sxs sys ee (by have : deps ys + 1 ≤ n := hd; omega) l1 l2 (fun _ => rfl) (fun _ => rfl) trivial trivial q
        simp [sTryMany, clD, dTk, sRaise, sTryAs, sTry, dAt, flat, fIadd, dVar, dC, dNil, dCons, dFn, d2, d1, dLst, dTup, dLstV, dTupV, dTest, dTru, dNot, dAnd, dOr, dIf, dAndV, dOrV, dNotV, dChain, sNext, sSeq, sBreak, sCont, sDrop, sRet, sRetN, sIf, sAsg, gNm, gTupD, gTupD.go, sPar, dCall, T.vw, T.tk, vws, tks, Pd.resT, T.stay, isSh, isShs, noOb, noObs, noAl, noAls, fz, fzs, owp, ow, D.subs, D.sub, D.put1, D.puts, fAdd, fII, fII0, fMul, fI, fIB, fOrd, fEqG, fIsN, fLen, fInt, fAbs, fSubB, fIsi, tyD, isiB, exOf, retD, T.mv, mask, startD, plAt, plPut, ixD, dIx, ixE, ixS, truD, strOk, clsNames, anySeq, sxs, sys, isSh_noOb, isShs_noObs, dLcR1, unw, wipeD, el]
        refine ⟨by omega, key _ ?_⟩
        simp [sTryMany, clD, dTk, sRaise, sTryAs, sTry, dAt, flat, fIadd, dVar, dC, dNil, dCons, dFn, d2, d1, dLst, dTup, dLstV, dTupV, dTest, dTru, dNot, dAnd, dOr, dIf, dAndV, dOrV, dNotV, dChain, sNext, sSeq, sBreak, sCont, sDrop, sRet, sRetN, sIf, sAsg, gNm, gTupD, gTupD.go, sPar, dCall, T.vw, T.tk, vws, tks, Pd.resT, T.stay, isSh, isShs, noOb, noObs, noAl, noAls, fz, fzs, owp, ow, D.subs, D.sub, D.put1, D.puts, fAdd, fII, fII0, fMul, fI, fIB, fOrd, fEqG, fIsN, fLen, fInt, fAbs, fSubB, fIsi, tyD, isiB, exOf, retD, T.mv, mask, startD, plAt, plPut, ixD, dIx, ixE, ixS, truD, strOk]
        exact h _
  | tup ys =>
    have sys : isShs ys = true := sy
    obtain ⟨l1, l2⟩ := lenB_tup hl
    obtain ⟨xs, hx, ee⟩ := toPy_tuple e
    have el := fin ee
    rcases hx with rfl | rfl
    · have sxs : isShs xs = true := sx
      have key := fun Q q => c_law_same (Q := Q) (c := none) (x := .tup xs) (y := .tup ys) (n := n) rfl rfl sx sy px py sxs sys ee (by have : deps ys + 1 ≤ n := hd; omega) l1 l2 (fun _ => rfl) (fun _ => rfl) trivial trivial q
      simp [sTryMany, clD, dTk, sRaise, sTryAs, sTry, dAt, flat, fIadd, dVar, dC, dNil, dCons, dFn, d2, d1, dLst, dTup, dLstV, dTupV, dTest, dTru, dNot, dAnd, dOr, dIf, dAndV, dOrV, dNotV, dChain, sNext, sSeq, sBreak, sCont, sDrop, sRet, sRetN, sIf, sAsg, gNm, gTupD, gTupD.go, sPar, dCall, T.vw, T.tk, vws, tks, Pd.resT, T.stay, isSh, isShs, noOb, noObs, noAl, noAls, fz, fzs, owp, ow, D.subs, D.sub, D.put1, D.puts, fAdd, fII, fII0, fMul, fI, fIB, fOrd, fEqG, fIsN, fLen, fInt, fAbs, fSubB, fIsi, tyD, isiB, exOf, retD, T.mv, mask, startD, plAt, plPut, ixD, dIx, ixE, ixS, truD, strOk, clsNames, anySeq, sxs, sys, isSh_noOb, isShs_noObs, dLcR1, unw, wipeD, el]
      refine ⟨by omega, key _ ?_⟩
      simp [sTryMany, clD, dTk, sRaise, sTryAs, sTry, dAt, flat, fIadd, dVar, dC, dNil, dCons, dFn, d2, d1, dLst, dTup, dLstV, dTupV, dTest, dTru, dNot, dAnd, dOr, dIf, dAndV, dOrV, dNotV, dChain, sNext, sSeq, sBreak, sCont, sDrop, sRet, sRetN, sIf, sAsg, gNm, gTupD, gTupD.go, sPar, dCall, T.vw, T.tk, vws, tks, Pd.resT, T.stay, isSh, isShs, noOb, noObs, noAl, noAls, fz, fzs, owp, ow, D.subs, D.sub, D.put1, D.puts, fAdd, fII, fII0, fMul, fI, fIB, fOrd, fEqG, fIsN, fLen, fInt, fAbs, fSubB, fIsi, tyD, isiB, exOf, retD, T.mv, mask, startD, plAt, plPut, ixD, dIx, ixE, ixS, truD, strOk]
      exact h _
    · have sxs : isShs xs = true := sx
      have key := fun Q q => c_law_same (Q := Q) (c := none) (x := .frl true xs) (y := .tup ys) (n := n) rfl rfl sx sy px py sxs sys ee (by have : deps ys + 1 ≤ n := hd; omega) l1 l2 (fun _ => rfl) (fun _ => rfl) trivial trivial q
      simp [sTryMany, clD, dTk, sRaise, sTryAs, sTry, dAt, flat, fIadd, dVar, dC, dNil, dCons, dFn, d2, d1, dLst, dTup, dLstV, dTupV, dTest, dTru, dNot, dAnd, dOr, dIf, dAndV, dOrV, dNotV, dChain, sNext, sSeq, sBreak, sCont, sDrop, sRet, sRetN, sIf, sAsg, gNm, gTupD, gTupD.go, sPar, dCall, T.vw, T.tk, vws, tks, Pd.resT, T.stay, isSh, isShs, noOb, noObs, noAl, noAls, fz, fzs, owp, ow, D.subs, D.sub, D.put1, D.puts, fAdd, fII, fII0, fMul, fI, fIB, fOrd, fEqG, fIsN, fLen, fInt, fAbs, fSubB, fIsi, tyD, isiB, exOf, retD, T.mv, mask, startD, plAt, plPut, ixD, dIx, ixE, ixS, truD, strOk, clsNames, anySeq, sxs, sys, isSh_noOb, isShs_noObs, dLcR1, unw, wipeD, el]
      refine ⟨by omega, key _ ?_⟩
      simp [sTryMany, clD, dTk, sRaise, sTryAs, sTry, dAt, flat, fIadd, dVar, dC, dNil, dCons, dFn, d2, d1, dLst, dTup, dLstV, dTupV, dTest, dTru, dNot, dAnd, dOr, dIf, dAndV, dOrV, dNotV, dChain, sNext, sSeq, sBreak, sCont, sDrop, sRet, sRetN, sIf, sAsg, gNm, gTupD, gTupD.go, sPar, dCall, T.vw, T.tk, vws, tks, Pd.resT, T.stay, isSh, isShs, noOb, noObs, noAl, noAls, fz, fzs, owp, ow, D.subs, D.sub, D.put1, D.puts, fAdd, fII, fII0, fMul, fI, fIB, fOrd, fEqG, fIsN, fLen, fInt, fAbs, fSubB, fIsi, tyD, isiB, exOf, retD, T.mv, mask, startD, plAt, plPut, ixD, dIx, ixE, ixS, truD, strOk]
      exact h _

def S_law_lots : SD := fun ds R _ => ∃ l : List Sp, ds = [.lst false (l.map spD)] ∧ SpOk l ∧ ∀ e, R (.lst true ((lotsR l).map lsF)) e
def t_law_lots_r1 : TSD := sBreak
def t_law_lots_r2 : TSD := sSeq (sAsg (dC (.bl true)) (gNm 2)) (t_law_lots_r1)
def t_law_lots_3 : TSD := sIf (dAnd (dNot (dTest (dVar 2))) (dTest (dFn fAny (dCons false (dLc [7] (dIx false (dVar 1) (dVar 5)) (gNm 7) (dYes) (dFz (dFn fAny (dCons false (dLc [9] (dIx false (dVar 1) (dVar 3)) (gNm 9) (dYes) (dFz (dAndV (dFn fLe (d2 false (dIx false (dVar 9) (dC (.int 1))) (dIx false (dVar 7) (dC (.int 2))))) (dFn fLe (d2 false (dIx false (dVar 7) (dC (.int 1))) (dIx false (dVar 9) (dC (.int 2)))))))) (dNil))))) (dNil))))) (sSeq (sAsg (dFn fAdd (d2 false (dLcR1 [8] (dCons false (dFn fLen (dCons false (dVar 1) (dNil))) (dNil)) (gNm 8) (dTest (dFn (fInA (!·)) (d2 false (dVar 8) (dLstV (dCons false (dVar 3) (dCons false (dVar 5) (dNil))))))) (dFz (dIx false (dVar 1) (dVar 8)))) (dLst (dCons false (dFn fAdd (d2 false (dIx false (dVar 1) (dVar 3)) (dIx false (dVar 1) (dVar 5)))) (dNil))))) (gNm 1)) (t_law_lots_r2)) (sNext)
def t_law_lots_r4 : TSD := sIf (dTest (dVar 2)) (sBreak) (sNext)
def t_law_lots_5 : TSD := sSeq (sForR1 (dCons false (dVar 3) (dNil)) (gNm 5) (t_law_lots_3)) (t_law_lots_r4)
def t_law_lots_r6 : TSD := sForR1 (dCons false (dFn fLen (dCons false (dVar 1) (dNil))) (dNil)) (gNm 3) (t_law_lots_5)
def t_law_lots_7 : TSD := sSeq (sAsg (dC (.bl false)) (gNm 2)) (t_law_lots_r6)
def t_law_lots_r8 : TSD := sRet (dFn fSorted (dCons false (dLc [6] (dTk (dVar 1)) (gNm 6) (dTest (dFn fGt (d2 false (dFn fLen (dCons false (dVar 6) (dNil))) (dC (.int 1))))) (dFz (dFn fSorted (dCons false (dLc [4] (dTk (dVar 6)) (gNm 4) (dYes) (dFz (dIx false (dVar 4) (dC (.int 0))))) (dNil))))) (dNil)))
def t_law_lots_r9 : TSD := sSeq (sWhile (dTest (dVar 2)) (t_law_lots_7)) (t_law_lots_r8)
def t_law_lots_r10 : TSD := sSeq (sAsg (dC (.bl true)) (gNm 2)) (t_law_lots_r9)
def t_law_lots : TSD := sSeq (sAsg (dLc [4] (dVar 0) (gNm 4) (dYes) (dFz (dLst (dCons false (dVar 4) (dNil))))) (gNm 1)) (t_law_lots_r10)
theorem h_law_lots : ∀ ds R RE, S_law_lots ds R RE → ds.length = 1 := by
  rintro ds R RE ⟨_, rfl, _⟩; rfl
def spF (p : List Sp) : D := .lst false (p.map spD)
@[simp] theorem spF_sh (p : List Sp) : isSh (spF p) = true := by simp [spF, isSh, sps_sh]
@[simp] theorem spF_ob (p : List Sp) : noOb (spF p) = true := by simp [spF, noOb]
@[simp] theorem spF_fz (p : List Sp) : fz (spF p) = spF p := by simp [spF, fz]
theorem spFs_sh (L : List (List Sp)) : isShs (L.map spF) = true := isShs_map (f := spF) spF_sh L
theorem spFs_ob (L : List (List Sp)) : noObs (L.map spF) = true := noObs_map (f := spF) spF_ob L
theorem spFs_fz (L : List (List Sp)) : fzs (L.map spF) = L.map spF := fzs_mapG (f := spF) spF_fz L
def gL (L : List (List Sp)) (k : Nat) : List Sp := L.getD k []
theorem gL_at {L : List (List Sp)} {k : Nat} (h : k < L.length) : L[k]? = some (gL L k) := by
  unfold gL
  rw [List.getD_eq_getElem?_getD, List.getElem?_eq_getElem h]; rfl
theorem spFs_at {L : List (List Sp)} {k : Nat} (h : k < L.length) : atI (L.map spF) (k : Int) = some (spF (gL L k)) := atI_ofNat (by rw [List.getElem?_map, gL_at h]; rfl)
/-- two lots meet -/
def adjB (a b : Sp) : Bool := decide (fst a ≤ lst b) && decide (fst b ≤ lst a)
theorem adjB_iff {a b : Sp} : adjB a b = true ↔ adj a b := by
  unfold adjB adj
  rw [Bool.and_eq_true, decide_eq_true_iff, decide_eq_true_iff]
def meet (p q : List Sp) : Bool := q.any fun o => p.any fun n => adjB n o
theorem meet_iff {p q : List Sp} : meet p q = true ↔ ∃ a ∈ p, ∃ b ∈ q, adj a b := by
  unfold meet
  rw [List.any_eq_true]
  constructor
  · rintro ⟨o, ho, h⟩
    obtain ⟨n, hn, h⟩ := List.any_eq_true.mp h
    exact ⟨n, hn, o, ho, adjB_iff.mp h⟩
  · rintro ⟨n, hn, o, ho, h⟩
    exact ⟨o, ho, List.any_eq_true.mpr ⟨n, hn, adjB_iff.mpr h⟩⟩
/-- what is left when two are joined -/
def joinL (L : List (List Sp)) (i j : Nat) : List (List Sp) := (((List.range L.length).filter fun k => decide (k ≠ i ∧ k ≠ j)).map (gL L)) ++ [gL L i ++ gL L j]
structure Lots (L : List (List Sp)) (l : List Sp) : Prop where
  all : L.flatten.Perm l
  con : ∀ p ∈ L, p ≠ [] ∧ Conn p
theorem range_gL (L : List (List Sp)) : (List.range L.length).map (gL L) = L := by
  apply List.ext_getElem?
  intro k
  rw [List.getElem?_map]
  by_cases h : k < L.length
  · rw [List.getElem?_range h, gL_at h]; rfl
  · rw [List.getElem?_eq_none (by simpa using h), List.getElem?_eq_none (by omega)]; rfl
theorem range_two {n i j : Nat} (hij : j < i) (hi : i < n) : (((List.range n).filter fun k => decide (k ≠ i ∧ k ≠ j)) ++ [i, j]).Perm (List.range n) := by
  refine (List.perm_ext_iff_of_nodup ?_ List.nodup_range).mpr fun k => ?_
  · rw [List.nodup_append]
    refine ⟨List.Pairwise.sublist List.filter_sublist List.nodup_range, by simp; omega, fun a ha b hb e => ?_⟩
    have := of_decide_eq_true (List.mem_filter.mp ha).2
    simp at hb
    omega
  · simp [List.mem_append, List.mem_filter]
    omega
theorem joinL_len {L : List (List Sp)} {i j : Nat} (hij : j < i) (hi : i < L.length) : ((List.range L.length).filter fun k => decide (k ≠ i ∧ k ≠ j)).length + 2 = L.length := by
  have := (range_two hij hi).length_eq
  rw [List.length_append, List.length_range] at this
  simpa using this
theorem join_ok {L : List (List Sp)} {l : List Sp} (h : Lots L l) {i j : Nat} (hij : j < i) (hi : i < L.length) (hm : meet (gL L i) (gL L j) = true) : Lots (joinL L i j) l ∧ (joinL L i j).length + 1 = L.length := by
  have mem : ∀ k, k < L.length → gL L k ∈ L := fun k hk => List.mem_of_getElem? (gL_at hk)
  have rp := range_two hij hi
  refine ⟨⟨?_, fun p hp => ?_⟩, ?_⟩
  · have e1 : (joinL L i j).flatten = ((((List.range L.length).filter fun k => decide (k ≠ i ∧ k ≠ j)) ++ [i, j]).map (gL L)).flatten := by
      unfold joinL
      simp
    rw [e1]
    have := (rp.map (gL L)).flatten
    rw [range_gL] at this
    exact this.trans h.all
  · unfold joinL at hp
    rcases List.mem_append.mp hp with hp | hp
    · obtain ⟨k, hk, rfl⟩ := List.mem_map.mp hp
      exact h.con _ (mem k (List.mem_range.mp (List.mem_filter.mp hk).1))
    · rw [List.mem_singleton.mp hp]
      obtain ⟨n1, c1⟩ := h.con _ (mem i hi)
      obtain ⟨n2, c2⟩ := h.con _ (mem j (by omega))
      exact ⟨by simp [n1], c1.join c2 (meet_iff.mp hm)⟩
  · have := rp.length_eq
    rw [List.length_append, List.length_range] at this
    unfold joinL
    rw [List.length_append, List.length_map]
    simp at this ⊢
    omega
theorem far_ok {L : List (List Sp)} {l : List Sp} (h : Lots L l) (hf : ∀ i j, i < L.length → j < i → meet (gL L i) (gL L j) = false) : Part L l := by
  refine ⟨h.all, h.con, ?_⟩
  refine List.pairwise_iff_getElem.mpr fun a b ha hb hab x hx y hy z => ?_
  have e : ∀ k (hk : k < L.length), L[k] = gL L k := fun k hk => by
    have := gL_at hk
    rw [List.getElem?_eq_getElem hk] at this
    exact Option.some.inj this
  rw [e a ha] at hx
  rw [e b hb] at hy
  have := hf b a hb hab
  rw [Bool.eq_false_iff] at this
  exact this (meet_iff.mpr ⟨y, hy, x, hx, adj_symm z⟩)
theorem bls_map {α : Type} (p : α → Bool) : ∀ l : List α, blsD (l.map fun a => D.bl (p a)) = some (l.map p)
  | [] => rfl
  | a :: l => by rw [List.map_cons, blsD, bls_map p l]; rfl
theorem fAny_map {α : Type} {p : α → Bool} {o : Bool} {l : List α} {Q : D → Prop} : fAny [.lst o (l.map fun a => D.bl (p a))] Q ↔ Q (.bl (l.any p)) := by
  show (match blsD (l.map fun a => D.bl (p a)) with | some ns => Q (.bl (ns.any id)) | none => False) ↔ _
  rw [bls_map]
  show Q (.bl ((l.map p).any id)) ↔ _
  rw [List.any_map]; rfl
theorem bl_ob {α : Type} (p : α → Bool) (l : List α) : noObs (l.map fun a => D.bl (p a)) = true := noObs_map (f := fun a => D.bl (p a)) (fun _ => rfl) l
theorem bl_fz {α : Type} (p : α → Bool) (l : List α) : fzs (l.map fun a => D.bl (p a)) = l.map fun a => D.bl (p a) := fzs_mapG (f := fun a => D.bl (p a)) (fun _ => rfl) l
section
variable {De : EndsD} {W : WD} {l : List Sp} {c0 c6 c8 : Option D}
/-- one pair of lots -/
theorem ll_pair {L : List (List Sp)} {i j : Nat} {o : Bool} (hL : L.length < 2 ^ 10) (hl : ∀ p ∈ L, p.length < 2 ^ 10) (hi : i < L.length) (hj : j < i)
    (h1 : meet (gL L i) (gL L j) = false → De.nx [c0, some (.lst o (L.map spF)), some (.bl false), some (.int i), none, some (.int j), none, none, none, none])
    (h2 : meet (gL L i) (gL L j) = true → De.bk [c0, some (.lst true ((joinL L i j).map spF)), some (.bl true), some (.int i), none, some (.int j), none, none, none, none]) :
    t_law_lots_3 De [c0, some (.lst o (L.map spF)), some (.bl false), some (.int i), none, some (.int j), none, none, none, none] W := by
  have lb := line_big
  have l1 : 1 ≤ sizeLine := by omega
  have ixl : ∀ (o : Bool) (l : List D) (i : Int), ixE (.lst o l) (.int i) = atI l i := fun _ _ _ => rfl
  have sol : ∀ (o : Bool) (l : List D), strOk (.lst o l) := fun _ _ => trivial
  have x1 : ∀ s, ixE (spD s) (.int 1) = some (.int (fst s)) := fun _ => rfl
  have x2 : ∀ s, ixE (spD s) (.int 2) = some (.int (lst s)) := fun _ => rfl
  have so : ∀ s, strOk (spD s) := fun _ => trivial
  have a1 := spFs_at hi
  have a2 := spFs_at (show j < L.length by omega)
  have q1 := spFs_sh L
  have q2 := spFs_ob L
  have q3 := spFs_fz L
  have mem : ∀ k, k < L.length → gL L k ∈ L := fun k hk => List.mem_of_getElem? (gL_at hk)
  have li := hl _ (mem i hi)
  have lj := hl _ (mem j (by omega))
  have xi : spF (gL L i) = .lst false ((gL L i).map spD) := rfl
  have xj : spF (gL L j) = .lst false ((gL L j).map spD) := rfl
  unfold t_law_lots_3
  cases o
  all_goals
    simp [sTryMany, clD, dTk, sRaise, sTryAs, sTry, dAt, flat, fIadd, dVar, dC, dNil, dCons, dFn, d2, d1, dLst, dTup, dLstV, dTupV, dTest, dTru, dNot, dAnd, dOr, dIf, dAndV, dOrV, dNotV, dChain, sNext, sSeq, sBreak, sCont, sDrop, sRet, sRetN, sIf, sAsg, gNm, gTupD, gTupD.go, sPar, dCall, T.vw, T.tk, vws, tks, Pd.resT, T.stay, isSh, isShs, noOb, noObs, noAl, noAls, fz, fzs, owp, D.subs, D.put1, D.puts, fAdd, fII, fII0, fMul, fI, fIB, fOrd, fEqG, fLen, fInt, fAbs, fSubB, fIsi, isiB, exOf, retD, T.mv, mask, startD, plAt, plPut, ixD, dIx, truD, ixl, sol, a1, a2, q1, q2, q3, xi, xj, dLc, itemsD, wipeD, unw]
    refine lcD_map (h := spD) (f := fun o => .bl ((gL L i).any fun n => adjB n o)) rfl (by omega) (fun o ho K hK => ?_) ?_
    · simp [sTryMany, clD, dTk, sRaise, sTryAs, sTry, dAt, flat, fIadd, dVar, dC, dNil, dCons, dFn, d2, d1, dLst, dTup, dLstV, dTupV, dTest, dTru, dNot, dAnd, dOr, dIf, dAndV, dOrV, dNotV, dChain, sNext, sSeq, sBreak, sCont, sDrop, sRet, sRetN, sIf, sAsg, gNm, gTupD, gTupD.go, sPar, dCall, T.vw, T.tk, vws, tks, Pd.resT, T.stay, isSh, isShs, noOb, noObs, noAl, noAls, fz, fzs, owp, D.subs, D.put1, D.puts, fAdd, fII, fII0, fMul, fI, fIB, fOrd, fEqG, fLen, fInt, fAbs, fSubB, fIsi, isiB, exOf, retD, T.mv, mask, startD, plAt, plPut, ixD, dIx, truD, dFz, ixl, sol, a1, a2, q1, q2, q3, xi, xj, dLc, itemsD, wipeD, unw]
      refine lcD_map (h := spD) (f := fun n => .bl (adjB n o)) rfl (by omega) (fun n hn K2 hK2 => ?_) ?_
      · have ea : adjB n o = (decide (fst n ≤ lst o) && decide (fst o ≤ lst n)) := rfl
        rw [ea] at hK2
        by_cases c1 : fst n ≤ lst o
        · simp [sTryMany, clD, dTk, sRaise, sTryAs, sTry, dAt, flat, fIadd, dVar, dC, dNil, dCons, dFn, d2, d1, dLst, dTup, dLstV, dTupV, dTest, dTru, dNot, dAnd, dOr, dIf, dAndV, dOrV, dNotV, dChain, sNext, sSeq, sBreak, sCont, sDrop, sRet, sRetN, sIf, sAsg, gNm, gTupD, gTupD.go, sPar, dCall, T.vw, T.tk, vws, tks, Pd.resT, T.stay, isSh, isShs, noOb, noObs, noAl, noAls, fz, fzs, owp, D.subs, D.put1, D.puts, fAdd, fII, fII0, fMul, fI, fIB, fOrd, fEqG, fLen, fInt, fAbs, fSubB, fIsi, isiB, exOf, retD, T.mv, mask, startD, plAt, plPut, ixD, dIx, truD, dFz, so, x1, x2, c1]
          exact hK2 _ (by simp [sTryMany, clD, dTk, sRaise, sTryAs, sTry, dAt, flat, fIadd, dVar, dC, dNil, dCons, dFn, d2, d1, dLst, dTup, dLstV, dTupV, dTest, dTru, dNot, dAnd, dOr, dIf, dAndV, dOrV, dNotV, dChain, sNext, sSeq, sBreak, sCont, sDrop, sRet, sRetN, sIf, sAsg, gNm, gTupD, gTupD.go, sPar, dCall, T.vw, T.tk, vws, tks, Pd.resT, T.stay, isSh, isShs, noOb, noObs, noAl, noAls, fz, fzs, owp, D.subs, D.put1, D.puts, fAdd, fII, fII0, fMul, fI, fIB, fOrd, fEqG, fLen, fInt, fAbs, fSubB, fIsi, isiB, exOf, retD, T.mv, mask, startD, plAt, plPut, ixD, dIx, truD, c1])
        · simp [sTryMany, clD, dTk, sRaise, sTryAs, sTry, dAt, flat, fIadd, dVar, dC, dNil, dCons, dFn, d2, d1, dLst, dTup, dLstV, dTupV, dTest, dTru, dNot, dAnd, dOr, dIf, dAndV, dOrV, dNotV, dChain, sNext, sSeq, sBreak, sCont, sDrop, sRet, sRetN, sIf, sAsg, gNm, gTupD, gTupD.go, sPar, dCall, T.vw, T.tk, vws, tks, Pd.resT, T.stay, isSh, isShs, noOb, noObs, noAl, noAls, fz, fzs, owp, D.subs, D.put1, D.puts, fAdd, fII, fII0, fMul, fI, fIB, fOrd, fEqG, fLen, fInt, fAbs, fSubB, fIsi, isiB, exOf, retD, T.mv, mask, startD, plAt, plPut, ixD, dIx, truD, dFz, so, x1, x2, c1]
          exact hK2 _ (by simp [sTryMany, clD, dTk, sRaise, sTryAs, sTry, dAt, flat, fIadd, dVar, dC, dNil, dCons, dFn, d2, d1, dLst, dTup, dLstV, dTupV, dTest, dTru, dNot, dAnd, dOr, dIf, dAndV, dOrV, dNotV, dChain, sNext, sSeq, sBreak, sCont, sDrop, sRet, sRetN, sIf, sAsg, gNm, gTupD, gTupD.go, sPar, dCall, T.vw, T.tk, vws, tks, Pd.resT, T.stay, isSh, isShs, noOb, noObs, noAl, noAls, fz, fzs, owp, D.subs, D.put1, D.puts, fAdd, fII, fII0, fMul, fI, fIB, fOrd, fEqG, fLen, fInt, fAbs, fSubB, fIsi, isiB, exOf, retD, T.mv, mask, startD, plAt, plPut, ixD, dIx, truD, c1])
      · have b1 := bl_ob (fun n => adjB n o) (gL L i)
        have b2 := bl_fz (fun n => adjB n o) (gL L i)
        simp [sTryMany, clD, dTk, sRaise, sTryAs, sTry, dAt, flat, fIadd, dVar, dC, dNil, dCons, dFn, d2, d1, dLst, dTup, dLstV, dTupV, dTest, dTru, dNot, dAnd, dOr, dIf, dAndV, dOrV, dNotV, dChain, sNext, sSeq, sBreak, sCont, sDrop, sRet, sRetN, sIf, sAsg, gNm, gTupD, gTupD.go, sPar, dCall, T.vw, T.tk, vws, tks, Pd.resT, T.stay, isSh, isShs, noOb, noObs, noAl, noAls, fz, fzs, owp, D.subs, D.put1, D.puts, fAdd, fII, fII0, fMul, fI, fIB, fOrd, fEqG, fLen, fInt, fAbs, fSubB, fIsi, isiB, exOf, retD, T.mv, mask, startD, plAt, plPut, ixD, dIx, truD, dFz, b1, b2, fAny_map, wipeD, unw]
        exact hK _ rfl
    · have b1 := bl_ob (fun o => (gL L i).any fun n => adjB n o) (gL L j)
      have b2 := bl_fz (fun o => (gL L i).any fun n => adjB n o) (gL L j)
      have em : ((gL L j).any fun o => (gL L i).any fun n => adjB n o) = meet (gL L i) (gL L j) := rfl
      dsimp only [List.set, List.getElem?_cons_succ, List.getElem?_cons_zero]
      simp [sTryMany, clD, dTk, sRaise, sTryAs, sTry, dAt, flat, fIadd, dVar, dC, dNil, dCons, dFn, d2, d1, dLst, dTup, dLstV, dTupV, dTest, dTru, dNot, dAnd, dOr, dIf, dAndV, dOrV, dNotV, dChain, sNext, sSeq, sBreak, sCont, sDrop, sRet, sRetN, sIf, sAsg, gNm, gTupD, gTupD.go, sPar, dCall, T.vw, T.tk, vws, tks, Pd.resT, T.stay, isSh, isShs, noOb, noObs, noAl, noAls, fz, fzs, owp, D.subs, D.put1, D.puts, fAdd, fII, fII0, fMul, fI, fIB, fOrd, fEqG, fLen, fInt, fAbs, fSubB, fIsi, isiB, exOf, retD, T.mv, mask, startD, plAt, plPut, ixD, dIx, truD, b1, b2, fAny_map, em, wipeD, unw]
      cases hm : meet (gL L i) (gL L j) with
      | false =>
        simp [sTryMany, clD, dTk, sRaise, sTryAs, sTry, dAt, flat, fIadd, dVar, dC, dNil, dCons, dFn, d2, d1, dLst, dTup, dLstV, dTupV, dTest, dTru, dNot, dAnd, dOr, dIf, dAndV, dOrV, dNotV, dChain, sNext, sSeq, sBreak, sCont, sDrop, sRet, sRetN, sIf, sAsg, gNm, gTupD, gTupD.go, sPar, dCall, T.vw, T.tk, vws, tks, Pd.resT, T.stay, isSh, isShs, noOb, noObs, noAl, noAls, fz, fzs, owp, D.subs, D.put1, D.puts, fAdd, fII, fII0, fMul, fI, fIB, fOrd, fEqG, fLen, fInt, fAbs, fSubB, fIsi, isiB, exOf, retD, T.mv, mask, startD, plAt, plPut, ixD, dIx, truD]
        exact h1 hm
      | true =>
        have sl := joinL_len hj hi
        have in2 : ∀ (o : Bool) (k : Nat) Q, fInA (fun x => !x) [.int (k : Int), .lst o [.int (i : Int), .int (j : Int)]] Q ↔ Q (.bl (decide (k ≠ i ∧ k ≠ j))) := fun o k Q => by
          have := in_nums (g := fun x => !x) (i := (k : Int)) (l := [(i : Int), (j : Int)]) (o := o) (Q := Q)
          have e : (!decide ((k : Int) ∈ [(i : Int), (j : Int)])) = decide (k ≠ i ∧ k ≠ j) := by
            rw [Bool.eq_iff_iff]; simp; omega
          rw [e] at this
          exact this
        have l2 : 2 ≤ sizeLine := by omega
        simp [sTryMany, clD, dTk, sRaise, sTryAs, sTry, dAt, flat, fIadd, dVar, dC, dNil, dCons, dFn, d2, d1, dLst, dTup, dLstV, dTupV, dTest, dTru, dNot, dAnd, dOr, dIf, dAndV, dOrV, dNotV, dChain, sNext, sSeq, sBreak, sCont, sDrop, sRet, sRetN, sIf, sAsg, gNm, gTupD, gTupD.go, sPar, dCall, T.vw, T.tk, vws, tks, Pd.resT, T.stay, isSh, isShs, noOb, noObs, noAl, noAls, fz, fzs, owp, D.subs, D.put1, D.puts, fAdd, fII, fII0, fMul, fI, fIB, fOrd, fEqG, fLen, fInt, fAbs, fSubB, fIsi, isiB, exOf, retD, T.mv, mask, startD, plAt, plPut, ixD, dIx, truD, dLcR1, q1, q2, q3, anySeq]
        refine ⟨by omega, ?_⟩
        rw [rangeD_eq]
        dsimp only [wipeD, List.set]
        refine lcD_fm (p := fun k => decide (k ≠ i ∧ k ≠ j)) (f := fun k => spF (gL L k)) rfl (by simp; omega) (fun k hk K hK => ?_) (fun k hk hs K hK => ?_) ?_
        · simp [sTryMany, clD, dTk, sRaise, sTryAs, sTry, dAt, flat, fIadd, dVar, dC, dNil, dCons, dFn, d2, d1, dLst, dTup, dLstV, dTupV, dTest, dTru, dNot, dAnd, dOr, dIf, dAndV, dOrV, dNotV, dChain, sNext, sSeq, sBreak, sCont, sDrop, sRet, sRetN, sIf, sAsg, gNm, gTupD, gTupD.go, sPar, dCall, T.vw, T.tk, vws, tks, Pd.resT, T.stay, isSh, isShs, noOb, noObs, noAl, noAls, fz, fzs, owp, D.subs, D.put1, D.puts, fAdd, fII, fII0, fMul, fI, fIB, fOrd, fEqG, fLen, fInt, fAbs, fSubB, fIsi, isiB, exOf, retD, T.mv, mask, startD, plAt, plPut, ixD, dIx, truD, l2, in2]
          simpa using hK
        · have a3 := spFs_at (List.mem_range.mp hk)
          simp [sTryMany, clD, dTk, sRaise, sTryAs, sTry, dAt, flat, fIadd, dVar, dC, dNil, dCons, dFn, d2, d1, dLst, dTup, dLstV, dTupV, dTest, dTru, dNot, dAnd, dOr, dIf, dAndV, dOrV, dNotV, dChain, sNext, sSeq, sBreak, sCont, sDrop, sRet, sRetN, sIf, sAsg, gNm, gTupD, gTupD.go, sPar, dCall, T.vw, T.tk, vws, tks, Pd.resT, T.stay, isSh, isShs, noOb, noObs, noAl, noAls, fz, fzs, owp, D.subs, D.put1, D.puts, fAdd, fII, fII0, fMul, fI, fIB, fOrd, fEqG, fLen, fInt, fAbs, fSubB, fIsi, isiB, exOf, retD, T.mv, mask, startD, plAt, plPut, ixD, dIx, truD, dFz, ixl, sol, q1, q2, q3, a3]
          exact hK _ rfl
        · have eJ : (joinL L i j).map spF = ((List.range L.length).filter fun k => decide (k ≠ i ∧ k ≠ j)).map (fun k => spF (gL L k)) ++ [spF (gL L i ++ gL L j)] := by
            unfold joinL
            rw [List.map_append, List.map_map]; rfl
          have h2 := h2 hm
          rw [eJ] at h2
          have xx : spF (gL L i ++ gL L j) = .lst false ((gL L i).map spD ++ (gL L j).map spD) := by unfold spF; rw [List.map_append]
          rw [xx] at h2
          have f1 := sps_fz (gL L i)
          have f2 := sps_fz (gL L j)
          have f3 := sps_sh (gL L i)
          have f4 := sps_sh (gL L j)
          have f5 := sps_ob (gL L i)
          have f6 := sps_ob (gL L j)
          have r1 := isShs_map (f := fun k => spF (gL L k)) (fun k => spF_sh _) ((List.range L.length).filter fun k => decide (k ≠ i ∧ k ≠ j))
          have r2 := noObs_map (f := fun k => spF (gL L k)) (fun k => spF_ob _) ((List.range L.length).filter fun k => decide (k ≠ i ∧ k ≠ j))
          have r3 := fzs_mapG (f := fun k => spF (gL L k)) (fun k => spF_fz _) ((List.range L.length).filter fun k => decide (k ≠ i ∧ k ≠ j))
          have lz : ((gL L i).map spD).length + ((gL L j).map spD).length ≤ sizeLine := by rw [List.length_map, List.length_map]; omega
          have rz : (((List.range L.length).filter fun k => decide (k ≠ i ∧ k ≠ j)).map (fun k => spF (gL L k))).length + 1 ≤ sizeLine := by rw [List.length_map]; omega
          rw [List.nil_append]
          generalize ((List.range L.length).filter fun k => decide (k ≠ i ∧ k ≠ j)).map (fun k => spF (gL L k)) = RR at *
          generalize (gL L i).map spD = GI at *
          generalize (gL L j).map spD = GJ at *
          simp [sTryMany, clD, dTk, sRaise, sTryAs, sTry, dAt, flat, fIadd, dVar, dC, dNil, dCons, dFn, d2, d1, dLst, dTup, dLstV, dTupV, dTest, dTru, dNot, dAnd, dOr, dIf, dAndV, dOrV, dNotV, dChain, sNext, sSeq, sBreak, sCont, sDrop, sRet, sRetN, sIf, sAsg, gNm, gTupD, gTupD.go, sPar, dCall, T.vw, T.tk, vws, tks, Pd.resT, T.stay, isSh, isShs, noOb, noObs, noAl, noAls, fz, fzs, owp, D.subs, D.put1, D.puts, fAdd, fII, fII0, fMul, fI, fIB, fOrd, fEqG, fLen, fInt, fAbs, fSubB, fIsi, isiB, exOf, retD, T.mv, mask, startD, plAt, plPut, ixD, dIx, truD, unw, ixl, sol, a1, a2, xi, xj, q1, q2, q3, f1, f2, f3, f4, f5, f6, r1, r2, r3, lz, rz, l1]
          unfold t_law_lots_r2
          simp [sTryMany, clD, dTk, sRaise, sTryAs, sTry, dAt, flat, fIadd, dVar, dC, dNil, dCons, dFn, d2, d1, dLst, dTup, dLstV, dTupV, dTest, dTru, dNot, dAnd, dOr, dIf, dAndV, dOrV, dNotV, dChain, sNext, sSeq, sBreak, sCont, sDrop, sRet, sRetN, sIf, sAsg, gNm, gTupD, gTupD.go, sPar, dCall, T.vw, T.tk, vws, tks, Pd.resT, T.stay, isSh, isShs, noOb, noObs, noAl, noAls, fz, fzs, owp, D.subs, D.put1, D.puts, fAdd, fII, fII0, fMul, fI, fIB, fOrd, fEqG, fLen, fInt, fAbs, fSubB, fIsi, isiB, exOf, retD, T.mv, mask, startD, plAt, plPut, ixD, dIx, truD]
          unfold t_law_lots_r1
          simp [sTryMany, clD, dTk, sRaise, sTryAs, sTry, dAt, flat, fIadd, dVar, dC, dNil, dCons, dFn, d2, d1, dLst, dTup, dLstV, dTupV, dTest, dTru, dNot, dAnd, dOr, dIf, dAndV, dOrV, dNotV, dChain, sNext, sSeq, sBreak, sCont, sDrop, sRet, sRetN, sIf, sAsg, gNm, gTupD, gTupD.go, sPar, dCall, T.vw, T.tk, vws, tks, Pd.resT, T.stay, isSh, isShs, noOb, noObs, noAl, noAls, fz, fzs, owp, D.subs, D.put1, D.puts, fAdd, fII, fII0, fMul, fI, fIB, fOrd, fEqG, fLen, fInt, fAbs, fSubB, fIsi, isiB, exOf, retD, T.mv, mask, startD, plAt, plPut, ixD, dIx, truD]
          exact h2
end
section
variable {De : EndsD} {W : WD} {l : List Sp} {c0 : Option D}
/-- one row of pairs: nobody meets the i'th, or the last of those that do is joined -/
theorem ll_row {L : List (List Sp)} {i : Nat} {c5 : Option D} {o : Bool} (hL : L.length < 2 ^ 10) (hl : ∀ p ∈ L, p.length < 2 ^ 10) (hi : i < L.length)
    (h1 : (∀ j, j < i → meet (gL L i) (gL L j) = false) → ∀ c5, De.nx [c0, some (.lst o (L.map spF)), some (.bl false), some (.int i), none, c5, none, none, none, none])
    (h2 : ∀ j, j < i → meet (gL L i) (gL L j) = true → ∀ c5, De.bk [c0, some (.lst true ((joinL L i j).map spF)), some (.bl true), some (.int i), none, c5, none, none, none, none]) :
    t_law_lots_5 De [c0, some (.lst o (L.map spF)), some (.bl false), some (.int i), none, c5, none, none, none, none] W := by
  unfold t_law_lots_5
  simp [sTryMany, clD, dTk, sRaise, sTryAs, sTry, dAt, flat, fIadd, dVar, dC, dNil, dCons, dFn, d2, d1, dLst, dTup, dLstV, dTupV, dTest, dTru, dNot, dAnd, dOr, dIf, dAndV, dOrV, dNotV, dChain, sNext, sSeq, sBreak, sCont, sDrop, sRet, sRetN, sIf, sAsg, gNm, gTupD, gTupD.go, sPar, dCall, T.vw, T.tk, vws, tks, Pd.resT, T.stay, isSh, isShs, noOb, noObs, noAl, noAls, fz, fzs, owp, ow, D.subs, D.sub, D.put1, D.puts, fAdd, fII, fII0, fMul, fI, fIB, fOrd, fEqG, fIsN, fLen, fInt, fAbs, fSubB, fIsi, tyD, isiB, exOf, retD, T.mv, mask, startD, plAt, plPut, ixD, dIx, ixE, ixS, truD, strOk, sForR1]
  refine ⟨by omega, ?_⟩
  rw [rangeD_eq]
  cases hf : (List.range i).find? (fun j => meet (gL L i) (gL L j)) with
  | none =>
    have no : ∀ j, j < i → meet (gL L i) (gL L j) = false := fun j hj => by
      have := List.find?_eq_none.mp hf j (List.mem_range.mpr hj)
      simpa using this
    refine forD_inv (fun j e => ∃ c5, e = [c0, some (.lst o (L.map spF)), some (.bl false), some (.int i), none, c5, none, none, none, none]) (k := 0) ⟨c5, rfl⟩ ?_ ?_
    · rintro j x e hj ⟨c5, rfl⟩ next hnx
      obtain ⟨hjl, ek⟩ := List.getElem?_eq_some_iff.mp hj
      rw [List.length_range] at hjl
      rw [List.getElem_range] at ek
      subst ek
      refine ll_pair hL hl hi hjl (fun _ => hnx _ ⟨_, rfl⟩) fun z => ?_
      rw [no j hjl] at z; cases z
    · rintro e ⟨c5, rfl⟩
      unfold t_law_lots_r4
      simp [sTryMany, clD, dTk, sRaise, sTryAs, sTry, dAt, flat, fIadd, dVar, dC, dNil, dCons, dFn, d2, d1, dLst, dTup, dLstV, dTupV, dTest, dTru, dNot, dAnd, dOr, dIf, dAndV, dOrV, dNotV, dChain, sNext, sSeq, sBreak, sCont, sDrop, sRet, sRetN, sIf, sAsg, gNm, gTupD, gTupD.go, sPar, dCall, T.vw, T.tk, vws, tks, Pd.resT, T.stay, isSh, isShs, noOb, noObs, noAl, noAls, fz, fzs, owp, ow, D.subs, D.sub, D.put1, D.puts, fAdd, fII, fII0, fMul, fI, fIB, fOrd, fEqG, fIsN, fLen, fInt, fAbs, fSubB, fIsi, tyD, isiB, exOf, retD, T.mv, mask, startD, plAt, plPut, ixD, dIx, ixE, ixS, truD, strOk]
      exact h1 no _
  | some m =>
    obtain ⟨p1, p2, p3⟩ := List.find?_range_eq_some.mp hf
    have hm := List.mem_range.mp p2
    refine forD_first (fun j e => ∃ c5, e = [c0, some (.lst o (L.map spF)), some (.bl false), some (.int i), none, c5, none, none, none, none]) (k0 := 0) (k := m) (by rw [List.length_range]; exact hm) ⟨c5, rfl⟩ ?_ ?_
    · rintro j x e hjm hj ⟨c5, rfl⟩ next hnx
      obtain ⟨hjl, ek⟩ := List.getElem?_eq_some_iff.mp hj
      rw [List.length_range] at hjl
      rw [List.getElem_range] at ek
      subst ek
      have no := p3 j hjm
      refine ll_pair hL hl hi hjl (fun _ => hnx _ ⟨_, rfl⟩) fun z => ?_
      rw [z] at no; cases no
    · rintro x e hj ⟨c5, rfl⟩ next
      obtain ⟨hjl, ek⟩ := List.getElem?_eq_some_iff.mp hj
      rw [List.getElem_range] at ek
      subst ek
      refine ll_pair hL hl hi hm (fun z => by rw [p1] at z; cases z) fun _ => ?_
      unfold t_law_lots_r4
      simp [sTryMany, clD, dTk, sRaise, sTryAs, sTry, dAt, flat, fIadd, dVar, dC, dNil, dCons, dFn, d2, d1, dLst, dTup, dLstV, dTupV, dTest, dTru, dNot, dAnd, dOr, dIf, dAndV, dOrV, dNotV, dChain, sNext, sSeq, sBreak, sCont, sDrop, sRet, sRetN, sIf, sAsg, gNm, gTupD, gTupD.go, sPar, dCall, T.vw, T.tk, vws, tks, Pd.resT, T.stay, isSh, isShs, noOb, noObs, noAl, noAls, fz, fzs, owp, ow, D.subs, D.sub, D.put1, D.puts, fAdd, fII, fII0, fMul, fI, fIB, fOrd, fEqG, fIsN, fLen, fInt, fAbs, fSubB, fIsi, tyD, isiB, exOf, retD, T.mv, mask, startD, plAt, plPut, ixD, dIx, ixE, ixS, truD, strOk]
      exact h2 m hm p1 _
theorem ll_step {L : List (List Sp)} {c2 c3 c5 : Option D} {o : Bool} (ok : Lots L l) (hL : L.length < 2 ^ 10) (hl : ∀ p ∈ L, p.length < 2 ^ 10)
    (h1 : Part L l → ∀ c3 c5, De.nx [c0, some (.lst o (L.map spF)), some (.bl false), c3, none, c5, none, none, none, none])
    (h2 : ∀ L', Lots L' l → L'.length + 1 = L.length → ∀ c3 c5, De.nx [c0, some (.lst true (L'.map spF)), some (.bl true), c3, none, c5, none, none, none, none]) :
    t_law_lots_7 De [c0, some (.lst o (L.map spF)), c2, c3, none, c5, none, none, none, none] W := by
  have q1 := spFs_sh L
  have q2 := spFs_ob L
  have q3 := spFs_fz L
  have go : forD (gNm 3) t_law_lots_5 De W ((List.range L.length).map fun k : Nat => D.int k) [c0, some (.lst o (L.map spF)), some (.bl false), c3, none, c5, none, none, none, none] := by
    cases hf : (List.range L.length).find? (fun i => (List.range i).any fun j => meet (gL L i) (gL L j)) with
    | none =>
      have no : ∀ i j, i < L.length → j < i → meet (gL L i) (gL L j) = false := fun i j hi hj => by
        have := List.find?_eq_none.mp hf i (List.mem_range.mpr hi)
        simp at this
        exact this j hj
      refine forD_inv (fun j e => ∃ c3 c5, e = [c0, some (.lst o (L.map spF)), some (.bl false), c3, none, c5, none, none, none, none]) (k := 0) ⟨c3, c5, rfl⟩ ?_ ?_
      · rintro j x e hj ⟨c3, c5, rfl⟩ next hnx
        obtain ⟨hjl, ek⟩ := List.getElem?_eq_some_iff.mp hj
        rw [List.length_range] at hjl
        rw [List.getElem_range] at ek
        subst ek
        refine ll_row hL hl hjl (fun _ c5 => hnx _ ⟨_, c5, rfl⟩) fun m hm z => ?_
        rw [no j m hjl hm] at z; cases z
      · rintro e ⟨c3, c5, rfl⟩
        exact h1 (far_ok ok no) _ _
    | some m =>
      obtain ⟨p1, p2, p3⟩ := List.find?_range_eq_some.mp hf
      have hm := List.mem_range.mp p2
      refine forD_first (fun j e => ∃ c3 c5, e = [c0, some (.lst o (L.map spF)), some (.bl false), c3, none, c5, none, none, none, none]) (k0 := 0) (k := m) (by rw [List.length_range]; exact hm) ⟨c3, c5, rfl⟩ ?_ ?_
      · rintro j x e hjm hj ⟨c3, c5, rfl⟩ next hnx
        obtain ⟨hjl, ek⟩ := List.getElem?_eq_some_iff.mp hj
        rw [List.length_range] at hjl
        rw [List.getElem_range] at ek
        subst ek
        have no := p3 j hjm
        refine ll_row hL hl hjl (fun _ c5 => hnx _ ⟨_, c5, rfl⟩) fun a ha z => ?_
        simp at no
        rw [no a ha] at z; cases z
      · rintro x e hj ⟨c3, c5, rfl⟩ next
        obtain ⟨hjl, ek⟩ := List.getElem?_eq_some_iff.mp hj
        rw [List.getElem_range] at ek
        subst ek
        refine ll_row hL hl hm (fun no => ?_) fun j hj hmt c5 => ?_
        · obtain ⟨a, ha, z⟩ := List.any_eq_true.mp p1
          rw [no a (List.mem_range.mp ha)] at z; cases z
        · obtain ⟨j1, j2⟩ := join_ok ok hj hm hmt
          exact h2 _ j1 j2 _ _
  unfold t_law_lots_7
  simp [sTryMany, clD, dTk, sRaise, sTryAs, sTry, dAt, flat, fIadd, dVar, dC, dNil, dCons, dFn, d2, d1, dLst, dTup, dLstV, dTupV, dTest, dTru, dNot, dAnd, dOr, dIf, dAndV, dOrV, dNotV, dChain, sNext, sSeq, sBreak, sCont, sDrop, sRet, sRetN, sIf, sAsg, gNm, gTupD, gTupD.go, sPar, dCall, T.vw, T.tk, vws, tks, Pd.resT, T.stay, isSh, isShs, noOb, noObs, noAl, noAls, fz, fzs, owp, ow, D.subs, D.sub, D.put1, D.puts, fAdd, fII, fII0, fMul, fI, fIB, fOrd, fEqG, fIsN, fLen, fInt, fAbs, fSubB, fIsi, tyD, isiB, exOf, retD, T.mv, mask, startD, plAt, plPut, ixD, dIx, ixE, ixS, truD, strOk]
  unfold t_law_lots_r6
  cases o
  all_goals
    simp [sTryMany, clD, dTk, sRaise, sTryAs, sTry, dAt, flat, fIadd, dVar, dC, dNil, dCons, dFn, d2, d1, dLst, dTup, dLstV, dTupV, dTest, dTru, dNot, dAnd, dOr, dIf, dAndV, dOrV, dNotV, dChain, sNext, sSeq, sBreak, sCont, sDrop, sRet, sRetN, sIf, sAsg, gNm, gTupD, gTupD.go, sPar, dCall, T.vw, T.tk, vws, tks, Pd.resT, T.stay, isSh, isShs, noOb, noObs, noAl, noAls, fz, fzs, owp, ow, D.subs, D.sub, D.put1, D.puts, fAdd, fII, fII0, fMul, fI, fIB, fOrd, fEqG, fIsN, fLen, fInt, fAbs, fSubB, fIsi, tyD, isiB, exOf, retD, T.mv, mask, startD, plAt, plPut, ixD, dIx, ixE, ixS, truD, strOk, sForR1, anySeq, q1, q2, q3]
    refine ⟨by omega, ?_⟩
    rw [rangeD_eq]
    exact go
theorem ll_while (lo : l.length ≤ 50) (fin : ∀ L o, Part L l → ∀ c3 c5, De.nx [c0, some (.lst o (L.map spF)), some (.bl false), c3, none, c5, none, none, none, none]) : ∀ (n : Nat) (L : List (List Sp)) (o : Bool) (c3 c5 : Option D), L.length + 1 < n → L.length < 2 ^ 10 → Lots L l →
    whD (dTest (dVar 2)) t_law_lots_7 De W n [c0, some (.lst o (L.map spF)), some (.bl true), c3, none, c5, none, none, none, none]
  | 0, L, o, c3, c5, h, _, _ => by omega
  | n + 1, L, o, c3, c5, h, hL, ok => by
    have hl : ∀ p ∈ L, p.length < 2 ^ 10 := fun p hp => by
      have := List.Sublist.length_le (List.sublist_flatten_of_mem hp)
      rw [ok.all.length_eq] at this
      omega
    have last : ∀ L o, Part L l → ∀ c3 c5, whD (dTest (dVar 2)) t_law_lots_7 De W n [c0, some (.lst o (L.map spF)), some (.bl false), c3, none, c5, none, none, none, none] := fun L o hp c3 c5 => by
      obtain ⟨n, rfl⟩ : ∃ m, n = m + 1 := ⟨n - 1, by omega⟩
      unfold whD
      simp [sTryMany, clD, dTk, sRaise, sTryAs, sTry, dAt, flat, fIadd, dVar, dC, dNil, dCons, dFn, d2, d1, dLst, dTup, dLstV, dTupV, dTest, dTru, dNot, dAnd, dOr, dIf, dAndV, dOrV, dNotV, dChain, sNext, sSeq, sBreak, sCont, sDrop, sRet, sRetN, sIf, sAsg, gNm, gTupD, gTupD.go, sPar, dCall, T.vw, T.tk, vws, tks, Pd.resT, T.stay, isSh, isShs, noOb, noObs, noAl, noAls, fz, fzs, owp, ow, D.subs, D.sub, D.put1, D.puts, fAdd, fII, fII0, fMul, fI, fIB, fOrd, fEqG, fIsN, fLen, fInt, fAbs, fSubB, fIsi, tyD, isiB, exOf, retD, T.mv, mask, startD, plAt, plPut, ixD, dIx, ixE, ixS, truD, strOk]
      exact fin L o hp c3 c5
    have ih := fun (L' : List (List Sp)) (_ : Lots L' l) (hl' : L'.length + 1 = L.length) => ll_while lo fin n L' true
    unfold whD
    simp only [dTest, dVar]
    simp [sTryMany, clD, dTk, sRaise, sTryAs, sTry, dAt, flat, fIadd, dVar, dC, dNil, dCons, dFn, d2, d1, dLst, dTup, dLstV, dTupV, dTest, dTru, dNot, dAnd, dOr, dIf, dAndV, dOrV, dNotV, dChain, sNext, sSeq, sBreak, sCont, sDrop, sRet, sRetN, sIf, sAsg, gNm, gTupD, gTupD.go, sPar, dCall, T.vw, T.tk, vws, tks, Pd.resT, T.stay, isSh, isShs, noOb, noObs, noAl, noAls, fz, fzs, owp, ow, D.subs, D.sub, D.put1, D.puts, fAdd, fII, fII0, fMul, fI, fIB, fOrd, fEqG, fIsN, fLen, fInt, fAbs, fSubB, fIsi, tyD, isiB, exOf, retD, T.mv, mask, startD, plAt, plPut, ixD, dIx, ixE, ixS, truD, strOk]
    exact ll_step ok hL hl (fun hp c3 c5 => last L o hp c3 c5) fun L' hL' e c3 c5 => ih L' hL' e c3 c5 (by omega) (by omega) hL'
end
theorem ll_end {R : D → EnvD → Prop} {W : WD} {c0 c2 c3 c5 : Option D} {o : Bool} {F : List (List Sp)} (lF : F.length < 2 ^ 10) (hp : ∀ p ∈ F, p.length < 2 ^ 10) (h : ∀ e, R (.lst true ((canon F).map lsF)) e) :
    t_law_lots_r8 (endsOf [] 1 R) [c0, some (.lst o (F.map spF)), c2, c3, none, c5, none, none, none, none] W := by
  have lb := line_big
  have o1 := spFs_ob F
  have o2 := spFs_fz F
  have o3 := spFs_sh F
  have x0 : ∀ s, ixE (spD s) (.int 0) = some (.int s.1) := fun _ => rfl
  have so : ∀ s, strOk (spD s) := fun _ => trivial
  unfold t_law_lots_r8
  cases o
  all_goals
    simp [sTryMany, clD, dTk, sRaise, sTryAs, sTry, dAt, flat, fIadd, dVar, dC, dNil, dCons, dFn, d2, d1, dLst, dTup, dLstV, dTupV, dTest, dTru, dNot, dAnd, dOr, dIf, dAndV, dOrV, dNotV, dChain, sNext, sSeq, sBreak, sCont, sDrop, sRet, sRetN, sIf, sAsg, gNm, gTupD, gTupD.go, sPar, dCall, T.vw, T.tk, vws, tks, Pd.resT, T.stay, isSh, isShs, noOb, noObs, noAl, noAls, fz, fzs, owp, D.subs, D.put1, D.puts, fAdd, fII, fII0, fMul, fI, fIB, fOrd, fEqG, fLen, fInt, fAbs, fSubB, fIsi, isiB, exOf, retD, T.mv, mask, startD, plAt, plPut, ixD, dIx, truD, dLc, itemsD, wipeD, unw, o1, o2, o3]
    refine lcD_fm (h := spF) (p := fun p => decide (1 < p.length)) (f := fun p => lsF (sortI (nums p))) rfl (by simp; omega) (fun p hp' K hK => ?_) (fun p hp' hs K hK => ?_) ?_
    · have e : (p.map spD).length = p.length := List.length_map _
      have i1 := sps_sh p
      have i2 := sps_fz p
      have i3 := sps_ob p
      have e2 : decide ((1 : Int) < (p.length : Int)) = decide (1 < p.length) := by rw [decide_eq_decide]; omega
      rw [← e2] at hK
      unfold spF at hK ⊢
      generalize p.map spD = ls at *
      simp [sTryMany, clD, dTk, sRaise, sTryAs, sTry, dAt, flat, fIadd, dVar, dC, dNil, dCons, dFn, d2, d1, dLst, dTup, dLstV, dTupV, dTest, dTru, dNot, dAnd, dOr, dIf, dAndV, dOrV, dNotV, dChain, sNext, sSeq, sBreak, sCont, sDrop, sRet, sRetN, sIf, sAsg, gNm, gTupD, gTupD.go, sPar, dCall, T.vw, T.tk, vws, tks, Pd.resT, T.stay, isSh, isShs, noOb, noObs, noAl, noAls, fz, fzs, owp, D.subs, D.put1, D.puts, fAdd, fII, fII0, fMul, fI, fIB, fOrd, fEqG, fLen, fInt, fAbs, fSubB, fIsi, isiB, exOf, retD, T.mv, mask, startD, plAt, plPut, ixD, dIx, truD, anySeq, i1, i2, i3, e]
      exact hK
    · have i1 := sps_sh p
      have i2 := sps_fz p
      have i3 := sps_ob p
      have lp := hp p hp'
      have xi : spF p = .lst false (p.map spD) := rfl
      rw [xi] at hK ⊢
      simp [sTryMany, clD, dTk, sRaise, sTryAs, sTry, dAt, flat, fIadd, dVar, dC, dNil, dCons, dFn, d2, d1, dLst, dTup, dLstV, dTupV, dTest, dTru, dNot, dAnd, dOr, dIf, dAndV, dOrV, dNotV, dChain, sNext, sSeq, sBreak, sCont, sDrop, sRet, sRetN, sIf, sAsg, gNm, gTupD, gTupD.go, sPar, dCall, T.vw, T.tk, vws, tks, Pd.resT, T.stay, isSh, isShs, noOb, noObs, noAl, noAls, fz, fzs, owp, D.subs, D.put1, D.puts, fAdd, fII, fII0, fMul, fI, fIB, fOrd, fEqG, fLen, fInt, fAbs, fSubB, fIsi, isiB, exOf, retD, T.mv, mask, startD, plAt, plPut, ixD, dIx, truD, dFz, dLc, itemsD, wipeD, unw, i1, i2, i3]
      refine lcD_map (h := spD) (f := fun s => .int s.1) rfl (by omega) (fun s hs' K2 hK2 => ?_) ?_
      · simp [sTryMany, clD, dTk, sRaise, sTryAs, sTry, dAt, flat, fIadd, dVar, dC, dNil, dCons, dFn, d2, d1, dLst, dTup, dLstV, dTupV, dTest, dTru, dNot, dAnd, dOr, dIf, dAndV, dOrV, dNotV, dChain, sNext, sSeq, sBreak, sCont, sDrop, sRet, sRetN, sIf, sAsg, gNm, gTupD, gTupD.go, sPar, dCall, T.vw, T.tk, vws, tks, Pd.resT, T.stay, isSh, isShs, noOb, noObs, noAl, noAls, fz, fzs, owp, D.subs, D.put1, D.puts, fAdd, fII, fII0, fMul, fI, fIB, fOrd, fEqG, fLen, fInt, fAbs, fSubB, fIsi, isiB, exOf, retD, T.mv, mask, startD, plAt, plPut, ixD, dIx, truD, dFz, so, x0]
        exact hK2 _ rfl
      · have e1 : (p.map fun s : Sp => D.int s.1) = (nums p).map D.int := by unfold nums; rw [List.map_map]; rfl
        rw [e1]
        have j1 := ints_sh (nums p)
        have j2 := ints_fz (nums p)
        have j3 := ints_ob (nums p)
        have j4 := fun Q => fSorted_int (o := false) (l := nums p) (Q := Q)
        have z1 := ints_ob (sortI (nums p))
        have z2 := ints_fz (sortI (nums p))
        have es : (nums p).mergeSort (fun a b => decide (a ≤ b)) = sortI (nums p) := rfl
        unfold lsF at hK
        rw [es] at j4
        generalize (nums p).map D.int = ls at *
        generalize (sortI (nums p)).map D.int = ss at *
        simp [sTryMany, clD, dTk, sRaise, sTryAs, sTry, dAt, flat, fIadd, dVar, dC, dNil, dCons, dFn, d2, d1, dLst, dTup, dLstV, dTupV, dTest, dTru, dNot, dAnd, dOr, dIf, dAndV, dOrV, dNotV, dChain, sNext, sSeq, sBreak, sCont, sDrop, sRet, sRetN, sIf, sAsg, gNm, gTupD, gTupD.go, sPar, dCall, T.vw, T.tk, vws, tks, Pd.resT, T.stay, isSh, isShs, noOb, noObs, noAl, noAls, fz, fzs, owp, D.subs, D.put1, D.puts, fAdd, fII, fII0, fMul, fI, fIB, fOrd, fEqG, fLen, fInt, fAbs, fSubB, fIsi, isiB, exOf, retD, T.mv, mask, startD, plAt, plPut, ixD, dIx, truD, dFz, j1, j2, j3, j4, z1, z2]
        exact hK _ rfl
    · have y1 := isShs_map (f := fun p => lsF (sortI (nums p))) (fun p => ls_sh _) (F.filter fun p => decide (1 < p.length))
      have y2 := noObs_map (f := fun p => lsF (sortI (nums p))) (fun p => ls_ob _) (F.filter fun p => decide (1 < p.length))
      have y3 := fzs_mapG (f := fun p => lsF (sortI (nums p))) (fun p => ls_fz _) (F.filter fun p => decide (1 < p.length))
      have y4 : (F.filter fun p => decide (1 < p.length)).map (fun p => lsF (sortI (nums p))) = ((F.filter fun p => decide (1 < p.length)).map fun p => sortI (nums p)).map lsF := by rw [List.map_map]; rfl
      have eG : ((F.filter fun p => decide (1 < p.length)).map fun p => sortI (nums p)).mergeSort (fun a b => decide (a ≤ b)) = canon F := rfl
      rw [List.nil_append]
      rw [y4] at y1 y2 y3 ⊢
      have y5 := fun Q => fSorted_rows (o := false) (L := (F.filter fun p => decide (1 < p.length)).map fun p => sortI (nums p)) (Q := Q)
      rw [eG] at y5
      generalize ((F.filter fun p => decide (1 < p.length)).map fun p => sortI (nums p)).map lsF = G at *
      simp [sTryMany, clD, dTk, sRaise, sTryAs, sTry, dAt, flat, fIadd, dVar, dC, dNil, dCons, dFn, d2, d1, dLst, dTup, dLstV, dTupV, dTest, dTru, dNot, dAnd, dOr, dIf, dAndV, dOrV, dNotV, dChain, sNext, sSeq, sBreak, sCont, sDrop, sRet, sRetN, sIf, sAsg, gNm, gTupD, gTupD.go, sPar, dCall, T.vw, T.tk, vws, tks, Pd.resT, T.stay, isSh, isShs, noOb, noObs, noAl, noAls, fz, fzs, owp, D.subs, D.put1, D.puts, fAdd, fII, fII0, fMul, fI, fIB, fOrd, fEqG, fLen, fInt, fAbs, fSubB, fIsi, isiB, exOf, retD, T.mv, mask, startD, plAt, plPut, ixD, dIx, truD, y1, y2, y3, y5]
      exact h _
theorem flat_one : ∀ l : List Sp, (l.map fun s => [s]).flatten = l
  | [] => rfl
  | a :: l => by rw [List.map_cons, List.flatten_cons, flat_one l]; rfl
theorem p_law_lots : ∀ ds R RE, S_law_lots ds R RE → t_law_lots (endsOf [] 1 R) (startD 10 ds) (exOf [] 1 RE) := by
  rintro ds R RE ⟨l, rfl, ok, h⟩
  have lb := line_big
  have l1 : 1 ≤ sizeLine := by omega
  have ll := ok.len
  have ps := sps_sh l
  unfold t_law_lots
  simp [sTryMany, clD, dTk, sRaise, sTryAs, sTry, dAt, flat, fIadd, dVar, dC, dNil, dCons, dFn, d2, d1, dLst, dTup, dLstV, dTupV, dTest, dTru, dNot, dAnd, dOr, dIf, dAndV, dOrV, dNotV, dChain, sNext, sSeq, sBreak, sCont, sDrop, sRet, sRetN, sIf, sAsg, gNm, gTupD, gTupD.go, sPar, dCall, T.vw, T.tk, vws, tks, Pd.resT, T.stay, isSh, isShs, noOb, noObs, noAl, noAls, fz, fzs, owp, ow, D.subs, D.sub, D.put1, D.puts, fAdd, fII, fII0, fMul, fI, fIB, fOrd, fEqG, fIsN, fLen, fInt, fAbs, fSubB, fIsi, tyD, isiB, exOf, retD, T.mv, mask, startD, plAt, plPut, ixD, dIx, ixE, ixS, truD, strOk, dLc, itemsD, wipeD, unw, ps]
  refine lcD_map (h := spD) (f := fun s => spF [s]) rfl (by omega) (fun s hs' K hK => ?_) ?_
  · have e : spF [s] = .lst false [spD s] := rfl
    rw [e] at hK
    simp [sTryMany, clD, dTk, sRaise, sTryAs, sTry, dAt, flat, fIadd, dVar, dC, dNil, dCons, dFn, d2, d1, dLst, dTup, dLstV, dTupV, dTest, dTru, dNot, dAnd, dOr, dIf, dAndV, dOrV, dNotV, dChain, sNext, sSeq, sBreak, sCont, sDrop, sRet, sRetN, sIf, sAsg, gNm, gTupD, gTupD.go, sPar, dCall, T.vw, T.tk, vws, tks, Pd.resT, T.stay, isSh, isShs, noOb, noObs, noAl, noAls, fz, fzs, owp, ow, D.subs, D.sub, D.put1, D.puts, fAdd, fII, fII0, fMul, fI, fIB, fOrd, fEqG, fIsN, fLen, fInt, fAbs, fSubB, fIsi, tyD, isiB, exOf, retD, T.mv, mask, startD, plAt, plPut, ixD, dIx, ixE, ixS, truD, strOk, dFz, l1]
    exact hK _ rfl
  · have e1 : (l.map fun s => spF [s]) = (l.map fun s => [s]).map spF := by rw [List.map_map]; rfl
    rw [e1]
    have el : (l.map fun s => [s]).length = l.length := List.length_map _
    have lo : Lots (l.map fun s => [s]) l := ⟨by rw [flat_one], fun p hp => by
      obtain ⟨s, _, rfl⟩ := List.mem_map.mp hp
      exact ⟨by simp, Conn.one s⟩⟩
    generalize (l.map fun s => [s]) = L at *
    simp [sTryMany, clD, dTk, sRaise, sTryAs, sTry, dAt, flat, fIadd, dVar, dC, dNil, dCons, dFn, d2, d1, dLst, dTup, dLstV, dTupV, dTest, dTru, dNot, dAnd, dOr, dIf, dAndV, dOrV, dNotV, dChain, sNext, sSeq, sBreak, sCont, sDrop, sRet, sRetN, sIf, sAsg, gNm, gTupD, gTupD.go, sPar, dCall, T.vw, T.tk, vws, tks, Pd.resT, T.stay, isSh, isShs, noOb, noObs, noAl, noAls, fz, fzs, owp, ow, D.subs, D.sub, D.put1, D.puts, fAdd, fII, fII0, fMul, fI, fIB, fOrd, fEqG, fIsN, fLen, fInt, fAbs, fSubB, fIsi, tyD, isiB, exOf, retD, T.mv, mask, startD, plAt, plPut, ixD, dIx, ixE, ixS, truD, strOk, wipeD, unw]
    unfold t_law_lots_r10
    simp [sTryMany, clD, dTk, sRaise, sTryAs, sTry, dAt, flat, fIadd, dVar, dC, dNil, dCons, dFn, d2, d1, dLst, dTup, dLstV, dTupV, dTest, dTru, dNot, dAnd, dOr, dIf, dAndV, dOrV, dNotV, dChain, sNext, sSeq, sBreak, sCont, sDrop, sRet, sRetN, sIf, sAsg, gNm, gTupD, gTupD.go, sPar, dCall, T.vw, T.tk, vws, tks, Pd.resT, T.stay, isSh, isShs, noOb, noObs, noAl, noAls, fz, fzs, owp, ow, D.subs, D.sub, D.put1, D.puts, fAdd, fII, fII0, fMul, fI, fIB, fOrd, fEqG, fIsN, fLen, fInt, fAbs, fSubB, fIsi, tyD, isiB, exOf, retD, T.mv, mask, startD, plAt, plPut, ixD, dIx, ixE, ixS, truD, strOk]
    unfold t_law_lots_r9
    unfold sSeq sWhile
    refine ⟨L.length + 2, ?_⟩
    refine ll_while (l := l) ll (fun F o hp c3 c5 => ?_) _ L true none none (by omega) (by omega) lo
    have cn := lots_of hp (.refl _) ok.num fun s hs => (ok.ord s hs).2
    have fl : ∀ p ∈ F, p.length ≤ l.length := fun p hm => by
      have := List.Sublist.length_le (List.sublist_flatten_of_mem hm)
      rwa [hp.all.length_eq] at this
    have fn : F.length ≤ l.length := by
      rw [← hp.all.length_eq]
      have ne : ∀ p ∈ F, p ≠ [] := fun p hm => (hp.con p hm).1
      clear hp cn fl
      induction F with
      | nil => simp
      | cons p F ih =>
        have := ih fun q hq => ne q (List.mem_cons_of_mem _ hq)
        have := List.length_pos_iff.mpr (ne p List.mem_cons_self)
        rw [List.flatten_cons, List.length_append, List.length_cons]
        omega
    refine ll_end (by omega) (fun p hm => by have := fl p hm; omega) ?_
    rw [cn]
    exact h

def S_law_plan : SD := fun ds R _ => ∃ (l : List Sp) (len times newest : Int), ds = [.lst false (l.map spD), .int len, .int times, .int newest] ∧ SpOk l ∧ 1 ≤ len ∧ len ≤ 16 ∧ 2 ≤ times ∧ times ≤ 4 ∧ ∀ o e, R (.lst o ((planR l len times newest).map D.int)) e
def t_law_plan_r1 : TSD := sIf (dAnd (dTest (dFn fGt (d2 false (dFn fLen (dCons false (dVar 7) (dNil))) (dC (.int 1))))) (dTest (dFn fLe (d2 false (dFn fMul (d2 false (dFn fAdd (d2 false (dVar 6) (dC (.int 1)))) (dVar 5))) (dVar 3))))) (sRet (dVar 7)) (sNext)
def t_law_plan_2 : TSD := sSeq (sAsg (dFn fSorted (dCons false (dLc [9, 10, 11] (dVar 0) (gTupD [gNm 9, gNm 10, gNm 11]) (dAnd (dTest (dFn fLe (d2 false (dFn fMul (d2 false (dVar 6) (dVar 5))) (dVar 10)))) (dTest (dFn fLt (d2 false (dVar 11) (dFn fMul (d2 false (dFn fAdd (d2 false (dVar 6) (dC (.int 1)))) (dVar 5))))))) (dVar 9)) (dNil))) (gNm 7)) (t_law_plan_r1)
def t_law_plan_r3 : TSD := sAsg (dFn fMul (d2 false (dVar 5) (dVar 2))) (gNm 5)
def t_law_plan_4 : TSD := sSeq (sForR1 (dCons false (dFn fAdd (d2 false (dFn fFdiv (d2 false (dFn (fMM (fun i j => if j > i then j else i) fun y m => y ≤ m) (dCons false (dLc [8] (dVar 0) (gNm 8) (dYes) (dIx false (dVar 8) (dC (.int 2)))) (dNil))) (dVar 5))) (dC (.int 1)))) (dNil)) (gNm 6) (t_law_plan_2)) (t_law_plan_r3)
def t_law_plan_r5 : TSD := sRet (dLst (dNil))
def t_law_plan_r6 : TSD := sSeq (sWhile (dAnd (dTest (dFn fGt (d2 false (dFn fLen (dCons false (dVar 0) (dNil))) (dC (.int 0))))) (dTest (dFn fLe (d2 true (dFn fFdiv (d2 false (dVar 5) (dVar 2))) (dFn (fMM (fun i j => if j > i then j else i) fun y m => y ≤ m) (dCons false (dLc [8] (dVar 0) (gNm 8) (dYes) (dIx false (dVar 8) (dC (.int 2)))) (dNil))))))) (t_law_plan_4)) (t_law_plan_r5)
def t_law_plan_r7 : TSD := sSeq (sAsg (dFn fMul (d2 false (dVar 1) (dVar 2))) (gNm 5)) (t_law_plan_r6)
def t_law_plan_r8 : TSD := sSeq (sIf (dTest (dFn fGt (d2 false (dFn fLen (dCons false (dVar 4) (dNil))) (dC (.int 0))))) (sRet (dIx false (dVar 4) (dC (.int 0)))) (sNext)) (t_law_plan_r7)
def t_law_plan : TSD := sSeq (sAsg (dCall S_law_lots (dCons false (dVar 0) (dNil))) (gNm 4)) (t_law_plan_r8)
theorem h_law_plan : ∀ ds R RE, S_law_plan ds R RE → ds.length = 4 := by
  rintro ds R RE ⟨_, _, _, _, rfl, _⟩; rfl
section
variable {De : EndsD} {W : WD} {l : List Sp} {newest : Int} {c1 c2 c4 : Option D}
theorem lp_part {R : D → EnvD → Prop} {nx bk ct : EnvD → Prop} {z k : Int} {c7 : Option D} (ok : SpOk l) (hz : 0 < z) (hz2 : z < 2 ^ 90) (hk : 0 ≤ k) (hk2 : k < 2 ^ 90)
    (h1 : hit l z newest k = true → ∀ e, R (.lst true ((sortI (insd l z k)).map D.int)) e)
    (h2 : hit l z newest k = false → ∀ c7, nx [some (.lst false (l.map spD)), c1, c2, some (.int newest), c4, some (.int z), some (.int k), c7, none, none, none, none]) :
    t_law_plan_2 { nx := nx, rt := (endsOf [] 4 R).rt, bk := bk, ct := ct } [some (.lst false (l.map spD)), c1, c2, some (.int newest), c4, some (.int z), some (.int k), c7, none, none, none, none] W := by
  have lb := line_big
  have p90 : (2 : Int) ^ 90 = 1237940039285380274899124224 := by decide
  have p100 : (2 : Int) ^ 100 = 1267650600228229401496703205376 := by decide
  have p100' : (2 : Nat) ^ 100 = 1267650600228229401496703205376 := by decide
  have cm0 : CMulW k z := mul_okN (by omega) (by omega)
  have cm : CMulW (k + 1) z := mul_okN (by omega) (by omega)
  have ps := sps_sh l
  have ll := ok.len
  unfold t_law_plan_2
  simp [sTryMany, clD, dTk, sRaise, sTryAs, sTry, dAt, flat, fIadd, dVar, dC, dNil, dCons, dFn, d2, d1, dLst, dTup, dLstV, dTupV, dTest, dTru, dNot, dAnd, dOr, dIf, dAndV, dOrV, dNotV, dChain, sNext, sSeq, sBreak, sCont, sDrop, sRet, sRetN, sIf, sAsg, gNm, gTupD, gTupD.go, sPar, dCall, T.vw, T.tk, vws, tks, Pd.resT, T.stay, isSh, isShs, noOb, noObs, noAl, noAls, fz, fzs, owp, D.subs, D.put1, D.puts, fAdd, fII, fII0, fMul, fI, fIB, fOrd, fEqG, fLen, fInt, fAbs, fSubB, fIsi, isiB, exOf, retD, T.mv, mask, startD, plAt, plPut, ixD, dIx, truD, dLc, itemsD, wipeD, unw, ps]
  refine lcD_inv (h := spD) (fun j acc e => acc = ((l.take j).filter fun s => decide (fst s / z = k) && decide (lst s / z = k)).map (fun s => D.int s.1) ∧ e = [some (.lst false (l.map spD)), c1, c2, some (.int newest), c4, some (.int z), some (.int k), c7, none, none, none, none]) (k := 0) ⟨rfl, rfl⟩ ?_ ?_
  · rintro j s acc e hj ⟨rfl, rfl⟩ next hn
    have nx := hn _ _ ⟨rfl, rfl⟩
    have al : (((l.take j).filter fun s => decide (fst s / z = k) && decide (lst s / z = k)).map fun s : Sp => D.int s.1).length < sizeLine := by
      rw [List.length_map]
      have := List.length_filter_le (fun s => decide (fst s / z = k) && decide (lst s / z = k)) (l.take j)
      rw [List.length_take] at this
      omega
    rw [Nat.zero_add] at nx ⊢
    rw [List.take_succ, hj, List.filter_append, List.map_append] at nx
    have so := ok.ord s (List.mem_of_getElem? hj)
    have iff := inside_iff (k := k) hz so.1 so.2
    have eA : spD s = .tup [.int s.1, .int (fst s), .int (lst s)] := rfl
    rw [eA]
    generalize ((l.take j).filter fun s => decide (fst s / z = k) && decide (lst s / z = k)).map (fun s : Sp => D.int s.1) = acc at *
    by_cases g1 : k * z ≤ fst s
    · by_cases g2 : lst s < (k + 1) * z
      · obtain ⟨i1, i2⟩ := iff.mp ⟨g1, g2⟩
        simp [i1, i2] at nx
        simp [sTryMany, clD, dTk, sRaise, sTryAs, sTry, dAt, flat, fIadd, dVar, dC, dNil, dCons, dFn, d2, d1, dLst, dTup, dLstV, dTupV, dTest, dTru, dNot, dAnd, dOr, dIf, dAndV, dOrV, dNotV, dChain, sNext, sSeq, sBreak, sCont, sDrop, sRet, sRetN, sIf, sAsg, gNm, gTupD, gTupD.go, sPar, dCall, T.vw, T.tk, vws, tks, Pd.resT, T.stay, isSh, isShs, noOb, noObs, noAl, noAls, fz, fzs, owp, ow, D.subs, D.sub, D.put1, D.puts, fAdd, fII, fII0, fMul, fI, fIB, fOrd, fEqG, fIsN, fLen, fInt, fAbs, fSubB, fIsi, tyD, isiB, exOf, retD, T.mv, mask, startD, plAt, plPut, ixD, dIx, ixE, ixS, truD, strOk, cm0, cm, g1, g2, al, wipeD]
        exact nx
      · have i3 : ¬ (fst s / z = k ∧ lst s / z = k) := fun q => g2 (iff.mpr q).2
        have i4 : (decide (fst s / z = k) && decide (lst s / z = k)) = false := by
          rw [Bool.eq_false_iff]; intro q
          rw [Bool.and_eq_true, decide_eq_true_iff, decide_eq_true_iff] at q
          exact i3 q
        simp [i4] at nx
        simp [sTryMany, clD, dTk, sRaise, sTryAs, sTry, dAt, flat, fIadd, dVar, dC, dNil, dCons, dFn, d2, d1, dLst, dTup, dLstV, dTupV, dTest, dTru, dNot, dAnd, dOr, dIf, dAndV, dOrV, dNotV, dChain, sNext, sSeq, sBreak, sCont, sDrop, sRet, sRetN, sIf, sAsg, gNm, gTupD, gTupD.go, sPar, dCall, T.vw, T.tk, vws, tks, Pd.resT, T.stay, isSh, isShs, noOb, noObs, noAl, noAls, fz, fzs, owp, ow, D.subs, D.sub, D.put1, D.puts, fAdd, fII, fII0, fMul, fI, fIB, fOrd, fEqG, fIsN, fLen, fInt, fAbs, fSubB, fIsi, tyD, isiB, exOf, retD, T.mv, mask, startD, plAt, plPut, ixD, dIx, ixE, ixS, truD, strOk, cm0, cm, g1, g2, al, wipeD]
        exact nx
    · have i3 : ¬ (fst s / z = k ∧ lst s / z = k) := fun q => g1 (iff.mpr q).1
      have i4 : (decide (fst s / z = k) && decide (lst s / z = k)) = false := by
        rw [Bool.eq_false_iff]; intro q
        rw [Bool.and_eq_true, decide_eq_true_iff, decide_eq_true_iff] at q
        exact i3 q
      simp [i4] at nx
      simp [sTryMany, clD, dTk, sRaise, sTryAs, sTry, dAt, flat, fIadd, dVar, dC, dNil, dCons, dFn, d2, d1, dLst, dTup, dLstV, dTupV, dTest, dTru, dNot, dAnd, dOr, dIf, dAndV, dOrV, dNotV, dChain, sNext, sSeq, sBreak, sCont, sDrop, sRet, sRetN, sIf, sAsg, gNm, gTupD, gTupD.go, sPar, dCall, T.vw, T.tk, vws, tks, Pd.resT, T.stay, isSh, isShs, noOb, noObs, noAl, noAls, fz, fzs, owp, ow, D.subs, D.sub, D.put1, D.puts, fAdd, fII, fII0, fMul, fI, fIB, fOrd, fEqG, fIsN, fLen, fInt, fAbs, fSubB, fIsi, tyD, isiB, exOf, retD, T.mv, mask, startD, plAt, plPut, ixD, dIx, ixE, ixS, truD, strOk, cm0, cm, g1, al, wipeD]
      exact nx
  · rintro acc e ⟨rfl, rfl⟩
    have e0 : l.take (0 + l.length) = l := by simp
    have e1 : ((l.filter fun s => decide (fst s / z = k) && decide (lst s / z = k)).map fun s : Sp => D.int s.1) = (insd l z k).map D.int := by unfold insd nums; rw [List.map_map]; rfl
    rw [e0, e1]
    have hh : hit l z newest k = (decide (1 < (insd l z k).length) && decide ((k + 1) * z ≤ newest)) := rfl
    have j1 := ints_sh (insd l z k)
    have j2 := ints_fz (insd l z k)
    have j3 := ints_ob (insd l z k)
    have j4 := fun Q => fSorted_int (o := false) (l := insd l z k) (Q := Q)
    rw [show (insd l z k).mergeSort (fun a b => decide (a ≤ b)) = sortI (insd l z k) from rfl] at j4
    have s1 := ints_sh (sortI (insd l z k))
    have s2 := ints_fz (sortI (insd l z k))
    have s3 := ints_ob (sortI (insd l z k))
    have s4 : ((sortI (insd l z k)).map D.int).length = (insd l z k).length := by rw [List.length_map, sortI_len]
    generalize (insd l z k).map D.int = X at *
    generalize (sortI (insd l z k)).map D.int = Y at *
    simp [sTryMany, clD, dTk, sRaise, sTryAs, sTry, dAt, flat, fIadd, dVar, dC, dNil, dCons, dFn, d2, d1, dLst, dTup, dLstV, dTupV, dTest, dTru, dNot, dAnd, dOr, dIf, dAndV, dOrV, dNotV, dChain, sNext, sSeq, sBreak, sCont, sDrop, sRet, sRetN, sIf, sAsg, gNm, gTupD, gTupD.go, sPar, dCall, T.vw, T.tk, vws, tks, Pd.resT, T.stay, isSh, isShs, noOb, noObs, noAl, noAls, fz, fzs, owp, D.subs, D.put1, D.puts, fAdd, fII, fII0, fMul, fI, fIB, fOrd, fEqG, fLen, fInt, fAbs, fSubB, fIsi, isiB, exOf, retD, T.mv, mask, startD, plAt, plPut, ixD, dIx, truD, unw, j1, j2, j3, j4]
    unfold t_law_plan_r1
    by_cases g1 : 1 < (insd l z k).length
    · have g1' : (1 : Int) < ((insd l z k).length : Int) := by omega
      by_cases g2 : (k + 1) * z ≤ newest
      · have := h1 (by rw [hh, decide_eq_true g1, decide_eq_true g2]; rfl)
        simp [sTryMany, clD, dTk, sRaise, sTryAs, sTry, dAt, flat, fIadd, dVar, dC, dNil, dCons, dFn, d2, d1, dLst, dTup, dLstV, dTupV, dTest, dTru, dNot, dAnd, dOr, dIf, dAndV, dOrV, dNotV, dChain, sNext, sSeq, sBreak, sCont, sDrop, sRet, sRetN, sIf, sAsg, gNm, gTupD, gTupD.go, sPar, dCall, T.vw, T.tk, vws, tks, Pd.resT, T.stay, isSh, isShs, noOb, noObs, noAl, noAls, fz, fzs, owp, D.subs, D.put1, D.puts, fAdd, fII, fII0, fMul, fI, fIB, fOrd, fEqG, fLen, fInt, fAbs, fSubB, fIsi, isiB, exOf, retD, T.mv, mask, startD, plAt, plPut, ixD, dIx, truD, anySeq, s1, s2, s3, s4, g1', cm, g2]
        exact this _
      · have := h2 (by rw [hh, decide_eq_true g1, decide_eq_false g2]; rfl)
        simp [sTryMany, clD, dTk, sRaise, sTryAs, sTry, dAt, flat, fIadd, dVar, dC, dNil, dCons, dFn, d2, d1, dLst, dTup, dLstV, dTupV, dTest, dTru, dNot, dAnd, dOr, dIf, dAndV, dOrV, dNotV, dChain, sNext, sSeq, sBreak, sCont, sDrop, sRet, sRetN, sIf, sAsg, gNm, gTupD, gTupD.go, sPar, dCall, T.vw, T.tk, vws, tks, Pd.resT, T.stay, isSh, isShs, noOb, noObs, noAl, noAls, fz, fzs, owp, D.subs, D.put1, D.puts, fAdd, fII, fII0, fMul, fI, fIB, fOrd, fEqG, fLen, fInt, fAbs, fSubB, fIsi, isiB, exOf, retD, T.mv, mask, startD, plAt, plPut, ixD, dIx, truD, anySeq, s1, s2, s3, s4, g1', cm, g2]
        exact this _
    · have g1' : ¬ (1 : Int) < ((insd l z k).length : Int) := by omega
      have := h2 (by rw [hh, decide_eq_false g1]; rfl)
      simp [sTryMany, clD, dTk, sRaise, sTryAs, sTry, dAt, flat, fIadd, dVar, dC, dNil, dCons, dFn, d2, d1, dLst, dTup, dLstV, dTupV, dTest, dTru, dNot, dAnd, dOr, dIf, dAndV, dOrV, dNotV, dChain, sNext, sSeq, sBreak, sCont, sDrop, sRet, sRetN, sIf, sAsg, gNm, gTupD, gTupD.go, sPar, dCall, T.vw, T.tk, vws, tks, Pd.resT, T.stay, isSh, isShs, noOb, noObs, noAl, noAls, fz, fzs, owp, D.subs, D.put1, D.puts, fAdd, fII, fII0, fMul, fI, fIB, fOrd, fEqG, fLen, fInt, fAbs, fSubB, fIsi, isiB, exOf, retD, T.mv, mask, startD, plAt, plPut, ixD, dIx, truD, anySeq, s1, s2, s3, s4, g1']
      exact this _
theorem lp_scan {R : D → EnvD → Prop} {nx bk ct : EnvD → Prop} {z : Int} (ok : SpOk l) (hz : 0 < z) (hz2 : z < 2 ^ 90) : ∀ (ys : List Int) (c6 c7 : Option D), (∀ k ∈ ys, 0 ≤ k ∧ k < 2 ^ 90) →
    (∀ r, scanR l z newest ys = some r → ∀ e, R (.lst true (r.map D.int)) e) →
    (scanR l z newest ys = none → ∀ c6 c7, nx [some (.lst false (l.map spD)), c1, c2, some (.int newest), c4, some (.int z), c6, c7, none, none, none, none]) →
    forD (gNm 6) t_law_plan_2 { nx := nx, rt := (endsOf [] 4 R).rt, bk := bk, ct := ct } W (ys.map D.int) [some (.lst false (l.map spD)), c1, c2, some (.int newest), c4, some (.int z), c6, c7, none, none, none, none]
  | [], c6, c7, _, _, h2 => h2 rfl c6 c7
  | k :: ys, c6, c7, hk, h1, h2 => by
    obtain ⟨k0, k1⟩ := hk k List.mem_cons_self
    rw [scan_cons] at h1 h2
    rw [List.map_cons]
    unfold forD
    show t_law_plan_2 _ _ W
    refine lp_part ok hz hz2 k0 k1 (fun hh e => ?_) fun hh c7 => ?_
    · rw [if_pos hh] at h1
      exact h1 _ rfl e
    · have hn : ¬ hit l z newest k = true := by rw [hh]; exact Bool.false_ne_true
      rw [if_neg hn] at h1 h2
      exact lp_scan ok hz hz2 ys _ _ (fun j hj => hk j (List.mem_cons_of_mem _ hj)) h1 h2
end
theorem lp_while {R : D → EnvD → Prop} {nx bk ct : EnvD → Prop} {W : WD} {l : List Sp} {len times newest : Int} {c4 : Option D} (ok : SpOk l) (l0 : l ≠ []) (h1 : 1 ≤ len) (h2 : len ≤ 16) (h3 : 2 ≤ times) (h4 : times ≤ 4) : ∀ (n k : Nat) (c6 c7 : Option D), n + k = 25 → k ≤ 20 →
    (∀ e, R (.lst true ((planG l times newest (mx (lasts l)) n (szK len times (k + 1))).map D.int)) e) →
    (planG l times newest (mx (lasts l)) n (szK len times (k + 1)) = [] → ∀ c5 c6 c7, nx [some (.lst false (l.map spD)), some (.int len), some (.int times), some (.int newest), c4, c5, c6, c7, none, none, none, none]) →
    whD (dAnd (dTest (dFn fGt (d2 false (dFn fLen (dCons false (dVar 0) (dNil))) (dC (.int 0))))) (dTest (dFn fLe (d2 true (dFn fFdiv (d2 false (dVar 5) (dVar 2))) (dFn (fMM (fun i j => if j > i then j else i) fun y m => y ≤ m) (dCons false (dLc [8] (dVar 0) (gNm 8) (dYes) (dIx false (dVar 8) (dC (.int 2)))) (dNil))))))) (t_law_plan_4) { nx := nx, rt := (endsOf [] 4 R).rt, bk := bk, ct := ct } W n [some (.lst false (l.map spD)), some (.int len), some (.int times), some (.int newest), c4, some (.int (szK len times (k + 1))), c6, c7, none, none, none, none]
  | 0, k, _, _, hn, hk, _, _ => by omega
  | n + 1, k, c6, c7, hn, hk, g1, g2 => by
    have p90 : (2 : Int) ^ 90 = 1237940039285380274899124224 := by decide
    have p100 : (2 : Int) ^ 100 = 1267650600228229401496703205376 := by decide
    have p100' : (2 : Nat) ^ 100 = 1267650600228229401496703205376 := by decide
    have lb := line_big
    have hl : lasts l ≠ [] := fun e => l0 (List.map_eq_nil_iff.mp e)
    obtain ⟨m1, m2⟩ := mx_mem hl
    have msml : 0 ≤ mx (lasts l) ∧ mx (lasts l) < 1000000 := by
      obtain ⟨s, hs, e⟩ := List.mem_map.mp m1
      rw [← e]; exact ⟨by have := ok.ord s hs; omega, ok.sml s hs⟩
    have dv : szK len times (k + 1) / times = szK len times k := szK_div h3 k
    have sc : szK len times (k + 1) * times = szK len times (k + 1 + 1) := (szK_succ len times (k + 1)).symm
    obtain ⟨z0, z1⟩ := szK_ok h1 h2 h3 h4 (k := k + 1) (by omega)
    unfold planG at g1 g2
    rw [dv] at g1 g2
    have top : k = 20 → ¬ szK len times k ≤ mx (lasts l) := fun e => by
      obtain ⟨_, b⟩ := szK_pos h1 h3 20
      have : (2 : Int) ^ 20 = 1048576 := by decide
      rw [e]; omega
    have ih := fun c6 c7 (hk : k + 1 ≤ 20) => lp_while (R := R) (nx := nx) (bk := bk) (ct := ct) (W := W) (newest := newest) (c4 := c4) ok l0 h1 h2 h3 h4 n (k + 1) c6 c7 (by omega) hk
    have cdt : ∀ x, CDivW x times := fun x => sml_divN (by omega) (by omega)
    have cd : ∀ x, CDivW x (szK len times (k + 1)) := fun x => sml_divN z0 (by omega)
    have cm : CMulW (szK len times (k + 1)) times := mul_okN (by omega) (by omega)
    have x2 : ∀ s, ixE (spD s) (.int 2) = some (.int (lst s)) := fun _ => rfl
    have so : ∀ s, strOk (spD s) := fun _ => trivial
    have ps := sps_sh l
    have ll := ok.len
    have ln : 0 < l.length := List.length_pos_iff.mpr l0
    have ln' : (0 : Int) < (l.length : Int) := by omega
    have e1 : (l.map fun s : Sp => D.int (lst s)) = (lasts l).map D.int := by unfold lasts; rw [List.map_map]; rfl
    have j1 := ints_sh (lasts l)
    have j2 := ints_fz (lasts l)
    have j3 := ints_ob (lasts l)
    have jl : (lasts l).length = l.length := List.length_map _
    have fmm := mx_use (l := lasts l) (by omega)
    unfold whD
    generalize whD _ _ _ W n = Wn at *
    rw [sc] at g1 g2
    have nt : szK len times (k + 1) * times = szK len times (k + 1 + 1) := sc
    generalize szK len times (k + 1 + 1) = z2 at *
    generalize szK len times (k + 1) = z at *
    generalize hX : (lasts l).map D.int = X at *
    simp [sTryMany, clD, dTk, sRaise, sTryAs, sTry, dAt, flat, fIadd, dVar, dC, dNil, dCons, dFn, d2, d1, dLst, dTup, dLstV, dTupV, dTest, dTru, dNot, dAnd, dOr, dIf, dAndV, dOrV, dNotV, dChain, sNext, sSeq, sBreak, sCont, sDrop, sRet, sRetN, sIf, sAsg, gNm, gTupD, gTupD.go, sPar, dCall, T.vw, T.tk, vws, tks, Pd.resT, T.stay, isSh, isShs, noOb, noObs, noAl, noAls, fz, fzs, owp, D.subs, D.put1, D.puts, fAdd, fII, fII0, fMul, fI, fIB, fOrd, fEqG, fLen, fInt, fAbs, fSubB, fIsi, isiB, exOf, retD, T.mv, mask, startD, plAt, plPut, ixD, dIx, truD, anySeq, dLc, itemsD, wipeD, unw, ps, ln, ln', l0, cdt]
    refine lcD_map (h := spD) (f := fun s => .int (lst s)) rfl (by omega) (fun s hs' K hK => ?_) ?_
    · simp [sTryMany, clD, dTk, sRaise, sTryAs, sTry, dAt, flat, fIadd, dVar, dC, dNil, dCons, dFn, d2, d1, dLst, dTup, dLstV, dTupV, dTest, dTru, dNot, dAnd, dOr, dIf, dAndV, dOrV, dNotV, dChain, sNext, sSeq, sBreak, sCont, sDrop, sRet, sRetN, sIf, sAsg, gNm, gTupD, gTupD.go, sPar, dCall, T.vw, T.tk, vws, tks, Pd.resT, T.stay, isSh, isShs, noOb, noObs, noAl, noAls, fz, fzs, owp, D.subs, D.put1, D.puts, fAdd, fII, fII0, fMul, fI, fIB, fOrd, fEqG, fLen, fInt, fAbs, fSubB, fIsi, isiB, exOf, retD, T.mv, mask, startD, plAt, plPut, ixD, dIx, truD, so, x2]
      exact hK _ rfl
    · rw [e1]
      simp [sTryMany, clD, dTk, sRaise, sTryAs, sTry, dAt, flat, fIadd, dVar, dC, dNil, dCons, dFn, d2, d1, dLst, dTup, dLstV, dTupV, dTest, dTru, dNot, dAnd, dOr, dIf, dAndV, dOrV, dNotV, dChain, sNext, sSeq, sBreak, sCont, sDrop, sRet, sRetN, sIf, sAsg, gNm, gTupD, gTupD.go, sPar, dCall, T.vw, T.tk, vws, tks, Pd.resT, T.stay, isSh, isShs, noOb, noObs, noAl, noAls, fz, fzs, owp, D.subs, D.put1, D.puts, fAdd, fII, fII0, fMul, fI, fIB, fOrd, fEqG, fLen, fInt, fAbs, fSubB, fIsi, isiB, exOf, retD, T.mv, mask, startD, plAt, plPut, ixD, dIx, truD, j1, j2, j3, wipeD, unw]
      refine fmm _ _ ?_
      by_cases c : szK len times k ≤ mx (lasts l)
      · rw [if_pos c] at g1 g2
        have k20 : k + 1 ≤ 20 := by
          rcases Nat.lt_or_ge k 20 with q | q
          · omega
          · exact absurd c (top (by omega))
        simp [sTryMany, clD, dTk, sRaise, sTryAs, sTry, dAt, flat, fIadd, dVar, dC, dNil, dCons, dFn, d2, d1, dLst, dTup, dLstV, dTupV, dTest, dTru, dNot, dAnd, dOr, dIf, dAndV, dOrV, dNotV, dChain, sNext, sSeq, sBreak, sCont, sDrop, sRet, sRetN, sIf, sAsg, gNm, gTupD, gTupD.go, sPar, dCall, T.vw, T.tk, vws, tks, Pd.resT, T.stay, isSh, isShs, noOb, noObs, noAl, noAls, fz, fzs, owp, D.subs, D.put1, D.puts, fAdd, fII, fII0, fMul, fI, fIB, fOrd, fEqG, fLen, fInt, fAbs, fSubB, fIsi, isiB, exOf, retD, T.mv, mask, startD, plAt, plPut, ixD, dIx, truD, dv, c]
        unfold t_law_plan_4
        simp [sTryMany, clD, dTk, sRaise, sTryAs, sTry, dAt, flat, fIadd, dVar, dC, dNil, dCons, dFn, d2, d1, dLst, dTup, dLstV, dTupV, dTest, dTru, dNot, dAnd, dOr, dIf, dAndV, dOrV, dNotV, dChain, sNext, sSeq, sBreak, sCont, sDrop, sRet, sRetN, sIf, sAsg, gNm, gTupD, gTupD.go, sPar, dCall, T.vw, T.tk, vws, tks, Pd.resT, T.stay, isSh, isShs, noOb, noObs, noAl, noAls, fz, fzs, owp, D.subs, D.put1, D.puts, fAdd, fII, fII0, fMul, fI, fIB, fOrd, fEqG, fLen, fInt, fAbs, fSubB, fIsi, isiB, exOf, retD, T.mv, mask, startD, plAt, plPut, ixD, dIx, truD, sForR1, dLc, itemsD, wipeD, unw, ps]
        refine lcD_map (h := spD) (f := fun s => .int (lst s)) rfl (by omega) (fun s hs' K hK => ?_) ?_
        · simp [sTryMany, clD, dTk, sRaise, sTryAs, sTry, dAt, flat, fIadd, dVar, dC, dNil, dCons, dFn, d2, d1, dLst, dTup, dLstV, dTupV, dTest, dTru, dNot, dAnd, dOr, dIf, dAndV, dOrV, dNotV, dChain, sNext, sSeq, sBreak, sCont, sDrop, sRet, sRetN, sIf, sAsg, gNm, gTupD, gTupD.go, sPar, dCall, T.vw, T.tk, vws, tks, Pd.resT, T.stay, isSh, isShs, noOb, noObs, noAl, noAls, fz, fzs, owp, D.subs, D.put1, D.puts, fAdd, fII, fII0, fMul, fI, fIB, fOrd, fEqG, fLen, fInt, fAbs, fSubB, fIsi, isiB, exOf, retD, T.mv, mask, startD, plAt, plPut, ixD, dIx, truD, so, x2]
          exact hK _ rfl
        · rw [e1]
          simp [sTryMany, clD, dTk, sRaise, sTryAs, sTry, dAt, flat, fIadd, dVar, dC, dNil, dCons, dFn, d2, d1, dLst, dTup, dLstV, dTupV, dTest, dTru, dNot, dAnd, dOr, dIf, dAndV, dOrV, dNotV, dChain, sNext, sSeq, sBreak, sCont, sDrop, sRet, sRetN, sIf, sAsg, gNm, gTupD, gTupD.go, sPar, dCall, T.vw, T.tk, vws, tks, Pd.resT, T.stay, isSh, isShs, noOb, noObs, noAl, noAls, fz, fzs, owp, D.subs, D.put1, D.puts, fAdd, fII, fII0, fMul, fI, fIB, fOrd, fEqG, fLen, fInt, fAbs, fSubB, fIsi, isiB, exOf, retD, T.mv, mask, startD, plAt, plPut, ixD, dIx, truD, j1, j2, j3, wipeD, unw]
          refine fmm _ _ ?_
          have d0 : 0 ≤ mx (lasts l) / z := Int.ediv_nonneg msml.1 (by omega)
          have d1' : mx (lasts l) / z ≤ mx (lasts l) := Int.ediv_le_self z msml.1
          obtain ⟨m, hm⟩ : ∃ m : Nat, mx (lasts l) / z + 1 = m := ⟨(mx (lasts l) / z + 1).toNat, by omega⟩
          have hmt : (mx (lasts l) / z + 1).toNat = m := by omega
          rw [hmt] at g1 g2
          simp [sTryMany, clD, dTk, sRaise, sTryAs, sTry, dAt, flat, fIadd, dVar, dC, dNil, dCons, dFn, d2, d1, dLst, dTup, dLstV, dTupV, dTest, dTru, dNot, dAnd, dOr, dIf, dAndV, dOrV, dNotV, dChain, sNext, sSeq, sBreak, sCont, sDrop, sRet, sRetN, sIf, sAsg, gNm, gTupD, gTupD.go, sPar, dCall, T.vw, T.tk, vws, tks, Pd.resT, T.stay, isSh, isShs, noOb, noObs, noAl, noAls, fz, fzs, owp, D.subs, D.put1, D.puts, fAdd, fII, fII0, fMul, fI, fIB, fOrd, fEqG, fLen, fInt, fAbs, fSubB, fIsi, isiB, exOf, retD, T.mv, mask, startD, plAt, plPut, ixD, dIx, truD, cd, hm]
          refine ⟨by omega, ?_⟩
          rw [rangeD_eq]
          have eu : ((List.range m).map fun k : Nat => D.int (k : Int)) = (upTo m).map D.int := by unfold upTo; rw [List.map_map]; rfl
          rw [eu]
          refine lp_scan ok z0 z1 (upTo m) _ _ (fun k hk => by have := mem_upTo.mp hk; omega) (fun r hr e => ?_) fun hr c6 c7 => ?_
          · rw [hr] at g1
            exact g1 e
          · rw [hr] at g1 g2
            unfold t_law_plan_r3
            simp [sTryMany, clD, dTk, sRaise, sTryAs, sTry, dAt, flat, fIadd, dVar, dC, dNil, dCons, dFn, d2, d1, dLst, dTup, dLstV, dTupV, dTest, dTru, dNot, dAnd, dOr, dIf, dAndV, dOrV, dNotV, dChain, sNext, sSeq, sBreak, sCont, sDrop, sRet, sRetN, sIf, sAsg, gNm, gTupD, gTupD.go, sPar, dCall, T.vw, T.tk, vws, tks, Pd.resT, T.stay, isSh, isShs, noOb, noObs, noAl, noAls, fz, fzs, owp, D.subs, D.put1, D.puts, fAdd, fII, fII0, fMul, fI, fIB, fOrd, fEqG, fLen, fInt, fAbs, fSubB, fIsi, isiB, exOf, retD, T.mv, mask, startD, plAt, plPut, ixD, dIx, truD, cm, nt]
            exact ih c6 c7 k20 g1 g2
      · rw [if_neg c] at g1 g2
        simp [sTryMany, clD, dTk, sRaise, sTryAs, sTry, dAt, flat, fIadd, dVar, dC, dNil, dCons, dFn, d2, d1, dLst, dTup, dLstV, dTupV, dTest, dTru, dNot, dAnd, dOr, dIf, dAndV, dOrV, dNotV, dChain, sNext, sSeq, sBreak, sCont, sDrop, sRet, sRetN, sIf, sAsg, gNm, gTupD, gTupD.go, sPar, dCall, T.vw, T.tk, vws, tks, Pd.resT, T.stay, isSh, isShs, noOb, noObs, noAl, noAls, fz, fzs, owp, D.subs, D.put1, D.puts, fAdd, fII, fII0, fMul, fI, fIB, fOrd, fEqG, fLen, fInt, fAbs, fSubB, fIsi, isiB, exOf, retD, T.mv, mask, startD, plAt, plPut, ixD, dIx, truD, dv, c]
        exact g2 rfl _ _ _
theorem p_law_plan : ∀ ds R RE, S_law_plan ds R RE → t_law_plan (endsOf [] 4 R) (startD 12 ds) (exOf [] 4 RE) := by
  rintro ds R RE ⟨l, len, times, newest, rfl, ok, h1, h2, h3, h4, h⟩
  have lb := line_big
  have ps := sps_sh l
  have ll := ok.len
  have p100' : (2 : Nat) ^ 100 = 1267650600228229401496703205376 := by decide
  unfold t_law_plan
  simp [sTryMany, clD, dTk, sRaise, sTryAs, sTry, dAt, flat, fIadd, dVar, dC, dNil, dCons, dFn, d2, d1, dLst, dTup, dLstV, dTupV, dTest, dTru, dNot, dAnd, dOr, dIf, dAndV, dOrV, dNotV, dChain, sNext, sSeq, sBreak, sCont, sDrop, sRet, sRetN, sIf, sAsg, gNm, gTupD, gTupD.go, sPar, dCall, T.vw, T.tk, vws, tks, Pd.resT, T.stay, isSh, isShs, noOb, noObs, noAl, noAls, fz, fzs, owp, ow, D.subs, D.sub, D.put1, D.puts, fAdd, fII, fII0, fMul, fI, fIB, fOrd, fEqG, fIsN, fLen, fInt, fAbs, fSubB, fIsi, tyD, isiB, exOf, retD, T.mv, mask, startD, plAt, plPut, ixD, dIx, ixE, ixS, truD, strOk, ps]
  refine ⟨l, rfl, ok, fun e => ?_⟩
  unfold t_law_plan_r8
  unfold planR at h
  have q1 := lss_sh (lotsR l)
  have q2 := lss_fz (lotsR l)
  have q3 := lss_ob (lotsR l)
  cases hL : lotsR l with
  | cons a L =>
    rw [hL] at h q1 q2 q3
    have h := h false
    have z0 : (0 : Int) < (L.length : Int) + 1 := by omega
    have i0 : ∀ xs : List D, atI (lsF a :: xs) 0 = some (lsF a) := fun xs => atI_c0 _ _
    have q4 := lss_sh L
    have q5 := lss_fz L
    have q6 := lss_ob L
    rw [List.map_cons] at q1 q2 q3 ⊢
    have la : (List.map lsF L).length = L.length := List.length_map _
    generalize List.map lsF L = LL at *
    simp [sTryMany, clD, dTk, sRaise, sTryAs, sTry, dAt, flat, fIadd, dVar, dC, dNil, dCons, dFn, d2, d1, dLst, dTup, dLstV, dTupV, dTest, dTru, dNot, dAnd, dOr, dIf, dAndV, dOrV, dNotV, dChain, sNext, sSeq, sBreak, sCont, sDrop, sRet, sRetN, sIf, sAsg, gNm, gTupD, gTupD.go, sPar, dCall, T.vw, T.tk, vws, tks, Pd.resT, T.stay, isSh, isShs, noOb, noObs, noAl, noAls, fz, fzs, owp, ow, D.subs, D.sub, D.put1, D.puts, fAdd, fII, fII0, fMul, fI, fIB, fOrd, fEqG, fIsN, fLen, fInt, fAbs, fSubB, fIsi, tyD, isiB, exOf, retD, T.mv, mask, startD, plAt, plPut, ixD, dIx, ixE, ixS, truD, strOk, anySeq, la, z0, i0, q4, q5, q6]
    exact h _
  | nil =>
    rw [hL] at h
    have cm : CMulW len times := mul_okN (by omega) (by omega)
    have e0 : len * times = szK len times (0 + 1) := by unfold szK; simp [Int.pow_succ]
    simp [sTryMany, clD, dTk, sRaise, sTryAs, sTry, dAt, flat, fIadd, dVar, dC, dNil, dCons, dFn, d2, d1, dLst, dTup, dLstV, dTupV, dTest, dTru, dNot, dAnd, dOr, dIf, dAndV, dOrV, dNotV, dChain, sNext, sSeq, sBreak, sCont, sDrop, sRet, sRetN, sIf, sAsg, gNm, gTupD, gTupD.go, sPar, dCall, T.vw, T.tk, vws, tks, Pd.resT, T.stay, isSh, isShs, noOb, noObs, noAl, noAls, fz, fzs, owp, ow, D.subs, D.sub, D.put1, D.puts, fAdd, fII, fII0, fMul, fI, fIB, fOrd, fEqG, fIsN, fLen, fInt, fAbs, fSubB, fIsi, tyD, isiB, exOf, retD, T.mv, mask, startD, plAt, plPut, ixD, dIx, ixE, ixS, truD, strOk, anySeq]
    unfold t_law_plan_r7
    simp [sTryMany, clD, dTk, sRaise, sTryAs, sTry, dAt, flat, fIadd, dVar, dC, dNil, dCons, dFn, d2, d1, dLst, dTup, dLstV, dTupV, dTest, dTru, dNot, dAnd, dOr, dIf, dAndV, dOrV, dNotV, dChain, sNext, sSeq, sBreak, sCont, sDrop, sRet, sRetN, sIf, sAsg, gNm, gTupD, gTupD.go, sPar, dCall, T.vw, T.tk, vws, tks, Pd.resT, T.stay, isSh, isShs, noOb, noObs, noAl, noAls, fz, fzs, owp, ow, D.subs, D.sub, D.put1, D.puts, fAdd, fII, fII0, fMul, fI, fIB, fOrd, fEqG, fIsN, fLen, fInt, fAbs, fSubB, fIsi, tyD, isiB, exOf, retD, T.mv, mask, startD, plAt, plPut, ixD, dIx, ixE, ixS, truD, strOk, cm]
    unfold t_law_plan_r6
    unfold sSeq sWhile
    by_cases l0 : l = []
    · rw [if_pos l0] at h
      subst l0
      refine ⟨1, ?_⟩
      unfold whD
      simp [sTryMany, clD, dTk, sRaise, sTryAs, sTry, dAt, flat, fIadd, dVar, dC, dNil, dCons, dFn, d2, d1, dLst, dTup, dLstV, dTupV, dTest, dTru, dNot, dAnd, dOr, dIf, dAndV, dOrV, dNotV, dChain, sNext, sSeq, sBreak, sCont, sDrop, sRet, sRetN, sIf, sAsg, gNm, gTupD, gTupD.go, sPar, dCall, T.vw, T.tk, vws, tks, Pd.resT, T.stay, isSh, isShs, noOb, noObs, noAl, noAls, fz, fzs, owp, ow, D.subs, D.sub, D.put1, D.puts, fAdd, fII, fII0, fMul, fI, fIB, fOrd, fEqG, fIsN, fLen, fInt, fAbs, fSubB, fIsi, tyD, isiB, exOf, retD, T.mv, mask, startD, plAt, plPut, ixD, dIx, ixE, ixS, truD, strOk, anySeq]
      unfold t_law_plan_r5
      simp [sTryMany, clD, dTk, sRaise, sTryAs, sTry, dAt, flat, fIadd, dVar, dC, dNil, dCons, dFn, d2, d1, dLst, dTup, dLstV, dTupV, dTest, dTru, dNot, dAnd, dOr, dIf, dAndV, dOrV, dNotV, dChain, sNext, sSeq, sBreak, sCont, sDrop, sRet, sRetN, sIf, sAsg, gNm, gTupD, gTupD.go, sPar, dCall, T.vw, T.tk, vws, tks, Pd.resT, T.stay, isSh, isShs, noOb, noObs, noAl, noAls, fz, fzs, owp, ow, D.subs, D.sub, D.put1, D.puts, fAdd, fII, fII0, fMul, fI, fIB, fOrd, fEqG, fIsN, fLen, fInt, fAbs, fSubB, fIsi, tyD, isiB, exOf, retD, T.mv, mask, startD, plAt, plPut, ixD, dIx, ixE, ixS, truD, strOk]
      exact h _ _
    · rw [if_neg l0] at h
      refine ⟨25, ?_⟩
      rw [e0] at h ⊢
      have := lp_while (R := R) (nx := fun e => t_law_plan_r5 (endsOf [] 4 R) e (exOf [] 4 RE)) (bk := (endsOf [] 4 R).bk) (ct := (endsOf [] 4 R).ct) (W := exOf [] 4 RE) (newest := newest) (c4 := some (.lst true [])) ok l0 h1 h2 h3 h4 25 0 none none rfl (by omega) (fun e => h _ _) fun z c5 c6 c7 => by
        rw [z] at h
        unfold t_law_plan_r5
        simp [sTryMany, clD, dTk, sRaise, sTryAs, sTry, dAt, flat, fIadd, dVar, dC, dNil, dCons, dFn, d2, d1, dLst, dTup, dLstV, dTupV, dTest, dTru, dNot, dAnd, dOr, dIf, dAndV, dOrV, dNotV, dChain, sNext, sSeq, sBreak, sCont, sDrop, sRet, sRetN, sIf, sAsg, gNm, gTupD, gTupD.go, sPar, dCall, T.vw, T.tk, vws, tks, Pd.resT, T.stay, isSh, isShs, noOb, noObs, noAl, noAls, fz, fzs, owp, ow, D.subs, D.sub, D.put1, D.puts, fAdd, fII, fII0, fMul, fI, fIB, fOrd, fEqG, fIsN, fLen, fInt, fAbs, fSubB, fIsi, tyD, isiB, exOf, retD, T.mv, mask, startD, plAt, plPut, ixD, dIx, ixE, ixS, truD, strOk]
        exact h _ _
      exact this

def S_law_bad : SD := fun ds R _ => (∃ l : List Sp, ds = [.lst false (l.map spD)] ∧ SpOk l ∧ ∀ e, R .non e) ∨ (∃ (pre post : List Sp) (b : Sp), ds = [.lst false ((pre ++ b :: post).map spD)] ∧ SpOk pre ∧ (pre ++ b :: post).length < 2 ^ 10 ∧ (lst b < fst b ∨ b.1 < 0 ∨ b.1 ∈ nums pre) ∧ ∀ e, R (.lst true [.str ("wrong" : Str), .int pre.length]) e)
def t_law_bad_1 : TSD := sRet (dCall S_check_spans (dCons false (dVar 0) (dNil)))
def t_law_bad : TSD := sTryAs [("Wrong" : Str)] [] 1 (t_law_bad_1) (fun a d => sRet (dLst (dCons false (dC (.str ("wrong" : Str))) (dCons false (dAt a 1 d) (dNil)))))
theorem h_law_bad : ∀ ds R RE, S_law_bad ds R RE → ds.length = 1 := by
  rintro ds R RE (⟨_, rfl, _⟩ | ⟨_, _, _, rfl, _⟩) <;> rfl
theorem p_law_bad : ∀ ds R RE, S_law_bad ds R RE → t_law_bad (endsOf [] 1 R) (startD 2 ds) (exOf [] 1 RE) := by
  have l2 : 2 ≤ sizeLine := by have := line_big; omega
  rintro ds R RE (⟨l, rfl, ok, h⟩ | ⟨pre, post, b, rfl, ok, hl, bad, h⟩)
  · unfold t_law_bad
    simp [sTryMany, clD, dTk, sRaise, sTryAs, sTry, dAt, flat, fIadd, dVar, dC, dNil, dCons, dFn, d2, d1, dLst, dTup, dLstV, dTupV, dTest, dTru, dNot, dAnd, dOr, dIf, dAndV, dOrV, dNotV, dChain, sNext, sSeq, sBreak, sCont, sDrop, sRet, sRetN, sIf, sAsg, gNm, gTupD, gTupD.go, sPar, dCall, T.vw, T.tk, vws, tks, Pd.resT, T.stay, isSh, isShs, noOb, noObs, noAl, noAls, fz, fzs, owp, ow, D.subs, D.sub, D.put1, D.puts, fAdd, fII, fII0, fMul, fI, fIB, fOrd, fEqG, fIsN, fLen, fInt, fAbs, fSubB, fIsi, tyD, isiB, exOf, retD, T.mv, mask, startD, plAt, plPut, ixD, dIx, ixE, ixS, truD, strOk]
    unfold t_law_bad_1
    simp [sTryMany, clD, dTk, sRaise, sTryAs, sTry, dAt, flat, fIadd, dVar, dC, dNil, dCons, dFn, d2, d1, dLst, dTup, dLstV, dTupV, dTest, dTru, dNot, dAnd, dOr, dIf, dAndV, dOrV, dNotV, dChain, sNext, sSeq, sBreak, sCont, sDrop, sRet, sRetN, sIf, sAsg, gNm, gTupD, gTupD.go, sPar, dCall, T.vw, T.tk, vws, tks, Pd.resT, T.stay, isSh, isShs, noOb, noObs, noAl, noAls, fz, fzs, owp, ow, D.subs, D.sub, D.put1, D.puts, fAdd, fII, fII0, fMul, fI, fIB, fOrd, fEqG, fIsN, fLen, fInt, fAbs, fSubB, fIsi, tyD, isiB, exOf, retD, T.mv, mask, startD, plAt, plPut, ixD, dIx, ixE, ixS, truD, strOk, sps_sh]
    refine .inl ⟨l, rfl, ok, fun e => ?_⟩
    exact h _
  · have ps := sps_sh (pre ++ b :: post)
    have key : ∀ R RE, (∀ e, RE ⟨"Wrong", .int pre.length⟩ e) → S_check_spans [.lst false ((pre ++ b :: post).map spD)] R RE := fun R RE h => .inr ⟨pre, post, b, rfl, ok, hl, bad, h⟩
    generalize (pre ++ b :: post).map spD = ls at *
    unfold t_law_bad
    simp [sTryMany, clD, dTk, sRaise, sTryAs, sTry, dAt, flat, fIadd, dVar, dC, dNil, dCons, dFn, d2, d1, dLst, dTup, dLstV, dTupV, dTest, dTru, dNot, dAnd, dOr, dIf, dAndV, dOrV, dNotV, dChain, sNext, sSeq, sBreak, sCont, sDrop, sRet, sRetN, sIf, sAsg, gNm, gTupD, gTupD.go, sPar, dCall, T.vw, T.tk, vws, tks, Pd.resT, T.stay, isSh, isShs, noOb, noObs, noAl, noAls, fz, fzs, owp, ow, D.subs, D.sub, D.put1, D.puts, fAdd, fII, fII0, fMul, fI, fIB, fOrd, fEqG, fIsN, fLen, fInt, fAbs, fSubB, fIsi, tyD, isiB, exOf, retD, T.mv, mask, startD, plAt, plPut, ixD, dIx, ixE, ixS, truD, strOk]
    unfold t_law_bad_1
    simp [sTryMany, clD, dTk, sRaise, sTryAs, sTry, dAt, flat, fIadd, dVar, dC, dNil, dCons, dFn, d2, d1, dLst, dTup, dLstV, dTupV, dTest, dTru, dNot, dAnd, dOr, dIf, dAndV, dOrV, dNotV, dChain, sNext, sSeq, sBreak, sCont, sDrop, sRet, sRetN, sIf, sAsg, gNm, gTupD, gTupD.go, sPar, dCall, T.vw, T.tk, vws, tks, Pd.resT, T.stay, isSh, isShs, noOb, noObs, noAl, noAls, fz, fzs, owp, ow, D.subs, D.sub, D.put1, D.puts, fAdd, fII, fII0, fMul, fI, fIB, fOrd, fEqG, fIsN, fLen, fInt, fAbs, fSubB, fIsi, tyD, isiB, exOf, retD, T.mv, mask, startD, plAt, plPut, ixD, dIx, ixE, ixS, truD, strOk, ps]
    refine key _ _ fun e => ?_
    simp [sTryMany, clD, dTk, sRaise, sTryAs, sTry, dAt, flat, fIadd, dVar, dC, dNil, dCons, dFn, d2, d1, dLst, dTup, dLstV, dTupV, dTest, dTru, dNot, dAnd, dOr, dIf, dAndV, dOrV, dNotV, dChain, sNext, sSeq, sBreak, sCont, sDrop, sRet, sRetN, sIf, sAsg, gNm, gTupD, gTupD.go, sPar, dCall, T.vw, T.tk, vws, tks, Pd.resT, T.stay, isSh, isShs, noOb, noObs, noAl, noAls, fz, fzs, owp, ow, D.subs, D.sub, D.put1, D.puts, fAdd, fII, fII0, fMul, fI, fIB, fOrd, fEqG, fIsN, fLen, fInt, fAbs, fSubB, fIsi, tyD, isiB, exOf, retD, T.mv, mask, startD, plAt, plPut, ixD, dIx, ixE, ixS, truD, strOk, l2]
    exact h _

def S_law : SD := fun ds R _ => ∃ ns : List Int, ds = [.frl false (ns.map .int)] ∧ ∀ e, R (.bl true) e
def t_law_r1 : TSD := sDrop (dApp true (dVar 3) (dTup (dCons false (dFn fAdd (d2 true (dFn fMul (d2 false (dC (.int 3)) (dVar 5))) (dCallIO [0] S_law_next (dCons false (dVar 1) (dCons false (dC (.int 3)) (dNil)))))) (dCons false (dVar 17) (dCons false (dVar 18) (dNil))))))
def t_law_r2 : TSD := sSeq (sAsg (dFn fAdd (d2 false (dVar 18) (dC (.int 1)))) (gNm 4)) (t_law_r1)
def t_law_r3 : TSD := sSeq (sAsg (dFn fAdd (d2 true (dVar 17) (dCallIO [0] S_law_next (dCons false (dVar 1) (dCons false (dVar 15) (dNil)))))) (gNm 18)) (t_law_r2)
def t_law_4 : TSD := sSeq (sAsg (dFn (fMM (fun i j => if j > i then j else i) fun y m => y ≤ m) (dCons true (dC (.int 0)) (dCons false (dFn fSubB (d2 true (dFn fAdd (d2 true (dVar 4) (dCallIO [0] S_law_next (dCons false (dVar 1) (dCons false (dC (.int 12)) (dNil)))))) (dCallIO [0] S_law_pick (dCons false (dVar 1) (dCons false (dLstV (dCons false (dC (.int 0)) (dCons false (dC (.int 0)) (dCons false (dC (.int 0)) (dCons false (dC (.int 15)) (dNil)))))) (dNil)))))) (dNil)))) (gNm 17)) (t_law_r3)
def t_law_r5 : TSD := sAsg (dFn fAdd (d2 false (dVar 10) (dC (.int 1)))) (gNm 10)
def t_law_r6 : TSD := sSeq (sDrop (dApp false (dVar 9) (dVar 19))) (t_law_r5)
def t_law_r7 : TSD := sSeq (sAsg (dFn fAdd (d2 true (dLc [12] (dTk (dVar 8)) (gNm 12) (dTest (dFn (fInA (!·)) (d2 false (dIx false (dVar 12) (dC (.int 0))) (dVar 19)))) (dVar 12)) (dLst (dCons false (dTup (dCons true (dVar 10) (dCons true (dFn (fMM (fun i j => if j < i then j else i) fun y m => m ≤ y) (dCons false (dLc [12] (dTk (dVar 21)) (gNm 12) (dYes) (dIx false (dVar 12) (dC (.int 1)))) (dNil))) (dCons false (dFn (fMM (fun i j => if j > i then j else i) fun y m => y ≤ m) (dCons false (dLc [12] (dTk (dVar 21)) (gNm 12) (dYes) (dIx false (dVar 12) (dC (.int 2)))) (dNil))) (dNil))))) (dNil))))) (gNm 8)) (t_law_r6)
def t_law_r8 : TSD := sIf (dTest (dFn fGt (d2 false (dFn fLen (dCons false (dVar 19) (dNil))) (dC (.int 0))))) (sSeq (sAsg (dLc [12] (dTk (dVar 8)) (gNm 12) (dTest (dFn (fInA id) (d2 false (dIx false (dVar 12) (dC (.int 0))) (dVar 19)))) (dVar 12)) (gNm 21)) (t_law_r7)) (sNext)
def t_law_9 : TSD := sSeq (sAsg (dCall S_law_plan (dCons false (dTk (dVar 8)) (dCons false (dVar 15) (dCons false (dVar 16) (dCons false (dVar 6) (dNil)))))) (gNm 19)) (t_law_r8)
def t_law_10 : TSD := sDrop (dApp false (dVar 20) (dFn fMul (d2 false (dIx false (dVar 20) (dC (.int (-1)))) (dVar 16))))
def t_law_r11 : TSD := sIf (dTest (dFn fNe (d2 true (dCall S_level_of (dCons false (dVar 12) (dCons false (dVar 15) (dCons false (dVar 16) (dNil))))) (dIx false (dLcR1 [5] (dCons false (dFn fLen (dCons false (dVar 20) (dNil))) (dNil)) (gNm 5) (dTest (dFn fEq (d2 false (dFn fFdiv (d2 false (dIx false (dVar 12) (dC (.int 1))) (dIx false (dVar 20) (dVar 5)))) (dFn fFdiv (d2 false (dIx false (dVar 12) (dC (.int 2))) (dIx false (dVar 20) (dVar 5))))))) (dVar 5)) (dC (.int 0)))))) (sRet (dC (.bl false))) (sNext)
def t_law_r12 : TSD := sSeq (sWhile (dTest (dFn fLe (d2 false (dIx false (dVar 20) (dC (.int (-1)))) (dIx false (dVar 12) (dC (.int 2)))))) (t_law_10)) (t_law_r11)
def t_law_13 : TSD := sSeq (sAsg (dLst (dCons false (dVar 15) (dNil))) (gNm 20)) (t_law_r12)
def t_law_r14 : TSD := sIf (dNot (dTest (dCall (S_law_same 8) (dCons false (dCall S_law_bad (dCons false (dFn fAdd (d2 false (dFn fAdd (d2 false (dSl false (dVar 3) (pNone) (pSome (dVar 13))) (dLst (dCons false (dVar 14) (dNil))))) (dSl false (dVar 3) (pSome (dVar 13)) (pNone)))) (dNil))) (dCons false (dLstV (dCons false (dC (.str ("wrong" : Str))) (dCons false (dVar 13) (dNil)))) (dNil)))))) (sRet (dC (.bl false))) (sNext)
def t_law_r15 : TSD := sSeq (sAsg (dCallIO [0] S_law_pick (dCons true (dVar 1) (dCons false (dFn fAdd (d2 true (dLst (dCons false (dTup (dCons false (dC (.int 1000)) (dCons false (dC (.int 5)) (dCons false (dC (.int 4)) (dNil))))) (dCons false (dTup (dCons false (dC (.int (-1))) (dCons false (dC (.int 0)) (dCons false (dC (.int 0)) (dNil))))) (dNil)))) (dLc [12] (dSl false (dVar 3) (pNone) (pSome (dVar 13))) (gNm 12) (dYes) (dTup (dCons false (dIx false (dVar 12) (dC (.int 0))) (dCons false (dC (.int 0)) (dCons false (dC (.int 1)) (dNil)))))))) (dNil)))) (gNm 14)) (t_law_r14)
def t_law_r16 : TSD := sSeq (sAsg (dCallIO [0] S_law_next (dCons false (dVar 1) (dCons false (dFn fAdd (d2 false (dFn fLen (dCons false (dVar 3) (dNil))) (dC (.int 1)))) (dNil)))) (gNm 13)) (t_law_r15)
def t_law_r17 : TSD := sSeq (sFor (dTk (dVar 3)) (gNm 12) (t_law_13)) (t_law_r16)
def t_law_r18 : TSD := sSeq (sIf (dOr (dNot (dTest (dCall (S_law_same 8) (dCons false (dCall S_settled (dCons false (dVar 3) (dCons false (dVar 15) (dCons false (dVar 16) (dCons false (dVar 6) (dNil)))))) (dCons false (dTupV (dCons false (dVar 9) (dCons false (dFn fSorted (dCons false (dVar 8) (dNil))) (dNil)))) (dNil)))))) (dOr (dTest (dFn fNe (d2 false (dVar 3) (dVar 7)))) (dTest (dFn fGt (d2 false (dFn fLen (dCons false (dCall S_law_lots (dCons false (dTk (dVar 8)) (dNil))) (dNil))) (dC (.int 0))))))) (sRet (dC (.bl false))) (sNext)) (t_law_r17)
def t_law_r19 : TSD := sSeq (sForR1 (dCons false (dC (.int 20)) (dNil)) (gNm 11) (t_law_9)) (t_law_r18)
def t_law_r20 : TSD := sSeq (sAsg (dFn fAdd (d2 false (dFn (fMM (fun i j => if j > i then j else i) fun y m => y ≤ m) (dCons false (dFn fAdd (d2 false (dLc [12] (dTk (dVar 3)) (gNm 12) (dYes) (dIx false (dVar 12) (dC (.int 0)))) (dLst (dCons false (dC (.int (-1))) (dNil))))) (dNil))) (dC (.int 1)))) (gNm 10)) (t_law_r19)
def t_law_r21 : TSD := sSeq (sAsg (dLst (dNil)) (gNm 9)) (t_law_r20)
def t_law_r22 : TSD := sSeq (sAsg (dFn fListOf (dCons false (dVar 3) (dNil))) (gNm 8)) (t_law_r21)
def t_law_r23 : TSD := sSeq (sIf (dOr (dTest (dFn (fIsN (!·)) (d2 false (dCall S_law_bad (dCons false (dVar 3) (dNil))) (dC .non)))) (dOr (dNot (dTest (dCall (S_law_same 8) (dCons false (dCall S_overlapping (dCons false (dVar 3) (dNil))) (dCons false (dCall S_law_lots (dCons false (dVar 3) (dNil))) (dNil)))))) (dNot (dTest (dCall (S_law_same 8) (dCons false (dCall S_plan (dCons false (dVar 3) (dCons false (dVar 15) (dCons false (dVar 16) (dCons false (dVar 6) (dNil)))))) (dCons false (dCall S_law_plan (dCons false (dVar 3) (dCons false (dVar 15) (dCons false (dVar 16) (dCons false (dVar 6) (dNil)))))) (dNil)))))))) (sRet (dC (.bl false))) (sNext)) (t_law_r22)
def t_law_r24 : TSD := sSeq (sAsg (dFn fListOf (dCons false (dVar 3) (dNil))) (gNm 7)) (t_law_r23)
def t_law_r25 : TSD := sSeq (sAsg (dCallIO [0] S_law_pick (dCons true (dVar 1) (dCons false (dLstV (dCons true (dVar 4) (dCons true (dFn fAdd (d2 false (dVar 4) (dC (.int 100)))) (dCons false (dCallIO [0] S_law_next (dCons false (dVar 1) (dCons false (dFn fAdd (d2 false (dVar 4) (dC (.int 1)))) (dNil)))) (dNil))))) (dNil)))) (gNm 6)) (t_law_r24)
def t_law_r26 : TSD := sSeq (sIf (dTest (dFn fEq (d2 false (dCallIO [0] S_law_next (dCons false (dVar 1) (dCons false (dC (.int 3)) (dNil)))) (dC (.int 0))))) (sAsg (dFn fRev (d1 (dVar 3))) (gNm 3)) (sNext)) (t_law_r25)
def t_law_r27 : TSD := sSeq (sForR1 (dCons false (dCallIO [0] S_law_next (dCons false (dVar 1) (dCons false (dC (.int 9)) (dNil)))) (dNil)) (gNm 5) (t_law_4)) (t_law_r26)
def t_law_r28 : TSD := sSeq (sAsg (dC (.int 0)) (gNm 4)) (t_law_r27)
def t_law_r29 : TSD := sSeq (sAsg (dLst (dNil)) (gNm 3)) (t_law_r28)
def t_law_30 : TSD := sSeq (sPar 15 16 (dCons true (dFn fAdd (d2 true (dC (.int 1)) (dCallIO [0] S_law_next (dCons false (dVar 1) (dCons false (dC (.int 10)) (dNil)))))) (dCons false (dFn fAdd (d2 true (dC (.int 2)) (dCallIO [0] S_law_next (dCons false (dVar 1) (dCons false (dC (.int 3)) (dNil)))))) (dNil)))) (t_law_r29)
def t_law_r31 : TSD := sRet (dAndV (dFn fEq (d2 false (dCall S_plan (dCons false (dLstV (dNil)) (dCons false (dC (.int 5)) (dCons false (dC (.int 2)) (dCons false (dC (.int 100)) (dNil)))))) (dLstV (dNil)))) (dFn fEq (d2 false (dCall S_settled (dCons false (dLstV (dNil)) (dCons false (dC (.int 5)) (dCons false (dC (.int 2)) (dCons false (dC (.int 9)) (dNil)))))) (dTupV (dCons false (dLstV (dNil)) (dCons false (dLstV (dNil)) (dNil)))))))
def t_law_r32 : TSD := sSeq (sForR1 (dCons false (dC (.int 3)) (dNil)) (gNm 2) (t_law_30)) (t_law_r31)
def t_law : TSD := sSeq (sAsg (dCall S_law_draws (dCons false (dVar 0) (dNil))) (gNm 1)) (t_law_r32)
theorem h_law : ∀ ds R RE, S_law ds R RE → ds.length = 1 := by
  rintro ds R RE ⟨a, rfl, _⟩; rfl
theorem same_ok {n : Nat} {x y : D} {R : D → EnvD → Prop} {RE : Exn → EnvD → Prop} (e : toPy x = toPy y) (sx : isSh x = true) (sy : isSh y = true) (px : pyOk x = true) (py : pyOk y = true) (hd : dep y ≤ n) (hl : lenB y = true) (h : ∀ e, R (.bl true) e) : S_law_same (n + 1) [x, y] R RE :=
  ⟨_, _, rfl, sx, sy, px, py, e, hd, hl, h⟩
/-- how a turn ends -/
def EndT (f : Nat) (c0 : Option D) (e : EnvD) : Prop := ∃ (d : D) (c2 c3 c4 c5 c6 c7 c8 c9 c10 c11 c12 c13 c14 c15 c16 c17 c18 c19 c20 c21 : Option D), e = [c0, some d, c2, c3, c4, c5, c6, c7, c8, c9, c10, c11, c12, c13, c14, c15, c16, c17, c18, c19, c20, c21] ∧ DrN f d
theorem sps_lay : ∀ l : List Sp, PyData.canLayAll0 (toPys (l.map spD)) = true ∧ PyData.depthAll (toPys (l.map spD)) ≤ 2
  | [] => ⟨by simp [toPys, PyData.canLayAll0], by simp [toPys, PyData.depthAll]⟩
  | s :: l => by
    obtain ⟨c, d⟩ := sps_lay l
    exact ⟨by simp [spD, toPys, toPy, PyData.canLayAll0, PyData.canLay0]; exact c, by simp [spD, toPys, toPy, PyData.depthAll, PyData.depth]; omega⟩
theorem sps_eq (o o' : Bool) (l : List Sp) : pyOk (.lst o (l.map spD)) = true ∧ SeqAt.shaped (toPy (.lst o (l.map spD))) = true ∧ eqD (.lst o (l.map spD)) (.lst o' (l.map spD)) = true := by
  obtain ⟨a, b⟩ := sps_lay l
  have lay : (toPy (.lst o (l.map spD))).canLay0 = true := by show PyData.canLay0 (.list _) = true; simp only [PyData.canLay0]; exact a
  have sh : SeqAt.shaped (toPy (.lst o (l.map spD))) = true := by
    unfold SeqAt.shaped
    rw [Bool.and_eq_true, decide_eq_true_iff]
    exact ⟨lay, by show PyData.depth (.list _) ≤ _; simp only [PyData.depth]; omega⟩
  exact ⟨sps_py l, sh, SeqAt.eqv_refl _ lay⟩
theorem lsF_dep (l : List Int) : dep (lsF l) ≤ 1 := by
  have := deps_map (f := D.int) (n := 0) (fun _ => by simp [dep]) l
  simp [lsF, dep]; omega
theorem ls_lenB {l : List Int} (h : l.length ≤ 100) : lenB (lsF l) = true := by
  have lb := line_big
  have := lenBs_map (f := D.int) (fun _ => rfl) l
  simp [lsF, lenB, this]; omega
theorem plan_len {l : List Sp} {r : List Int} (ok : NumOk l) (h : PlanOk l r) : r.length ≤ l.length := by
  rw [← taken_len ok h]
  exact List.length_filter_le _ _
section
variable {De : EndsD} {W : WD} {l : List Sp} {d : D} {f : Nat} {len times newest : Int} {s : Sp} {o : Bool} {c0 c1 c2 c3 c4 c5 c6 c7 c8 c9 c10 c11 c12 c13 c14 c15 c16 c17 c18 c19 c20 c21 : Option D}

theorem lw14 {b : Nat} {w : Sp} (hb : b ≤ l.length) (bad : lst w < fst w ∨ w.1 < 0 ∨ w.1 ∈ nums (l.take b)) (ok : SpOk l) (hd : DrN (f + 0) d) (h : ∀ e, EndT f c0 e → De.nx e) :
    t_law_r14 De [c0, some d, c2, some (.lst false (l.map spD)), c4, c5, some (.int newest), c7, c8, c9, c10, c11, c12, some (.int b), some (spD w), some (.int len), some (.int times), c17, c18, c19, c20, c21] W := by
  have lb := line_big
  have l1 : 1 ≤ sizeLine := by omega
  have l2 : 2 ≤ sizeLine := by omega
  have ll := ok.len
  have t1 := cutD_take (xs := l.map spD) (n := b) (by simpa using hb)
  have t2 := cutD_drop (xs := l.map spD) (n := b) (by simpa using hb)
  rw [← List.map_take] at t1
  rw [← List.map_drop] at t2
  have okp : SpOk (l.take b) := ⟨List.Pairwise.sublist (List.take_sublist _ _) ok.num, fun s hs => ok.pos s (List.mem_of_mem_take hs), fun s hs => ok.ord s (List.mem_of_mem_take hs), fun s hs => ok.sml s (List.mem_of_mem_take hs), by rw [List.length_take]; omega⟩
  have lp : (l.take b).length = b := by rw [List.length_take]; omega
  have ld : (l.drop b).length = l.length - b := List.length_drop
  have em : (l.take b ++ w :: l.drop b).map spD = (l.take b).map spD ++ (spD w :: (l.drop b).map spD) := by rw [List.map_append]; rfl
  have key : ∀ R RE, (∀ e, R (.lst true [.str ("wrong" : Str), .int b]) e) → S_law_bad [.lst false ((l.take b).map spD ++ (spD w :: (l.drop b).map spD))] R RE := fun R RE h => .inr ⟨l.take b, l.drop b, w, by rw [em], okp, by rw [List.length_append, List.length_cons]; omega, bad, by rw [lp]; exact h⟩
  have ps := sps_sh l
  have a1 := sps_sh (l.take b)
  have a2 := sps_fz (l.take b)
  have a3 := sps_ob (l.take b)
  have b1 := sps_sh (l.drop b)
  have b2 := sps_fz (l.drop b)
  have b3 := sps_ob (l.drop b)
  have c1' : ((l.take b).map spD).length + 1 ≤ sizeLine := by rw [List.length_map]; omega
  have c2' : ((l.take b).map spD).length + (((l.drop b).map spD).length + 1) ≤ sizeLine := by rw [List.length_map, List.length_map]; omega
  have c3' : ((l.take b).map spD).length + 1 + ((l.drop b).map spD).length ≤ sizeLine := by rw [List.length_map, List.length_map]; omega
  generalize (l.take b).map spD = X at *
  generalize (l.drop b).map spD = Y at *
  have x1 : isShs (X ++ spD w :: Y) = true := by simp [isShs_app, a1, b1, isShs]
  have x2 : fzs (X ++ spD w :: Y) = X ++ spD w :: Y := by simp [a2, b2, fzs]
  have x3 : noObs (X ++ spD w :: Y) = true := by simp [a3, b3, noObs]
  unfold t_law_r14
  simp [sTryMany, clD, dTk, sRaise, sTryAs, sTry, dAt, flat, fIadd, dVar, dC, dNil, dCons, dFn, d2, d1, dLst, dTup, dLstV, dTupV, dTest, dTru, dNot, dAnd, dOr, dIf, dAndV, dOrV, dNotV, dChain, sNext, sSeq, sBreak, sCont, sDrop, sRet, sRetN, sIf, sAsg, gNm, gTupD, gTupD.go, sPar, dCall, T.vw, T.tk, vws, tks, Pd.resT, T.stay, isSh, isShs, noOb, noObs, noAl, noAls, fz, fzs, owp, ow, D.subs, D.sub, D.put1, D.puts, fAdd, fII, fII0, fMul, fI, fIB, fOrd, fEqG, fIsN, fLen, fInt, fAbs, fSubB, fIsi, tyD, isiB, exOf, retD, T.mv, mask, startD, plAt, plPut, ixD, dIx, ixE, ixS, truD, strOk, dSl, pNone, pSome, fSl, t1, t2, ps, a1, a2, a3, b1, b2, b3, l1, c1', c2', c3', x1, x2, x3]
  refine key _ _ fun e => ?_
  simp [sTryMany, clD, dTk, sRaise, sTryAs, sTry, dAt, flat, fIadd, dVar, dC, dNil, dCons, dFn, d2, d1, dLst, dTup, dLstV, dTupV, dTest, dTru, dNot, dAnd, dOr, dIf, dAndV, dOrV, dNotV, dChain, sNext, sSeq, sBreak, sCont, sDrop, sRet, sRetN, sIf, sAsg, gNm, gTupD, gTupD.go, sPar, dCall, T.vw, T.tk, vws, tks, Pd.resT, T.stay, isSh, isShs, noOb, noObs, noAl, noAls, fz, fzs, owp, ow, D.subs, D.sub, D.put1, D.puts, fAdd, fII, fII0, fMul, fI, fIB, fOrd, fEqG, fIsN, fLen, fInt, fAbs, fSubB, fIsi, tyD, isiB, exOf, retD, T.mv, mask, startD, plAt, plPut, ixD, dIx, ixE, ixS, truD, strOk, l2]
  refine same_ok rfl rfl rfl rfl rfl (by simp [dep, deps]) (by have : (Str.ofString "wrong").length = 5 := rfl; simp [lenB, lenBs]; omega) fun e => ?_
  simp [sTryMany, clD, dTk, sRaise, sTryAs, sTry, dAt, flat, fIadd, dVar, dC, dNil, dCons, dFn, d2, d1, dLst, dTup, dLstV, dTupV, dTest, dTru, dNot, dAnd, dOr, dIf, dAndV, dOrV, dNotV, dChain, sNext, sSeq, sBreak, sCont, sDrop, sRet, sRetN, sIf, sAsg, gNm, gTupD, gTupD.go, sPar, dCall, T.vw, T.tk, vws, tks, Pd.resT, T.stay, isSh, isShs, noOb, noObs, noAl, noAls, fz, fzs, owp, ow, D.subs, D.sub, D.put1, D.puts, fAdd, fII, fII0, fMul, fI, fIB, fOrd, fEqG, fIsN, fLen, fInt, fAbs, fSubB, fIsi, tyD, isiB, exOf, retD, T.mv, mask, startD, plAt, plPut, ixD, dIx, ixE, ixS, truD, strOk]
  exact h _ ⟨_, _, _, _, _, _, _, _, _, _, _, _, _, _, _, _, _, _, _, _, _, rfl, hd⟩

theorem lw16 (ok : SpOk l) (hd : DrN (f + 2) d) (h : ∀ e, EndT f c0 e → De.nx e) :
    t_law_r16 De [c0, some d, c2, some (.lst false (l.map spD)), c4, c5, some (.int newest), c7, c8, c9, c10, c11, c12, c13, c14, some (.int len), some (.int times), c17, c18, c19, c20, c21] W := by
  have lb := line_big
  have l3 : 3 ≤ sizeLine := by omega
  have l2 : 2 ≤ sizeLine := by omega
  have ll := ok.len
  have ps := sps_sh l
  have pf := sps_fz l
  have pb := sps_ob l
  have x0 : ∀ s, ixE (spD s) (.int 0) = some (.int s.1) := fun _ => rfl
  have so : ∀ s, strOk (spD s) := fun _ => trivial
  unfold t_law_r16
  simp [sTryMany, clD, dTk, sRaise, sTryAs, sTry, dAt, flat, fIadd, dVar, dC, dNil, dCons, dFn, d2, d1, dLst, dTup, dLstV, dTupV, dTest, dTru, dNot, dAnd, dOr, dIf, dAndV, dOrV, dNotV, dChain, sNext, sSeq, sBreak, sCont, sDrop, sRet, sRetN, sIf, sAsg, gNm, gTupD, gTupD.go, sPar, dCall, T.vw, T.tk, vws, tks, Pd.resT, T.stay, isSh, isShs, noOb, noObs, noAl, noAls, fz, fzs, owp, ow, D.subs, D.sub, D.put1, D.puts, fAdd, fII, fII0, fMul, fI, fIB, fOrd, fEqG, fIsN, fLen, fInt, fAbs, fSubB, fIsi, tyD, isiB, exOf, retD, T.mv, mask, startD, plAt, plPut, ixD, dIx, ixE, ixS, truD, strOk]
  rw [io_eq]
  obtain ⟨oD, sD⟩ := hd.ob
  simp [sTryMany, clD, dTk, sRaise, sTryAs, sTry, dAt, flat, fIadd, dVar, dC, dNil, dCons, dFn, d2, d1, dLst, dTup, dLstV, dTupV, dTest, dTru, dNot, dAnd, dOr, dIf, dAndV, dOrV, dNotV, dChain, sNext, sSeq, sBreak, sCont, sDrop, sRet, sRetN, sIf, sAsg, gNm, gTupD, gTupD.go, sPar, dCall, T.vw, T.tk, vws, tks, Pd.resT, T.stay, isSh, isShs, noOb, noObs, noAl, noAls, fz, fzs, owp, ow, D.subs, D.sub, D.put1, D.puts, fAdd, fII, fII0, fMul, fI, fIB, fOrd, fEqG, fIsN, fLen, fInt, fAbs, fSubB, fIsi, tyD, isiB, exOf, retD, T.mv, mask, startD, plAt, plPut, ixD, dIx, ixE, ixS, truD, strOk, cAs, cA, CA.root, CA.d, List.filterMap, anySeq, ps, pf, pb]
  refine ⟨d, f + 1, (l.length : Int) + 1, rfl, hd, by omega, by omega, fun b dd b0 b1 hdd => ?_⟩
  obtain ⟨b, rfl⟩ : ∃ n : Nat, b = n := ⟨b.toNat, by omega⟩
  have hb : b ≤ l.length := by omega
  have t1 := cutD_take (xs := l.map spD) (n := b) (by simpa using hb)
  rw [← List.map_take] at t1
  have a1 := sps_sh (l.take b)
  have a2 := sps_fz (l.take b)
  have a3 := sps_ob (l.take b)
  obtain ⟨oD2, sD2⟩ := hdd.ob
  simp [sTryMany, clD, dTk, sRaise, sTryAs, sTry, dAt, flat, fIadd, dVar, dC, dNil, dCons, dFn, d2, d1, dLst, dTup, dLstV, dTupV, dTest, dTru, dNot, dAnd, dOr, dIf, dAndV, dOrV, dNotV, dChain, sNext, sSeq, sBreak, sCont, sDrop, sRet, sRetN, sIf, sAsg, gNm, gTupD, gTupD.go, sPar, dCall, T.vw, T.tk, vws, tks, Pd.resT, T.stay, isSh, isShs, noOb, noObs, noAl, noAls, fz, fzs, owp, ow, D.subs, D.sub, D.put1, D.puts, fAdd, fII, fII0, fMul, fI, fIB, fOrd, fEqG, fIsN, fLen, fInt, fAbs, fSubB, fIsi, tyD, isiB, exOf, retD, T.mv, mask, startD, plAt, plPut, ixD, dIx, ixE, ixS, truD, strOk, cback]
  unfold t_law_r15
  simp [sTryMany, clD, dTk, sRaise, sTryAs, sTry, dAt, flat, fIadd, dVar, dC, dNil, dCons, dFn, d2, d1, dLst, dTup, dLstV, dTupV, dTest, dTru, dNot, dAnd, dOr, dIf, dAndV, dOrV, dNotV, dChain, sNext, sSeq, sBreak, sCont, sDrop, sRet, sRetN, sIf, sAsg, gNm, gTupD, gTupD.go, sPar, dCall, T.vw, T.tk, vws, tks, Pd.resT, T.stay, isSh, isShs, noOb, noObs, noAl, noAls, fz, fzs, owp, ow, D.subs, D.sub, D.put1, D.puts, fAdd, fII, fII0, fMul, fI, fIB, fOrd, fEqG, fIsN, fLen, fInt, fAbs, fSubB, fIsi, tyD, isiB, exOf, retD, T.mv, mask, startD, plAt, plPut, ixD, dIx, ixE, ixS, truD, strOk]
  rw [io_eq]
  simp [sTryMany, clD, dTk, sRaise, sTryAs, sTry, dAt, flat, fIadd, dVar, dC, dNil, dCons, dFn, d2, d1, dLst, dTup, dLstV, dTupV, dTest, dTru, dNot, dAnd, dOr, dIf, dAndV, dOrV, dNotV, dChain, sNext, sSeq, sBreak, sCont, sDrop, sRet, sRetN, sIf, sAsg, gNm, gTupD, gTupD.go, sPar, dCall, T.vw, T.tk, vws, tks, Pd.resT, T.stay, isSh, isShs, noOb, noObs, noAl, noAls, fz, fzs, owp, D.subs, D.put1, D.puts, fAdd, fII, fII0, fMul, fI, fIB, fOrd, fEqG, fLen, fInt, fAbs, fSubB, fIsi, isiB, exOf, retD, T.mv, mask, startD, plAt, plPut, ixD, dIx, truD, l2, l3, dLc, itemsD, wipeD, unw, dSl, pNone, pSome, fSl, t1, ps, pf, pb, a1, a2, a3, -List.map_take]
  refine lcD_map (h := spD) (f := fun s : Sp => spD (s.1, 0, 1)) rfl (by rw [List.length_take]; omega) (fun s hs K hK => ?_) ?_
  · simp [sTryMany, clD, dTk, sRaise, sTryAs, sTry, dAt, flat, fIadd, dVar, dC, dNil, dCons, dFn, d2, d1, dLst, dTup, dLstV, dTupV, dTest, dTru, dNot, dAnd, dOr, dIf, dAndV, dOrV, dNotV, dChain, sNext, sSeq, sBreak, sCont, sDrop, sRet, sRetN, sIf, sAsg, gNm, gTupD, gTupD.go, sPar, dCall, T.vw, T.tk, vws, tks, Pd.resT, T.stay, isSh, isShs, noOb, noObs, noAl, noAls, fz, fzs, owp, D.subs, D.put1, D.puts, fAdd, fII, fII0, fMul, fI, fIB, fOrd, fEqG, fLen, fInt, fAbs, fSubB, fIsi, isiB, exOf, retD, T.mv, mask, startD, plAt, plPut, ixD, dIx, truD, so, x0, l3]
    exact hK _ rfl
  · have em : ((l.take b).map fun s : Sp => spD (s.1, 0, 1)) = ((l.take b).map fun s : Sp => (s.1, 0, 1)).map spD := by rw [List.map_map]; rfl
    rw [em]
    have q1 := sps_sh ((l.take b).map fun s : Sp => (s.1, 0, 1))
    have q2 := sps_fz ((l.take b).map fun s : Sp => (s.1, 0, 1))
    have q3 := sps_ob ((l.take b).map fun s : Sp => (s.1, 0, 1))
    have qc : 2 + (((l.take b).map fun s : Sp => (s.1, 0, 1)).map spD).length ≤ sizeLine := by rw [List.length_map, List.length_map, List.length_take]; omega
    have ql : (((l.take b).map fun s : Sp => (s.1, 0, 1)).map spD).length ≤ 50 := by rw [List.length_map, List.length_map, List.length_take]; omega
    have qm : ∀ (k : Nat) (x : D), (D.tup [.int 1000, .int 5, .int 4] :: D.tup [.int (-1), .int 0, .int 0] :: ((l.take b).map fun s : Sp => (s.1, 0, 1)).map spD)[k]? = some x → ∃ w, x = spD w ∧ (lst w < fst w ∨ w.1 < 0 ∨ w.1 ∈ nums (l.take b)) := by
      intro k x hx
      rcases k with _ | _ | k
      · exact ⟨(1000, 5, 4), by simpa [spD] using hx.symm, .inl (by decide)⟩
      · exact ⟨(-1, 0, 0), by simpa [spD] using hx.symm, .inr (.inl (by decide))⟩
      · have hx : (((l.take b).map fun s : Sp => (s.1, 0, 1)).map spD)[k]? = some x := by simpa using hx
        have := List.mem_of_getElem? hx
        obtain ⟨v, hv, rfl⟩ := List.mem_map.mp this
        obtain ⟨s, hs, rfl⟩ := List.mem_map.mp hv
        exact ⟨_, rfl, .inr (.inr (List.mem_map.mpr ⟨s, hs, rfl⟩))⟩
    generalize ((l.take b).map fun s : Sp => (s.1, 0, 1)).map spD = Q at *
    simp [sTryMany, clD, dTk, sRaise, sTryAs, sTry, dAt, flat, fIadd, dVar, dC, dNil, dCons, dFn, d2, d1, dLst, dTup, dLstV, dTupV, dTest, dTru, dNot, dAnd, dOr, dIf, dAndV, dOrV, dNotV, dChain, sNext, sSeq, sBreak, sCont, sDrop, sRet, sRetN, sIf, sAsg, gNm, gTupD, gTupD.go, sPar, dCall, T.vw, T.tk, vws, tks, Pd.resT, T.stay, isSh, isShs, noOb, noObs, noAl, noAls, fz, fzs, owp, D.subs, D.put1, D.puts, fAdd, fII, fII0, fMul, fI, fIB, fOrd, fEqG, fLen, fInt, fAbs, fSubB, fIsi, isiB, exOf, retD, T.mv, mask, startD, plAt, plPut, ixD, dIx, truD, cAs, cA, CA.root, CA.d, List.filterMap, q1, q2, q3, qc, wipeD, unw]
    refine ⟨dd, f, _, rfl, hdd, by simp, by simp; omega, by simp [isShs, isSh, q1], fun k x d3 hx hd3 => ?_⟩
    obtain ⟨w, rfl, hw⟩ := qm k x hx
    simp [sTryMany, clD, dTk, sRaise, sTryAs, sTry, dAt, flat, fIadd, dVar, dC, dNil, dCons, dFn, d2, d1, dLst, dTup, dLstV, dTupV, dTest, dTru, dNot, dAnd, dOr, dIf, dAndV, dOrV, dNotV, dChain, sNext, sSeq, sBreak, sCont, sDrop, sRet, sRetN, sIf, sAsg, gNm, gTupD, gTupD.go, sPar, dCall, T.vw, T.tk, vws, tks, Pd.resT, T.stay, isSh, isShs, noOb, noObs, noAl, noAls, fz, fzs, owp, D.subs, D.put1, D.puts, fAdd, fII, fII0, fMul, fI, fIB, fOrd, fEqG, fLen, fInt, fAbs, fSubB, fIsi, isiB, exOf, retD, T.mv, mask, startD, plAt, plPut, ixD, dIx, truD, cback]
    exact lw14 hb hw ok hd3 h

theorem sz_at {len times : Int} {m k : Nat} (h : k ≤ m) : atI (((List.range (m + 1)).map (szK len times)).map D.int) (k : Int) = some (.int (szK len times k)) := atI_ofNat (by rw [List.getElem?_map, List.getElem?_map, List.getElem?_range (by omega)]; rfl)
theorem atI_last (xs : List D) (x : D) : atI (xs ++ [x]) (-1) = some x := by
  have e : ((-1 : Int) + ((xs ++ [x]).length : Int)).toNat = xs.length := by rw [List.length_append, List.length_singleton]; omega
  unfold atI ixN
  rw [if_neg (by decide), if_pos (by rw [List.length_append, List.length_singleton]; omega), e]
  simp
theorem sz_last {len times : Int} {m : Nat} : atI (((List.range (m + 1)).map (szK len times)).map D.int) (-1) = some (.int (szK len times m)) := by
  rw [List.range_succ, List.map_append, List.map_append]
  exact atI_last _ _
theorem lw10 (h1 : 1 ≤ len) (h2 : len ≤ 10) (h3 : 2 ≤ times) (h4 : times ≤ 4) (g1 : 0 ≤ fst s) (g2 : fst s ≤ lst s) (g3 : lst s < 1000000)
    (h : ∀ m : Nat, m ≤ 20 → lst s < szK len times m → De.nx [c0, c1, c2, c3, c4, c5, c6, c7, c8, c9, c10, c11, some (spD s), c13, c14, c15, some (.int times), c17, c18, c19, some (.lst true (((List.range (m + 1)).map (szK len times)).map D.int)), c21]) : ∀ (n m : Nat), n + m = 22 → m ≤ 20 →
    whD (dTest (dFn fLe (d2 false (dIx false (dVar 20) (dC (.int (-1)))) (dIx false (dVar 12) (dC (.int 2)))))) (t_law_10) De W n [c0, c1, c2, c3, c4, c5, c6, c7, c8, c9, c10, c11, some (spD s), c13, c14, c15, some (.int times), c17, c18, c19, some (.lst true (((List.range (m + 1)).map (szK len times)).map D.int)), c21]
  | 0, m, _, _ => by omega
  | n + 1, m, hn, hm => by
    have lb := line_big
    have p90 : (2 : Int) ^ 90 = 1237940039285380274899124224 := by decide
    have p100' : (2 : Nat) ^ 100 = 1267650600228229401496703205376 := by decide
    obtain ⟨z0, z1⟩ := szK_ok h1 (by omega) h3 h4 (k := m) (by omega)
    have cm : CMulW (szK len times m) times := mul_okN (by omega) (by omega)
    have x2 : ixE (spD s) (.int 2) = some (.int (lst s)) := rfl
    have so : strOk (spD s) := trivial
    have ixl : ∀ (o : Bool) (l : List D) (i : Int), ixE (.lst o l) (.int i) = atI l i := fun _ _ _ => rfl
    have sol : ∀ (o : Bool) (l : List D), strOk (.lst o l) := fun _ _ => trivial
    have al := sz_last (len := len) (times := times) (m := m)
    have nl : (((List.range (m + 1)).map (szK len times)).map D.int).length < sizeLine := by simp; omega
    have top : m = 20 → ¬ szK len times m ≤ lst s := fun e => by
      obtain ⟨_, b⟩ := szK_pos h1 h3 20
      have : (2 : Int) ^ 20 = 1048576 := by decide
      rw [e]; omega
    have nx : ((List.range (m + 1 + 1)).map (szK len times)).map D.int = ((List.range (m + 1)).map (szK len times)).map D.int ++ [.int (szK len times m * times)] := by
      rw [List.range_succ, List.map_append, List.map_append, ← szK_succ]; rfl
    have ih := fun (hk : m + 1 ≤ 20) => lw10 h1 h2 h3 h4 g1 g2 g3 h n (m + 1) (by omega) hk
    have fin := h m hm
    unfold whD
    generalize whD _ _ De W n = Wn at *
    rw [nx] at ih
    generalize ((List.range (m + 1)).map (szK len times)).map D.int = X at *
    generalize szK len times m = z at *
    by_cases c : z ≤ lst s
    · have m20 : m + 1 ≤ 20 := by
        rcases Nat.lt_or_ge m 20 with q | q
        · omega
        · exact absurd c (top (by omega))
      simp [sTryMany, clD, dTk, sRaise, sTryAs, sTry, dAt, flat, fIadd, dVar, dC, dNil, dCons, dFn, d2, d1, dLst, dTup, dLstV, dTupV, dTest, dTru, dNot, dAnd, dOr, dIf, dAndV, dOrV, dNotV, dChain, sNext, sSeq, sBreak, sCont, sDrop, sRet, sRetN, sIf, sAsg, gNm, gTupD, gTupD.go, sPar, dCall, T.vw, T.tk, vws, tks, Pd.resT, T.stay, isSh, isShs, noOb, noObs, noAl, noAls, fz, fzs, owp, D.subs, D.put1, D.puts, fAdd, fII, fII0, fMul, fI, fIB, fOrd, fEqG, fLen, fInt, fAbs, fSubB, fIsi, isiB, exOf, retD, T.mv, mask, startD, plAt, plPut, ixD, dIx, truD, ixl, sol, al, x2, so, c]
      unfold t_law_10
      simp [sTryMany, clD, dTk, sRaise, sTryAs, sTry, dAt, flat, fIadd, dVar, dC, dNil, dCons, dFn, d2, d1, dLst, dTup, dLstV, dTupV, dTest, dTru, dNot, dAnd, dOr, dIf, dAndV, dOrV, dNotV, dChain, sNext, sSeq, sBreak, sCont, sDrop, sRet, sRetN, sIf, sAsg, gNm, gTupD, gTupD.go, sPar, dCall, T.vw, T.tk, vws, tks, Pd.resT, T.stay, isSh, isShs, noOb, noObs, noAl, noAls, fz, fzs, owp, D.subs, D.put1, D.puts, fAdd, fII, fII0, fMul, fI, fIB, fOrd, fEqG, fLen, fInt, fAbs, fSubB, fIsi, isiB, exOf, retD, T.mv, mask, startD, plAt, plPut, ixD, dIx, truD, dApp, ixl, sol, al, cm, nl]
      exact ih m20
    · simp [sTryMany, clD, dTk, sRaise, sTryAs, sTry, dAt, flat, fIadd, dVar, dC, dNil, dCons, dFn, d2, d1, dLst, dTup, dLstV, dTupV, dTest, dTru, dNot, dAnd, dOr, dIf, dAndV, dOrV, dNotV, dChain, sNext, sSeq, sBreak, sCont, sDrop, sRet, sRetN, sIf, sAsg, gNm, gTupD, gTupD.go, sPar, dCall, T.vw, T.tk, vws, tks, Pd.resT, T.stay, isSh, isShs, noOb, noObs, noAl, noAls, fz, fzs, owp, D.subs, D.put1, D.puts, fAdd, fII, fII0, fMul, fI, fIB, fOrd, fEqG, fLen, fInt, fAbs, fSubB, fIsi, isiB, exOf, retD, T.mv, mask, startD, plAt, plPut, ixD, dIx, truD, ixl, sol, al, x2, so, c]
      exact fin (by omega)

theorem lw13 (h1 : 1 ≤ len) (h2 : len ≤ 10) (h3 : 2 ≤ times) (h4 : times ≤ 4) (g1 : 0 ≤ fst s) (g2 : fst s ≤ lst s) (g3 : lst s < 1000000)
    (h : ∀ c20, De.nx [c0, c1, c2, c3, c4, c5, c6, c7, c8, c9, c10, c11, some (spD s), c13, c14, some (.int len), some (.int times), c17, c18, c19, c20, c21]) :
    t_law_13 De [c0, c1, c2, c3, c4, c5, c6, c7, c8, c9, c10, c11, some (spD s), c13, c14, some (.int len), some (.int times), c17, c18, c19, c20, c21] W := by
  have lb := line_big
  have l1 : 1 ≤ sizeLine := by omega
  have p90 : (2 : Int) ^ 90 = 1237940039285380274899124224 := by decide
  have p100 : (2 : Int) ^ 100 = 1267650600228229401496703205376 := by decide
  unfold t_law_13
  simp [sTryMany, clD, dTk, sRaise, sTryAs, sTry, dAt, flat, fIadd, dVar, dC, dNil, dCons, dFn, d2, d1, dLst, dTup, dLstV, dTupV, dTest, dTru, dNot, dAnd, dOr, dIf, dAndV, dOrV, dNotV, dChain, sNext, sSeq, sBreak, sCont, sDrop, sRet, sRetN, sIf, sAsg, gNm, gTupD, gTupD.go, sPar, dCall, T.vw, T.tk, vws, tks, Pd.resT, T.stay, isSh, isShs, noOb, noObs, noAl, noAls, fz, fzs, owp, ow, D.subs, D.sub, D.put1, D.puts, fAdd, fII, fII0, fMul, fI, fIB, fOrd, fEqG, fIsN, fLen, fInt, fAbs, fSubB, fIsi, tyD, isiB, exOf, retD, T.mv, mask, startD, plAt, plPut, ixD, dIx, ixE, ixS, truD, strOk, l1]
  unfold t_law_r12
  unfold sSeq sWhile
  refine ⟨22, ?_⟩
  have e0 : ((List.range (0 + 1)).map (szK len times)).map D.int = [.int len] := by simp [szK]
  have := lw10 (De := { De with nx := fun e => t_law_r11 De e W }) (W := W) (s := s) (c0 := c0) (c1 := c1) (c2 := c2) (c3 := c3) (c4 := c4) (c5 := c5) (c6 := c6) (c7 := c7) (c8 := c8) (c9 := c9) (c10 := c10) (c11 := c11) (c13 := c13) (c14 := c14) (c15 := some (.int len)) (c17 := c17) (c18 := c18) (c19 := c19) (c21 := c21) h1 h2 h3 h4 g1 g2 g3 (fun m hm hz => ?_) 22 0 (by omega) (by omega)
  · rw [e0] at this
    exact this
  · have ixl : ∀ (o : Bool) (l : List D) (i : Int), ixE (.lst o l) (.int i) = atI l i := fun _ _ _ => rfl
    have sol : ∀ (o : Bool) (l : List D), strOk (.lst o l) := fun _ _ => trivial
    have x1 : ixE (spD s) (.int 1) = some (.int (fst s)) := rfl
    have x2 : ixE (spD s) (.int 2) = some (.int (lst s)) := rfl
    have so : strOk (spD s) := trivial
    have xa := fun k (hk : k ≤ m) => sz_at (len := len) (times := times) hk
    have y1 := ints_sh ((List.range (m + 1)).map (szK len times))
    have y2 := ints_fz ((List.range (m + 1)).map (szK len times))
    have y3 := ints_ob ((List.range (m + 1)).map (szK len times))
    have yl : (((List.range (m + 1)).map (szK len times)).map D.int).length = m + 1 := by simp
    have zk := fun k (hk : k ≤ m) => szK_ok h1 (show len ≤ 16 by omega) h3 h4 (k := k) (by omega)
    have ev : ∀ k, eqlv s len times k = decide (fst s / szK len times k = lst s / szK len times k) := fun _ => rfl
    have em : eqlv s len times m = true := by
      unfold eqlv
      rw [Int.ediv_eq_zero_of_lt g1 (by omega), Int.ediv_eq_zero_of_lt (by omega) hz]
      simp
    generalize ((List.range (m + 1)).map (szK len times)).map D.int = X at *
    unfold t_law_r11
    simp [sTryMany, clD, dTk, sRaise, sTryAs, sTry, dAt, flat, fIadd, dVar, dC, dNil, dCons, dFn, d2, d1, dLst, dTup, dLstV, dTupV, dTest, dTru, dNot, dAnd, dOr, dIf, dAndV, dOrV, dNotV, dChain, sNext, sSeq, sBreak, sCont, sDrop, sRet, sRetN, sIf, sAsg, gNm, gTupD, gTupD.go, sPar, dCall, T.vw, T.tk, vws, tks, Pd.resT, T.stay, isSh, isShs, noOb, noObs, noAl, noAls, fz, fzs, owp, ow, D.subs, D.sub, D.put1, D.puts, fAdd, fII, fII0, fMul, fI, fIB, fOrd, fEqG, fIsN, fLen, fInt, fAbs, fSubB, fIsi, tyD, isiB, exOf, retD, T.mv, mask, startD, plAt, plPut, ixD, dIx, ixE, ixS, truD, strOk]
    refine ⟨s, len, times, rfl, h1, by omega, h3, h4, g1, g2, g3, fun k e hk hj => ?_⟩
    have km : k ≤ m := by
      rcases Nat.lt_or_ge m k with q | q
      · have := hj m q
        rw [em] at this; cases this
      · exact q
    simp [sTryMany, clD, dTk, sRaise, sTryAs, sTry, dAt, flat, fIadd, dVar, dC, dNil, dCons, dFn, d2, d1, dLst, dTup, dLstV, dTupV, dTest, dTru, dNot, dAnd, dOr, dIf, dAndV, dOrV, dNotV, dChain, sNext, sSeq, sBreak, sCont, sDrop, sRet, sRetN, sIf, sAsg, gNm, gTupD, gTupD.go, sPar, dCall, T.vw, T.tk, vws, tks, Pd.resT, T.stay, isSh, isShs, noOb, noObs, noAl, noAls, fz, fzs, owp, D.subs, D.put1, D.puts, fAdd, fII, fII0, fMul, fI, fIB, fOrd, fEqG, fLen, fInt, fAbs, fSubB, fIsi, isiB, exOf, retD, T.mv, mask, startD, plAt, plPut, ixD, dIx, truD, dLcR1, anySeq, y1, y2, y3, yl]
    refine ⟨by omega, ?_⟩
    rw [show ((m : Int) + 1) = ((m + 1 : Nat) : Int) by omega, rangeD_eq]
    dsimp only [wipeD, List.set]
    refine lcD_fm (p := fun k => eqlv s len times k) (f := fun k : Nat => .int (k : Int)) rfl (by simp; omega) (fun j hj' K hK => ?_) (fun j hj' hs K hK => ?_) ?_
    · have jm : j ≤ m := by have := List.mem_range.mp hj'; omega
      have a := xa j jm
      obtain ⟨z0, z1⟩ := zk j jm
      have cd : ∀ x, CDivW x (szK len times j) := fun x => sml_divN z0 (by omega)
      rw [ev] at hK
      simp [sTryMany, clD, dTk, sRaise, sTryAs, sTry, dAt, flat, fIadd, dVar, dC, dNil, dCons, dFn, d2, d1, dLst, dTup, dLstV, dTupV, dTest, dTru, dNot, dAnd, dOr, dIf, dAndV, dOrV, dNotV, dChain, sNext, sSeq, sBreak, sCont, sDrop, sRet, sRetN, sIf, sAsg, gNm, gTupD, gTupD.go, sPar, dCall, T.vw, T.tk, vws, tks, Pd.resT, T.stay, isSh, isShs, noOb, noObs, noAl, noAls, fz, fzs, owp, D.subs, D.put1, D.puts, fAdd, fII, fII0, fMul, fI, fIB, fOrd, fEqG, fLen, fInt, fAbs, fSubB, fIsi, isiB, exOf, retD, T.mv, mask, startD, plAt, plPut, ixD, dIx, truD, ixl, sol, a, x1, x2, so, cd, y1, y2, y3]
      simpa using hK
    · simp [sTryMany, clD, dTk, sRaise, sTryAs, sTry, dAt, flat, fIadd, dVar, dC, dNil, dCons, dFn, d2, d1, dLst, dTup, dLstV, dTupV, dTest, dTru, dNot, dAnd, dOr, dIf, dAndV, dOrV, dNotV, dChain, sNext, sSeq, sBreak, sCont, sDrop, sRet, sRetN, sIf, sAsg, gNm, gTupD, gTupD.go, sPar, dCall, T.vw, T.tk, vws, tks, Pd.resT, T.stay, isSh, isShs, noOb, noObs, noAl, noAls, fz, fzs, owp, D.subs, D.put1, D.puts, fAdd, fII, fII0, fMul, fI, fIB, fOrd, fEqG, fLen, fInt, fAbs, fSubB, fIsi, isiB, exOf, retD, T.mv, mask, startD, plAt, plPut, ixD, dIx, truD]
      exact hK _ rfl
    · have hd0 : ((List.range (m + 1)).filter fun k => eqlv s len times k).head? = some k := by
        rw [List.head?_filter]
        exact List.find?_range_eq_some.mpr ⟨hk, List.mem_range.mpr (by omega), fun j q => by rw [hj j q]; rfl⟩
      obtain ⟨t, ht⟩ : ∃ t, (List.range (m + 1)).filter (fun k => eqlv s len times k) = k :: t := by
        cases hq : (List.range (m + 1)).filter (fun k => eqlv s len times k) with
        | nil => rw [hq] at hd0; cases hd0
        | cons a t => rw [hq] at hd0; cases hd0; exact ⟨t, rfl⟩
      rw [ht]
      have i0 : ∀ xs : List D, atI (D.int (k : Int) :: xs) 0 = some (.int (k : Int)) := fun xs => atI_c0 _ _
      have tsh : isShs (t.map fun k : Nat => D.int (k : Int)) = true := isShs_map (f := fun k : Nat => D.int (k : Int)) (fun _ => rfl) t
      have tob : noObs (t.map fun k : Nat => D.int (k : Int)) = true := noObs_map (f := fun k : Nat => D.int (k : Int)) (fun _ => rfl) t
      have tfz : fzs (t.map fun k : Nat => D.int (k : Int)) = t.map fun k : Nat => D.int (k : Int) := fzs_mapG (f := fun k : Nat => D.int (k : Int)) (fun _ => rfl) t
      rw [List.nil_append, List.map_cons]
      generalize (t.map fun k : Nat => D.int (k : Int)) = TT at *
      simp [sTryMany, clD, dTk, sRaise, sTryAs, sTry, dAt, flat, fIadd, dVar, dC, dNil, dCons, dFn, d2, d1, dLst, dTup, dLstV, dTupV, dTest, dTru, dNot, dAnd, dOr, dIf, dAndV, dOrV, dNotV, dChain, sNext, sSeq, sBreak, sCont, sDrop, sRet, sRetN, sIf, sAsg, gNm, gTupD, gTupD.go, sPar, dCall, T.vw, T.tk, vws, tks, Pd.resT, T.stay, isSh, isShs, noOb, noObs, noAl, noAls, fz, fzs, owp, D.subs, D.put1, D.puts, fAdd, fII, fII0, fMul, fI, fIB, fOrd, fEqG, fLen, fInt, fAbs, fSubB, fIsi, isiB, exOf, retD, T.mv, mask, startD, plAt, plPut, ixD, dIx, truD, ixl, sol, i0, tsh, tob, tfz, unw, wipeD]
      exact h _

theorem lw17 (h1 : 1 ≤ len) (h2 : len ≤ 10) (h3 : 2 ≤ times) (h4 : times ≤ 4) (ok : SpOk l) (hd : DrN (f + 2) d) (h : ∀ e, EndT f c0 e → De.nx e) :
    t_law_r17 De [c0, some d, c2, some (.lst false (l.map spD)), c4, c5, some (.int newest), c7, c8, c9, c10, c11, c12, c13, c14, some (.int len), some (.int times), c17, c18, c19, c20, c21] W := by
  have ps := sps_sh l
  have pf := sps_fz l
  have pb := sps_ob l
  unfold t_law_r17
  simp [sTryMany, clD, dTk, sRaise, sTryAs, sTry, dAt, flat, fIadd, dVar, dC, dNil, dCons, dFn, d2, d1, dLst, dTup, dLstV, dTupV, dTest, dTru, dNot, dAnd, dOr, dIf, dAndV, dOrV, dNotV, dChain, sNext, sSeq, sBreak, sCont, sDrop, sRet, sRetN, sIf, sAsg, gNm, gTupD, gTupD.go, sPar, dCall, T.vw, T.tk, vws, tks, Pd.resT, T.stay, isSh, isShs, noOb, noObs, noAl, noAls, fz, fzs, owp, ow, D.subs, D.sub, D.put1, D.puts, fAdd, fII, fII0, fMul, fI, fIB, fOrd, fEqG, fIsN, fLen, fInt, fAbs, fSubB, fIsi, tyD, isiB, exOf, retD, T.mv, mask, startD, plAt, plPut, ixD, dIx, ixE, ixS, truD, strOk, sFor, itemsD, ps, pf, pb]
  refine forD_inv (h := spD) (fun j e => ∃ c12 c20, e = [c0, some d, c2, some (.lst false (l.map spD)), c4, c5, some (.int newest), c7, c8, c9, c10, c11, c12, c13, c14, some (.int len), some (.int times), c17, c18, c19, c20, c21]) (k := 0) ⟨c12, c20, rfl⟩ ?_ ?_
  · rintro j s e hj ⟨c12, c20, rfl⟩ next hnx
    have ms := List.mem_of_getElem? hj
    have o1 := ok.ord s ms
    exact lw13 h1 h2 h3 h4 o1.1 o1.2 (ok.sml s ms) fun c20 => hnx _ ⟨_, c20, rfl⟩
  · rintro e ⟨c12, c20, rfl⟩
    exact lw16 ok hd h

theorem lss_lenB {o : Bool} {L : List (List Int)} (h1 : L.length ≤ 100) (h2 : ∀ r ∈ L, r.length ≤ 100) : lenB (.lst o (L.map lsF)) = true := by
  have lb := line_big
  have : lenBs (L.map lsF) = true := by
    rw [lenBs_all, List.all_map, List.all_eq_true]
    exact fun r hr => ls_lenB (h2 r hr)
  simp [lenB, this]; omega
theorem sps_lenB {o : Bool} {l : List Sp} (h1 : l.length ≤ 100) : lenB (.lst o (l.map spD)) = true := by
  have lb := line_big
  have := lenBs_map (f := spD) sp_lenB l
  simp [lenB, this]; omega
theorem sps_al : ∀ l : List Sp, noAls (l.map spD) = true
  | [] => rfl
  | s :: l => by rw [List.map_cons, noAls, sps_al l, sp_al]; rfl
theorem lss_depB {o : Bool} (L : List (List Int)) : dep (.lst o (L.map lsF)) ≤ 2 := by
  have := deps_map (f := lsF) (n := 1) lsF_dep L
  simp [dep]; omega
theorem sps_depB {o : Bool} (l : List Sp) : dep (.lst o (l.map spD)) ≤ 2 := by
  have := deps_map (f := spD) (n := 1) sp_dep l
  simp [dep]; omega
theorem tup2_len {x y : D} (h1 : lenB x = true) (h2 : lenB y = true) : lenB (.tup [x, y]) = true := by
  have := line_big
  simp [lenB, lenBs, h1, h2]
  try omega
theorem tup2_dep {x y : D} {n : Nat} (h1 : dep x ≤ n) (h2 : dep y ≤ n) : dep (.tup [x, y]) ≤ n + 1 := by
  simp [dep, deps]
  omega
theorem lw18 {hh : List Sp} {ms : List (List Int)} (eR : setG len times newest 50 l (mx (nums l ++ [-1]) + 1) [] = (ms, hh)) (okh : SpOk hh) (hp : lotsR hh = []) (m1 : ms.length ≤ 50) (m2 : ∀ r ∈ ms, r.length ≤ 50) (h1 : 1 ≤ len) (h2 : len ≤ 10) (h3 : 2 ≤ times) (h4 : times ≤ 4) (ok : SpOk l) (hd : DrN (f + 2) d) (h : ∀ e, EndT f c0 e → De.nx e) :
    t_law_r18 De [c0, some d, c2, some (.lst false (l.map spD)), c4, c5, some (.int newest), some (.lst true (l.map spD)), some (.lst o (hh.map spD)), some (.lst true (ms.map lsF)), c10, c11, c12, c13, c14, some (.int len), some (.int times), c17, c18, c19, c20, c21] W := by
  have lb := line_big
  have l2 : 2 ≤ sizeLine := by omega
  have ps := sps_sh l
  have pf := sps_fz l
  have pb := sps_ob l
  have hs := sps_sh hh
  have hf := sps_fz hh
  have hb := sps_ob hh
  have q1 := lss_sh ms
  have q2 := lss_fz ms
  have q3 := lss_ob ms
  have fs := fun Q => fSorted_sp (o := false) (l := hh) (Q := Q)
  have s1 := sps_sh (srtS hh)
  have s2 := sps_fz (srtS hh)
  have s3 := sps_ob (srtS hh)
  have s4 := sps_py (srtS hh)
  have s5 := sps_al (srtS hh)
  have q4 := lss_py ms
  obtain ⟨i1, i2, i3⟩ := sps_eq false false l
  have sl : (srtS hh).length ≤ 50 := by rw [(srtS_perm hh).length_eq]; exact okh.len
  have d1' := lss_depB (o := false) ms
  have d2' := sps_depB (o := false) (srtS hh)
  have n1 := lss_lenB (o := false) (L := ms) (by omega) fun r hr => by have := m2 r hr; omega
  have n2 := sps_lenB (o := false) (l := srtS hh) (by omega)
  have key : ∀ R RE, (∀ e, R (.tup [.lst false (ms.map lsF), .lst true ((srtS hh).map spD)]) e) → S_settled [.lst false (l.map spD), .int len, .int times, .int newest] R RE := fun R RE hR => ⟨l, len, times, newest, rfl, ok, h1, by omega, h3, h4, by rw [eR]; exact hR⟩
  have key2 : ∀ R RE, (∀ e, R (.lst true []) e) → S_law_lots [.lst false (hh.map spD)] R RE := fun R RE hR => ⟨hh, rfl, okh, by rw [hp]; exact hR⟩
  have go := fun c8 => lw17 (De := De) (W := W) (newest := newest) (c2 := c2) (c4 := c4) (c5 := c5) (c7 := some (.lst true (l.map spD))) (c8 := c8) (c9 := some (.lst true (ms.map lsF))) (c10 := c10) (c11 := c11) (c12 := c12) (c13 := c13) (c14 := c14) (c17 := c17) (c18 := c18) (c19 := c19) (c20 := c20) (c21 := c21) h1 h2 h3 h4 ok hd h
  generalize hX : l.map spD = X at *
  generalize ms.map lsF = M at *
  generalize (srtS hh).map spD = Y at *
  generalize hh.map spD = HX at *
  unfold t_law_r18
  cases o
  all_goals
    simp [sTryMany, clD, dTk, sRaise, sTryAs, sTry, dAt, flat, fIadd, dVar, dC, dNil, dCons, dFn, d2, d1, dLst, dTup, dLstV, dTupV, dTest, dTru, dNot, dAnd, dOr, dIf, dAndV, dOrV, dNotV, dChain, sNext, sSeq, sBreak, sCont, sDrop, sRet, sRetN, sIf, sAsg, gNm, gTupD, gTupD.go, sPar, dCall, T.vw, T.tk, vws, tks, Pd.resT, T.stay, isSh, isShs, noOb, noObs, noAl, noAls, fz, fzs, owp, ow, D.subs, D.sub, D.put1, D.puts, fAdd, fII, fII0, fMul, fI, fIB, fOrd, fEqG, fIsN, fLen, fInt, fAbs, fSubB, fIsi, tyD, isiB, exOf, retD, T.mv, mask, startD, plAt, plPut, ixD, dIx, ixE, ixS, truD, strOk, ps, pf, pb]
    refine key _ _ fun e => ?_
    simp [sTryMany, clD, dTk, sRaise, sTryAs, sTry, dAt, flat, fIadd, dVar, dC, dNil, dCons, dFn, d2, d1, dLst, dTup, dLstV, dTupV, dTest, dTru, dNot, dAnd, dOr, dIf, dAndV, dOrV, dNotV, dChain, sNext, sSeq, sBreak, sCont, sDrop, sRet, sRetN, sIf, sAsg, gNm, gTupD, gTupD.go, sPar, dCall, T.vw, T.tk, vws, tks, Pd.resT, T.stay, isSh, isShs, noOb, noObs, noAl, noAls, fz, fzs, owp, ow, D.subs, D.sub, D.put1, D.puts, fAdd, fII, fII0, fMul, fI, fIB, fOrd, fEqG, fIsN, fLen, fInt, fAbs, fSubB, fIsi, tyD, isiB, exOf, retD, T.mv, mask, startD, plAt, plPut, ixD, dIx, ixE, ixS, truD, strOk, hs, hf, hb, q1, q2, q3, fs, s1, s2, s3, s5, l2]
    refine same_ok (n := 7) rfl (by simp [isSh, isShs, q1, s1]) (by simp [isSh, isShs, q1, s1]) (by simp [pyOk, pyOks, q4, s4]) (by simp [pyOk, pyOks, q4, s4]) (Nat.le_trans (tup2_dep (n := 2) d1' d2') (by decide)) (tup2_len n1 n2) fun e => ?_
    simp [sTryMany, clD, dTk, sRaise, sTryAs, sTry, dAt, flat, fIadd, dVar, dC, dNil, dCons, dFn, d2, d1, dLst, dTup, dLstV, dTupV, dTest, dTru, dNot, dAnd, dOr, dIf, dAndV, dOrV, dNotV, dChain, sNext, sSeq, sBreak, sCont, sDrop, sRet, sRetN, sIf, sAsg, gNm, gTupD, gTupD.go, sPar, dCall, T.vw, T.tk, vws, tks, Pd.resT, T.stay, isSh, isShs, noOb, noObs, noAl, noAls, fz, fzs, owp, ow, D.subs, D.sub, D.put1, D.puts, fAdd, fII, fII0, fMul, fI, fIB, fOrd, fEqG, fIsN, fLen, fInt, fAbs, fSubB, fIsi, tyD, isiB, exOf, retD, T.mv, mask, startD, plAt, plPut, ixD, dIx, ixE, ixS, truD, strOk, ps, pf, pb, hs, hf, hb, i1, i2, i3]
    refine key2 _ _ fun e => ?_
    simp [sTryMany, clD, dTk, sRaise, sTryAs, sTry, dAt, flat, fIadd, dVar, dC, dNil, dCons, dFn, d2, d1, dLst, dTup, dLstV, dTupV, dTest, dTru, dNot, dAnd, dOr, dIf, dAndV, dOrV, dNotV, dChain, sNext, sSeq, sBreak, sCont, sDrop, sRet, sRetN, sIf, sAsg, gNm, gTupD, gTupD.go, sPar, dCall, T.vw, T.tk, vws, tks, Pd.resT, T.stay, isSh, isShs, noOb, noObs, noAl, noAls, fz, fzs, owp, ow, D.subs, D.sub, D.put1, D.puts, fAdd, fII, fII0, fMul, fI, fIB, fOrd, fEqG, fIsN, fLen, fInt, fAbs, fSubB, fIsi, tyD, isiB, exOf, retD, T.mv, mask, startD, plAt, plPut, ixD, dIx, ixE, ixS, truD, strOk, anySeq]
    exact go _

theorem lw9 {hh : List Sp} {ms : List (List Int)} {fo : Int} (okh : SpOk hh) (m1 : ms.length ≤ 50) (h1 : 1 ≤ len) (h2 : len ≤ 10) (h3 : 2 ≤ times) (h4 : times ≤ 4)
    (hA : planR hh len times newest = [] → ∀ c19, De.nx [c0, some d, c2, some (.lst false (l.map spD)), c4, c5, some (.int newest), c7, some (.lst false (hh.map spD)), some (.lst true (ms.map lsF)), some (.int fo), c11, c12, c13, c14, some (.int len), some (.int times), c17, c18, c19, c20, c21])
    (hB : planR hh len times newest ≠ [] → ∀ c19 c21, De.nx [c0, some d, c2, some (.lst false (l.map spD)), c4, c5, some (.int newest), c7, some (.lst true ((merged hh (planR hh len times newest) fo).map spD)), some (.lst true ((ms ++ [planR hh len times newest]).map lsF)), some (.int (fo + 1)), c11, c12, c13, c14, some (.int len), some (.int times), c17, c18, c19, c20, c21]) :
    t_law_9 De [c0, some d, c2, some (.lst false (l.map spD)), c4, c5, some (.int newest), c7, some (.lst o (hh.map spD)), some (.lst true (ms.map lsF)), some (.int fo), c11, c12, c13, c14, some (.int len), some (.int times), c17, c18, c19, c20, c21] W := by
  have lb := line_big
  have l3 : 3 ≤ sizeLine := by omega
  have l1 : 1 ≤ sizeLine := by omega
  have hs := sps_sh hh
  have hf := sps_fz hh
  have hb := sps_ob hh
  have ll := okh.len
  have x0 : ∀ s, ixE (spD s) (.int 0) = some (.int s.1) := fun _ => rfl
  have x1 : ∀ s, ixE (spD s) (.int 1) = some (.int (fst s)) := fun _ => rfl
  have x2 : ∀ s, ixE (spD s) (.int 2) = some (.int (lst s)) := fun _ => rfl
  have so : ∀ s, strOk (spD s) := fun _ => trivial
  have key : ∀ R RE, (∀ o e, R (.lst o ((planR hh len times newest).map D.int)) e) → S_law_plan [.lst false (hh.map spD), .int len, .int times, .int newest] R RE := fun R RE hR => ⟨hh, len, times, newest, rfl, okh, h1, by omega, h3, h4, hR⟩
  have po := plan_ok okh (len := len) (times := times) (newest := newest)
  generalize planR hh len times newest = r at *
  have go : ∀ o2, t_law_r8 De [c0, some d, c2, some (.lst false (l.map spD)), c4, c5, some (.int newest), c7, some (.lst false (hh.map spD)), some (.lst true (ms.map lsF)), some (.int fo), c11, c12, c13, c14, some (.int len), some (.int times), c17, c18, some (.lst o2 (r.map D.int)), c20, c21] W := by
    intro o2
    have i1 := ints_sh r
    have i2 := ints_fz r
    have i3 := ints_ob r
    have rl : (r.map D.int).length = r.length := List.length_map _
    unfold t_law_r8
    by_cases r0 : r = []
    · have := hA r0
      subst r0
      cases o2
      all_goals
        simp [sTryMany, clD, dTk, sRaise, sTryAs, sTry, dAt, flat, fIadd, dVar, dC, dNil, dCons, dFn, d2, d1, dLst, dTup, dLstV, dTupV, dTest, dTru, dNot, dAnd, dOr, dIf, dAndV, dOrV, dNotV, dChain, sNext, sSeq, sBreak, sCont, sDrop, sRet, sRetN, sIf, sAsg, gNm, gTupD, gTupD.go, sPar, dCall, T.vw, T.tk, vws, tks, Pd.resT, T.stay, isSh, isShs, noOb, noObs, noAl, noAls, fz, fzs, owp, D.subs, D.put1, D.puts, fAdd, fII, fII0, fMul, fI, fIB, fOrd, fEqG, fLen, fInt, fAbs, fSubB, fIsi, isiB, exOf, retD, T.mv, mask, startD, plAt, plPut, ixD, dIx, truD, anySeq]
        exact this _
    · have po := po.resolve_left r0
      have tne := taken_ne okh.num po
      have tl : (taken hh r).length ≤ hh.length := List.length_filter_le _ _
      have lfl : (left hh r).length ≤ hh.length := List.length_filter_le _ _
      have rn : 0 < r.length := List.length_pos_iff.mpr r0
      have rn' : (0 : Int) < (r.length : Int) := by omega
      have hB := hB r0
      have inn : ∀ (g : Bool → Bool) (o : Bool) (i : Int) Q, fInA g [.int i, .lst o (r.map D.int)] Q ↔ Q (.bl (g (decide (i ∈ r)))) := fun g o i Q => in_nums
      have er : lsF r = .lst false (r.map D.int) := rfl
      rw [List.map_append, List.map_singleton, er] at hB
      have msl : (ms.map lsF).length < sizeLine := by rw [List.length_map]; omega
      generalize ms.map lsF = MX at *
      generalize r.map D.int = RD at *
      have hin : ∀ (o2 : Bool), lcD [12] (gNm 12) (dTest (dFn (fInA id) (d2 false (dIx false (dVar 12) (dC (.int 0))) (dVar 19)))) (dVar 12) = lcD [12] (gNm 12) (dTest (dFn (fInA id) (d2 false (dIx false (dVar 12) (dC (.int 0))) (dVar 19)))) (dVar 12) := fun _ => rfl
      cases o2
      all_goals
        simp [sTryMany, clD, dTk, sRaise, sTryAs, sTry, dAt, flat, fIadd, dVar, dC, dNil, dCons, dFn, d2, d1, dLst, dTup, dLstV, dTupV, dTest, dTru, dNot, dAnd, dOr, dIf, dAndV, dOrV, dNotV, dChain, sNext, sSeq, sBreak, sCont, sDrop, sRet, sRetN, sIf, sAsg, gNm, gTupD, gTupD.go, sPar, dCall, T.vw, T.tk, vws, tks, Pd.resT, T.stay, isSh, isShs, noOb, noObs, noAl, noAls, fz, fzs, owp, D.subs, D.put1, D.puts, fAdd, fII, fII0, fMul, fI, fIB, fOrd, fEqG, fLen, fInt, fAbs, fSubB, fIsi, isiB, exOf, retD, T.mv, mask, startD, plAt, plPut, ixD, dIx, truD, anySeq, rn, rn', rl, i1, i2, i3, dLc, itemsD, wipeD, unw, hs, hf, hb]
        refine lcD_fm (h := spD) (p := fun s => decide (s.1 ∈ r)) (f := spD) rfl (by simp; omega) (fun s hs' K hK => ?_) (fun s hs' hp K hK => ?_) ?_
        · simp [sTryMany, clD, dTk, sRaise, sTryAs, sTry, dAt, flat, fIadd, dVar, dC, dNil, dCons, dFn, d2, d1, dLst, dTup, dLstV, dTupV, dTest, dTru, dNot, dAnd, dOr, dIf, dAndV, dOrV, dNotV, dChain, sNext, sSeq, sBreak, sCont, sDrop, sRet, sRetN, sIf, sAsg, gNm, gTupD, gTupD.go, sPar, dCall, T.vw, T.tk, vws, tks, Pd.resT, T.stay, isSh, isShs, noOb, noObs, noAl, noAls, fz, fzs, owp, D.subs, D.put1, D.puts, fAdd, fII, fII0, fMul, fI, fIB, fOrd, fEqG, fLen, fInt, fAbs, fSubB, fIsi, isiB, exOf, retD, T.mv, mask, startD, plAt, plPut, ixD, dIx, truD, so, x0, i1, i2, i3, inn]
          exact hK
        · simp [sTryMany, clD, dTk, sRaise, sTryAs, sTry, dAt, flat, fIadd, dVar, dC, dNil, dCons, dFn, d2, d1, dLst, dTup, dLstV, dTupV, dTest, dTru, dNot, dAnd, dOr, dIf, dAndV, dOrV, dNotV, dChain, sNext, sSeq, sBreak, sCont, sDrop, sRet, sRetN, sIf, sAsg, gNm, gTupD, gTupD.go, sPar, dCall, T.vw, T.tk, vws, tks, Pd.resT, T.stay, isSh, isShs, noOb, noObs, noAl, noAls, fz, fzs, owp, D.subs, D.put1, D.puts, fAdd, fII, fII0, fMul, fI, fIB, fOrd, fEqG, fLen, fInt, fAbs, fSubB, fIsi, isiB, exOf, retD, T.mv, mask, startD, plAt, plPut, ixD, dIx, truD]
          exact hK _ rfl
        have et : (hh.filter fun s => decide (s.1 ∈ r)).map spD = (taken hh r).map spD := rfl
        rw [List.nil_append, et]
        have t1 := sps_sh (taken hh r)
        have t2 := sps_fz (taken hh r)
        have t3 := sps_ob (taken hh r)
        simp [sTryMany, clD, dTk, sRaise, sTryAs, sTry, dAt, flat, fIadd, dVar, dC, dNil, dCons, dFn, d2, d1, dLst, dTup, dLstV, dTupV, dTest, dTru, dNot, dAnd, dOr, dIf, dAndV, dOrV, dNotV, dChain, sNext, sSeq, sBreak, sCont, sDrop, sRet, sRetN, sIf, sAsg, gNm, gTupD, gTupD.go, sPar, dCall, T.vw, T.tk, vws, tks, Pd.resT, T.stay, isSh, isShs, noOb, noObs, noAl, noAls, fz, fzs, owp, D.subs, D.put1, D.puts, fAdd, fII, fII0, fMul, fI, fIB, fOrd, fEqG, fLen, fInt, fAbs, fSubB, fIsi, isiB, exOf, retD, T.mv, mask, startD, plAt, plPut, ixD, dIx, truD, unw]
        unfold t_law_r7
        simp [sTryMany, clD, dTk, sRaise, sTryAs, sTry, dAt, flat, fIadd, dVar, dC, dNil, dCons, dFn, d2, d1, dLst, dTup, dLstV, dTupV, dTest, dTru, dNot, dAnd, dOr, dIf, dAndV, dOrV, dNotV, dChain, sNext, sSeq, sBreak, sCont, sDrop, sRet, sRetN, sIf, sAsg, gNm, gTupD, gTupD.go, sPar, dCall, T.vw, T.tk, vws, tks, Pd.resT, T.stay, isSh, isShs, noOb, noObs, noAl, noAls, fz, fzs, owp, D.subs, D.put1, D.puts, fAdd, fII, fII0, fMul, fI, fIB, fOrd, fEqG, fLen, fInt, fAbs, fSubB, fIsi, isiB, exOf, retD, T.mv, mask, startD, plAt, plPut, ixD, dIx, truD, dLc, itemsD, wipeD, unw, hs, hf, hb]
        refine lcD_fm (h := spD) (p := fun s => !decide (s.1 ∈ r)) (f := spD) rfl (by simp; omega) (fun s hs' K hK => ?_) (fun s hs' hp K hK => ?_) ?_
        · simp [sTryMany, clD, dTk, sRaise, sTryAs, sTry, dAt, flat, fIadd, dVar, dC, dNil, dCons, dFn, d2, d1, dLst, dTup, dLstV, dTupV, dTest, dTru, dNot, dAnd, dOr, dIf, dAndV, dOrV, dNotV, dChain, sNext, sSeq, sBreak, sCont, sDrop, sRet, sRetN, sIf, sAsg, gNm, gTupD, gTupD.go, sPar, dCall, T.vw, T.tk, vws, tks, Pd.resT, T.stay, isSh, isShs, noOb, noObs, noAl, noAls, fz, fzs, owp, D.subs, D.put1, D.puts, fAdd, fII, fII0, fMul, fI, fIB, fOrd, fEqG, fLen, fInt, fAbs, fSubB, fIsi, isiB, exOf, retD, T.mv, mask, startD, plAt, plPut, ixD, dIx, truD, so, x0, i1, i2, i3, inn]
          simpa using hK
        · simp [sTryMany, clD, dTk, sRaise, sTryAs, sTry, dAt, flat, fIadd, dVar, dC, dNil, dCons, dFn, d2, d1, dLst, dTup, dLstV, dTupV, dTest, dTru, dNot, dAnd, dOr, dIf, dAndV, dOrV, dNotV, dChain, sNext, sSeq, sBreak, sCont, sDrop, sRet, sRetN, sIf, sAsg, gNm, gTupD, gTupD.go, sPar, dCall, T.vw, T.tk, vws, tks, Pd.resT, T.stay, isSh, isShs, noOb, noObs, noAl, noAls, fz, fzs, owp, D.subs, D.put1, D.puts, fAdd, fII, fII0, fMul, fI, fIB, fOrd, fEqG, fLen, fInt, fAbs, fSubB, fIsi, isiB, exOf, retD, T.mv, mask, startD, plAt, plPut, ixD, dIx, truD]
          exact hK _ rfl
        have el : (hh.filter fun s => !decide (s.1 ∈ r)).map spD = (left hh r).map spD := rfl
        rw [List.nil_append, el]
        have lfz : ((left hh r).map spD).length + 1 ≤ sizeLine := by rw [List.length_map]; omega
        have em : (merged hh r fo).map spD = (left hh r).map spD ++ [.tup [.int fo, .int (mn (firsts (taken hh r))), .int (mx (lasts (taken hh r)))]] := by
          unfold merged
          rw [List.map_append]; rfl
        rw [em] at hB
        have tf : 0 < (firsts (taken hh r)).length := by unfold firsts; rw [List.length_map]; exact List.length_pos_iff.mpr tne
        have tg : 0 < (lasts (taken hh r)).length := by unfold lasts; rw [List.length_map]; exact List.length_pos_iff.mpr tne
        have fmn := mn_use tf
        have fmx := mx_use tg
        have a1 := ints_sh (firsts (taken hh r))
        have a2 := ints_fz (firsts (taken hh r))
        have a3 := ints_ob (firsts (taken hh r))
        have b1 := ints_sh (lasts (taken hh r))
        have b2 := ints_fz (lasts (taken hh r))
        have b3 := ints_ob (lasts (taken hh r))
        have ea : ((taken hh r).map fun s : Sp => D.int (fst s)) = (firsts (taken hh r)).map D.int := by unfold firsts; rw [List.map_map]; rfl
        have eb : ((taken hh r).map fun s : Sp => D.int (lst s)) = (lasts (taken hh r)).map D.int := by unfold lasts; rw [List.map_map]; rfl
        have v1 := sps_sh (left hh r)
        have v2 := sps_fz (left hh r)
        have v3 := sps_ob (left hh r)
        generalize (left hh r).map spD = LF at *
        generalize (firsts (taken hh r)).map D.int = FD at *
        generalize (lasts (taken hh r)).map D.int = LD at *
        dsimp only [List.set, List.getElem?_cons_succ, List.getElem?_cons_zero]
        simp [sTryMany, clD, dTk, sRaise, sTryAs, sTry, dAt, flat, fIadd, dVar, dC, dNil, dCons, dFn, d2, d1, dLst, dTup, dLstV, dTupV, dTest, dTru, dNot, dAnd, dOr, dIf, dAndV, dOrV, dNotV, dChain, sNext, sSeq, sBreak, sCont, sDrop, sRet, sRetN, sIf, sAsg, gNm, gTupD, gTupD.go, sPar, dCall, T.vw, T.tk, vws, tks, Pd.resT, T.stay, isSh, isShs, noOb, noObs, noAl, noAls, fz, fzs, owp, D.subs, D.put1, D.puts, fAdd, fII, fII0, fMul, fI, fIB, fOrd, fEqG, fLen, fInt, fAbs, fSubB, fIsi, isiB, exOf, retD, T.mv, mask, startD, plAt, plPut, ixD, dIx, truD, dLc, itemsD, wipeD, unw, t1, t2, t3]
        refine lcD_map (h := spD) (f := fun s => .int (fst s)) rfl (by omega) (fun s hs' K hK => ?_) ?_
        · simp [sTryMany, clD, dTk, sRaise, sTryAs, sTry, dAt, flat, fIadd, dVar, dC, dNil, dCons, dFn, d2, d1, dLst, dTup, dLstV, dTupV, dTest, dTru, dNot, dAnd, dOr, dIf, dAndV, dOrV, dNotV, dChain, sNext, sSeq, sBreak, sCont, sDrop, sRet, sRetN, sIf, sAsg, gNm, gTupD, gTupD.go, sPar, dCall, T.vw, T.tk, vws, tks, Pd.resT, T.stay, isSh, isShs, noOb, noObs, noAl, noAls, fz, fzs, owp, D.subs, D.put1, D.puts, fAdd, fII, fII0, fMul, fI, fIB, fOrd, fEqG, fLen, fInt, fAbs, fSubB, fIsi, isiB, exOf, retD, T.mv, mask, startD, plAt, plPut, ixD, dIx, truD, so, x1]
          exact hK _ rfl
        rw [ea]
        simp [sTryMany, clD, dTk, sRaise, sTryAs, sTry, dAt, flat, fIadd, dVar, dC, dNil, dCons, dFn, d2, d1, dLst, dTup, dLstV, dTupV, dTest, dTru, dNot, dAnd, dOr, dIf, dAndV, dOrV, dNotV, dChain, sNext, sSeq, sBreak, sCont, sDrop, sRet, sRetN, sIf, sAsg, gNm, gTupD, gTupD.go, sPar, dCall, T.vw, T.tk, vws, tks, Pd.resT, T.stay, isSh, isShs, noOb, noObs, noAl, noAls, fz, fzs, owp, D.subs, D.put1, D.puts, fAdd, fII, fII0, fMul, fI, fIB, fOrd, fEqG, fLen, fInt, fAbs, fSubB, fIsi, isiB, exOf, retD, T.mv, mask, startD, plAt, plPut, ixD, dIx, truD, a1, a2, a3, wipeD, unw]
        refine fmn _ _ ?_
        refine lcD_map (h := spD) (f := fun s => .int (lst s)) rfl (by omega) (fun s hs' K hK => ?_) ?_
        · simp [sTryMany, clD, dTk, sRaise, sTryAs, sTry, dAt, flat, fIadd, dVar, dC, dNil, dCons, dFn, d2, d1, dLst, dTup, dLstV, dTupV, dTest, dTru, dNot, dAnd, dOr, dIf, dAndV, dOrV, dNotV, dChain, sNext, sSeq, sBreak, sCont, sDrop, sRet, sRetN, sIf, sAsg, gNm, gTupD, gTupD.go, sPar, dCall, T.vw, T.tk, vws, tks, Pd.resT, T.stay, isSh, isShs, noOb, noObs, noAl, noAls, fz, fzs, owp, D.subs, D.put1, D.puts, fAdd, fII, fII0, fMul, fI, fIB, fOrd, fEqG, fLen, fInt, fAbs, fSubB, fIsi, isiB, exOf, retD, T.mv, mask, startD, plAt, plPut, ixD, dIx, truD, so, x2]
          exact hK _ rfl
        rw [eb]
        simp [sTryMany, clD, dTk, sRaise, sTryAs, sTry, dAt, flat, fIadd, dVar, dC, dNil, dCons, dFn, d2, d1, dLst, dTup, dLstV, dTupV, dTest, dTru, dNot, dAnd, dOr, dIf, dAndV, dOrV, dNotV, dChain, sNext, sSeq, sBreak, sCont, sDrop, sRet, sRetN, sIf, sAsg, gNm, gTupD, gTupD.go, sPar, dCall, T.vw, T.tk, vws, tks, Pd.resT, T.stay, isSh, isShs, noOb, noObs, noAl, noAls, fz, fzs, owp, D.subs, D.put1, D.puts, fAdd, fII, fII0, fMul, fI, fIB, fOrd, fEqG, fLen, fInt, fAbs, fSubB, fIsi, isiB, exOf, retD, T.mv, mask, startD, plAt, plPut, ixD, dIx, truD, b1, b2, b3, wipeD, unw]
        refine fmx _ _ ?_
        simp [sTryMany, clD, dTk, sRaise, sTryAs, sTry, dAt, flat, fIadd, dVar, dC, dNil, dCons, dFn, d2, d1, dLst, dTup, dLstV, dTupV, dTest, dTru, dNot, dAnd, dOr, dIf, dAndV, dOrV, dNotV, dChain, sNext, sSeq, sBreak, sCont, sDrop, sRet, sRetN, sIf, sAsg, gNm, gTupD, gTupD.go, sPar, dCall, T.vw, T.tk, vws, tks, Pd.resT, T.stay, isSh, isShs, noOb, noObs, noAl, noAls, fz, fzs, owp, D.subs, D.put1, D.puts, fAdd, fII, fII0, fMul, fI, fIB, fOrd, fEqG, fLen, fInt, fAbs, fSubB, fIsi, isiB, exOf, retD, T.mv, mask, startD, plAt, plPut, ixD, dIx, truD, l3, l1, lfz, v1, v2, v3]
        unfold t_law_r6
        simp [sTryMany, clD, dTk, sRaise, sTryAs, sTry, dAt, flat, fIadd, dVar, dC, dNil, dCons, dFn, d2, d1, dLst, dTup, dLstV, dTupV, dTest, dTru, dNot, dAnd, dOr, dIf, dAndV, dOrV, dNotV, dChain, sNext, sSeq, sBreak, sCont, sDrop, sRet, sRetN, sIf, sAsg, gNm, gTupD, gTupD.go, sPar, dCall, T.vw, T.tk, vws, tks, Pd.resT, T.stay, isSh, isShs, noOb, noObs, noAl, noAls, fz, fzs, owp, D.subs, D.put1, D.puts, fAdd, fII, fII0, fMul, fI, fIB, fOrd, fEqG, fLen, fInt, fAbs, fSubB, fIsi, isiB, exOf, retD, T.mv, mask, startD, plAt, plPut, ixD, dIx, truD, dApp, i1, i2, i3, msl]
        unfold t_law_r5
        simp [sTryMany, clD, dTk, sRaise, sTryAs, sTry, dAt, flat, fIadd, dVar, dC, dNil, dCons, dFn, d2, d1, dLst, dTup, dLstV, dTupV, dTest, dTru, dNot, dAnd, dOr, dIf, dAndV, dOrV, dNotV, dChain, sNext, sSeq, sBreak, sCont, sDrop, sRet, sRetN, sIf, sAsg, gNm, gTupD, gTupD.go, sPar, dCall, T.vw, T.tk, vws, tks, Pd.resT, T.stay, isSh, isShs, noOb, noObs, noAl, noAls, fz, fzs, owp, D.subs, D.put1, D.puts, fAdd, fII, fII0, fMul, fI, fIB, fOrd, fEqG, fLen, fInt, fAbs, fSubB, fIsi, isiB, exOf, retD, T.mv, mask, startD, plAt, plPut, ixD, dIx, truD]
        exact hB _ _
  unfold t_law_9
  cases o
  all_goals
    simp [sTryMany, clD, dTk, sRaise, sTryAs, sTry, dAt, flat, fIadd, dVar, dC, dNil, dCons, dFn, d2, d1, dLst, dTup, dLstV, dTupV, dTest, dTru, dNot, dAnd, dOr, dIf, dAndV, dOrV, dNotV, dChain, sNext, sSeq, sBreak, sCont, sDrop, sRet, sRetN, sIf, sAsg, gNm, gTupD, gTupD.go, sPar, dCall, T.vw, T.tk, vws, tks, Pd.resT, T.stay, isSh, isShs, noOb, noObs, noAl, noAls, fz, fzs, owp, ow, D.subs, D.sub, D.put1, D.puts, fAdd, fII, fII0, fMul, fI, fIB, fOrd, fEqG, fIsN, fLen, fInt, fAbs, fSubB, fIsi, tyD, isiB, exOf, retD, T.mv, mask, startD, plAt, plPut, ixD, dIx, ixE, ixS, truD, strOk, hs, hf, hb]
    refine key _ _ fun o2 e => ?_
    exact go o2

theorem lw20 (l8 : l.length ≤ 8) (h1 : 1 ≤ len) (h2 : len ≤ 10) (h3 : 2 ≤ times) (h4 : times ≤ 4) (ok : SpOk l) (hd : DrN (f + 2) d) (h : ∀ e, EndT f c0 e → De.nx e) :
    t_law_r20 De [c0, some d, c2, some (.lst true (l.map spD)), c4, c5, some (.int newest), some (.lst true (l.map spD)), some (.lst true (l.map spD)), some (.lst true []), c10, c11, c12, c13, c14, some (.int len), some (.int times), c17, c18, c19, c20, c21] W := by
  have lb := line_big
  have l1 : 1 ≤ sizeLine := by omega
  have ps := sps_sh l
  have pf := sps_fz l
  have pb := sps_ob l
  have ll := ok.len
  have x0 : ∀ s, ixE (spD s) (.int 0) = some (.int s.1) := fun _ => rfl
  have so : ∀ s, strOk (spD s) := fun _ => trivial
  obtain ⟨f1, f2⟩ := fol_ok ok
  have more := setG_more (len := len) (times := times) (newest := newest) (k := 20) (m := 50) (ms := []) ok f1 f2 (by omega) (by omega)
  obtain ⟨RES, hRES⟩ : ∃ RES, setG len times newest 20 l (mx (nums l ++ [-1]) + 1) [] = RES := ⟨_, rfl⟩
  rw [hRES] at more
  obtain ⟨e50, pl, okR⟩ := more
  have lots0 : lotsR RES.2 = [] := by
    cases hq : lotsR RES.2 with
    | nil => rfl
    | cons a t =>
      have pa := lots_ok okR (r := a) (by rw [hq]; exact List.mem_cons_self)
      unfold planR at pl
      rw [hq] at pl
      have := pa.two
      have pl : a = [] := pl
      rw [pl] at this
      simp at this
  unfold t_law_r20
  simp [sTryMany, clD, dTk, sRaise, sTryAs, sTry, dAt, flat, fIadd, dVar, dC, dNil, dCons, dFn, d2, d1, dLst, dTup, dLstV, dTupV, dTest, dTru, dNot, dAnd, dOr, dIf, dAndV, dOrV, dNotV, dChain, sNext, sSeq, sBreak, sCont, sDrop, sRet, sRetN, sIf, sAsg, gNm, gTupD, gTupD.go, sPar, dCall, T.vw, T.tk, vws, tks, Pd.resT, T.stay, isSh, isShs, noOb, noObs, noAl, noAls, fz, fzs, owp, D.subs, D.put1, D.puts, fAdd, fII, fII0, fMul, fI, fIB, fOrd, fEqG, fLen, fInt, fAbs, fSubB, fIsi, isiB, exOf, retD, T.mv, mask, startD, plAt, plPut, ixD, dIx, truD, dLc, itemsD, wipeD, unw, ps, pf, pb]
  refine lcD_map (h := spD) (f := fun s => .int s.1) rfl (by omega) (fun s hs' K hK => ?_) ?_
  · simp [sTryMany, clD, dTk, sRaise, sTryAs, sTry, dAt, flat, fIadd, dVar, dC, dNil, dCons, dFn, d2, d1, dLst, dTup, dLstV, dTupV, dTest, dTru, dNot, dAnd, dOr, dIf, dAndV, dOrV, dNotV, dChain, sNext, sSeq, sBreak, sCont, sDrop, sRet, sRetN, sIf, sAsg, gNm, gTupD, gTupD.go, sPar, dCall, T.vw, T.tk, vws, tks, Pd.resT, T.stay, isSh, isShs, noOb, noObs, noAl, noAls, fz, fzs, owp, D.subs, D.put1, D.puts, fAdd, fII, fII0, fMul, fI, fIB, fOrd, fEqG, fLen, fInt, fAbs, fSubB, fIsi, isiB, exOf, retD, T.mv, mask, startD, plAt, plPut, ixD, dIx, truD, so, x0]
    exact hK _ rfl
  have e1 : (l.map fun s : Sp => D.int s.1) = (nums l).map D.int := by unfold nums; rw [List.map_map]; rfl
  have e2 : (nums l ++ [-1]).map D.int = (nums l).map D.int ++ [.int (-1)] := by rw [List.map_append]; rfl
  rw [e1]
  have fmx := mx_use (l := nums l ++ [-1]) (by simp)
  rw [e2] at fmx
  have j1 := ints_sh (nums l)
  have j2 := ints_fz (nums l)
  have j3 := ints_ob (nums l)
  have j4 : ((nums l).map D.int).length + 1 ≤ sizeLine := by rw [List.length_map, nums, List.length_map]; omega
  have k1 : isShs ((nums l).map D.int ++ [.int (-1)]) = true := by rw [← e2]; exact ints_sh _
  have k2 : fzs ((nums l).map D.int ++ [.int (-1)]) = (nums l).map D.int ++ [.int (-1)] := by rw [← e2]; exact ints_fz _
  have k3 : noObs ((nums l).map D.int ++ [.int (-1)]) = true := by rw [← e2]; exact ints_ob _
  generalize (nums l).map D.int = X at *
  simp [sTryMany, clD, dTk, sRaise, sTryAs, sTry, dAt, flat, fIadd, dVar, dC, dNil, dCons, dFn, d2, d1, dLst, dTup, dLstV, dTupV, dTest, dTru, dNot, dAnd, dOr, dIf, dAndV, dOrV, dNotV, dChain, sNext, sSeq, sBreak, sCont, sDrop, sRet, sRetN, sIf, sAsg, gNm, gTupD, gTupD.go, sPar, dCall, T.vw, T.tk, vws, tks, Pd.resT, T.stay, isSh, isShs, noOb, noObs, noAl, noAls, fz, fzs, owp, D.subs, D.put1, D.puts, fAdd, fII, fII0, fMul, fI, fIB, fOrd, fEqG, fLen, fInt, fAbs, fSubB, fIsi, isiB, exOf, retD, T.mv, mask, startD, plAt, plPut, ixD, dIx, truD, j1, j2, j3, j4, l1, k1, k2, k3, wipeD, unw]
  refine fmx _ _ ?_
  simp [sTryMany, clD, dTk, sRaise, sTryAs, sTry, dAt, flat, fIadd, dVar, dC, dNil, dCons, dFn, d2, d1, dLst, dTup, dLstV, dTupV, dTest, dTru, dNot, dAnd, dOr, dIf, dAndV, dOrV, dNotV, dChain, sNext, sSeq, sBreak, sCont, sDrop, sRet, sRetN, sIf, sAsg, gNm, gTupD, gTupD.go, sPar, dCall, T.vw, T.tk, vws, tks, Pd.resT, T.stay, isSh, isShs, noOb, noObs, noAl, noAls, fz, fzs, owp, D.subs, D.put1, D.puts, fAdd, fII, fII0, fMul, fI, fIB, fOrd, fEqG, fLen, fInt, fAbs, fSubB, fIsi, isiB, exOf, retD, T.mv, mask, startD, plAt, plPut, ixD, dIx, truD]
  unfold t_law_r19
  simp [sTryMany, clD, dTk, sRaise, sTryAs, sTry, dAt, flat, fIadd, dVar, dC, dNil, dCons, dFn, d2, d1, dLst, dTup, dLstV, dTupV, dTest, dTru, dNot, dAnd, dOr, dIf, dAndV, dOrV, dNotV, dChain, sNext, sSeq, sBreak, sCont, sDrop, sRet, sRetN, sIf, sAsg, gNm, gTupD, gTupD.go, sPar, dCall, T.vw, T.tk, vws, tks, Pd.resT, T.stay, isSh, isShs, noOb, noObs, noAl, noAls, fz, fzs, owp, ow, D.subs, D.sub, D.put1, D.puts, fAdd, fII, fII0, fMul, fI, fIB, fOrd, fEqG, fIsN, fLen, fInt, fAbs, fSubB, fIsi, tyD, isiB, exOf, retD, T.mv, mask, startD, plAt, plPut, ixD, dIx, ixE, ixS, truD, strOk, sForR1]
  rw [show (20 : Int) = ((20 : Nat) : Int) from rfl, rangeD_eq]
  refine forD_inv (fun j e => j ≤ 20 → ∃ (hh : List Sp) (ms : List (List Int)) (fo : Int) (o : Bool) (c11 c12 c19 c21 : Option D), e = [c0, some d, c2, some (.lst false (l.map spD)), c4, c5, some (.int newest), some (.lst true (l.map spD)), some (.lst o (hh.map spD)), some (.lst true (ms.map lsF)), some (.int fo), c11, c12, c13, c14, some (.int len), some (.int times), c17, c18, c19, c20, c21] ∧ SpOk hh ∧ (∀ s ∈ hh, s.1 < fo) ∧ 0 ≤ fo ∧ ms.length ≤ j ∧ (∀ r ∈ ms, r.length ≤ 50) ∧ setG len times newest (20 - j) hh fo ms = RES) (k := 0) (fun _ => ⟨l, [], _, true, c11, c12, c19, c21, rfl, ok, f1, f2, by simp, by simp, hRES⟩) ?_ ?_
  · intro j i e hj hI next hnx
    obtain ⟨hjl, ek⟩ := List.getElem?_eq_some_iff.mp hj
    rw [List.length_range] at hjl
    rw [Nat.zero_add] at hI hnx
    obtain ⟨hh, ms, fo, o, c11, c12, c19, c21, rfl, okh, g1, g2, g3, g4, g5⟩ := hI (by omega)
    obtain ⟨m, hm⟩ : ∃ m, 20 - j = m + 1 := ⟨20 - j - 1, by omega⟩
    have hm' : 20 - (j + 1) = m := by omega
    rw [hm] at g5
    unfold setG at g5
    refine lw9 okh (by omega) h1 h2 h3 h4 (fun pz c19 => hnx _ fun _ => ⟨hh, ms, fo, false, _, c12, c19, c21, rfl, okh, g1, g2, by omega, g4, ?_⟩) fun pz c19 c21 => hnx _ fun _ => ?_
    · rw [if_pos pz] at g5
      rw [hm']
      cases m with
      | zero => exact g5
      | succ m => unfold setG; rw [if_pos pz]; exact g5
    · rw [if_neg pz] at g5
      have po := (plan_ok okh (len := len) (times := times) (newest := newest)).resolve_left pz
      obtain ⟨mo, mf⟩ := merged_ok okh po g1 g2
      refine ⟨_, _, _, true, _, c12, c19, c21, rfl, mo, mf, by omega, by rw [List.length_append, List.length_singleton]; omega, fun r hr => ?_, by rw [hm']; exact g5⟩
      rcases List.mem_append.mp hr with hr | hr
      · exact g4 r hr
      · rw [List.mem_singleton.mp hr]
        have := plan_len okh.num po
        have := okh.len
        omega
  · intro e hI
    rw [Nat.zero_add, List.length_range] at hI
    obtain ⟨hh, ms, fo, o, c11, c12, c19, c21, rfl, okh, g1, g2, g3, g4, g5⟩ := hI (by omega)
    have g5 : (ms, hh) = RES := g5
    subst g5
    exact lw18 e50.symm okR lots0 (by omega) g4 h1 h2 h3 h4 ok hd h

theorem ints_al : ∀ l : List Int, noAls (l.map D.int) = true
  | [] => rfl
  | s :: l => by rw [List.map_cons, noAls, ints_al l]; rfl
theorem lots_len {l : List Sp} (ok : SpOk l) : (lotsR l).length ≤ 50 ∧ ∀ r ∈ lotsR l, r.length ≤ 50 := by
  have ll := ok.len
  refine ⟨?_, fun r hr => by have := plan_len ok.num (lots_ok ok hr); omega⟩
  obtain ⟨bp, bs⟩ := byFst_ok l
  have pp := parts_part bs fun x hx => (ok.ord x (bp.mem_iff.mp hx)).2
  have e : (lotsR l).length = ((parts (byFst l)).filter fun p => decide (1 < p.length)).length := by
    unfold lotsR canon
    rw [(List.mergeSort_perm _ _).length_eq, List.length_map]
  have n1 := List.length_filter_le (fun p : List Sp => decide (1 < p.length)) (parts (byFst l))
  have n2 : (parts (byFst l)).length ≤ (parts (byFst l)).flatten.length := by
    have ne : ∀ p ∈ parts (byFst l), p ≠ [] := fun p hm => (pp.con p hm).1
    generalize parts (byFst l) = F at ne
    clear pp e n1
    induction F with
    | nil => simp
    | cons p F ih =>
      have := ih fun q hq => ne q (List.mem_cons_of_mem _ hq)
      have := List.length_pos_iff.mpr (ne p List.mem_cons_self)
      rw [List.flatten_cons, List.length_append, List.length_cons]
      omega
  rw [pp.all.length_eq, bp.length_eq] at n2
  omega
theorem planR_len {l : List Sp} (ok : SpOk l) {len times newest : Int} : (planR l len times newest).length ≤ 50 := by
  have ll := ok.len
  rcases plan_ok ok (len := len) (times := times) (newest := newest) with e | e
  · rw [e]; simp
  · have := plan_len ok.num e; omega
theorem lw24 (l8 : l.length ≤ 8) (h1 : 1 ≤ len) (h2 : len ≤ 10) (h3 : 2 ≤ times) (h4 : times ≤ 4) (ok : SpOk l) (hd : DrN (f + 2) d) (h : ∀ e, EndT f c0 e → De.nx e) :
    t_law_r24 De [c0, some d, c2, some (.lst true (l.map spD)), c4, c5, some (.int newest), c7, c8, c9, c10, c11, c12, c13, c14, some (.int len), some (.int times), c17, c18, c19, c20, c21] W := by
  have lb := line_big
  have ps := sps_sh l
  have pf := sps_fz l
  have pb := sps_ob l
  obtain ⟨g1, g2⟩ := lots_len ok
  have g3 := planR_len ok (len := len) (times := times) (newest := newest)
  have q1 := lss_sh (lotsR l)
  have q2 := lss_fz (lotsR l)
  have q3 := lss_ob (lotsR l)
  have q4 := lss_py (lotsR l)
  have q5 := lss_depB (o := false) (lotsR l)
  have q6 := lss_lenB (o := false) (L := lotsR l) (by omega) fun r hr => by have := g2 r hr; omega
  have r1 := ints_sh (planR l len times newest)
  have r2 := ints_fz (planR l len times newest)
  have r3 := ints_ob (planR l len times newest)
  have r4 := ints_py (planR l len times newest)
  have r5 := lsF_dep (planR l len times newest)
  have r6 := ls_lenB (l := planR l len times newest) (by omega)
  have kb : ∀ R RE, (∀ e, R .non e) → S_law_bad [.lst false (l.map spD)] R RE := fun R RE h => .inl ⟨l, rfl, ok, h⟩
  have ko : ∀ R RE, (∀ e, R (.lst true ((lotsR l).map lsF)) e) → S_overlapping [.lst false (l.map spD)] R RE := fun R RE h => ⟨l, rfl, ok, h⟩
  have kl : ∀ R RE, (∀ e, R (.lst true ((lotsR l).map lsF)) e) → S_law_lots [.lst false (l.map spD)] R RE := fun R RE h => ⟨l, rfl, ok, h⟩
  have kp : ∀ R RE, (∀ o e, R (.lst o ((planR l len times newest).map D.int)) e) → S_plan [.lst false (l.map spD), .int len, .int times, .int newest] R RE := fun R RE h => ⟨l, len, times, newest, rfl, ok, h1, by omega, h3, h4, h⟩
  have kq : ∀ R RE, (∀ o e, R (.lst o ((planR l len times newest).map D.int)) e) → S_law_plan [.lst false (l.map spD), .int len, .int times, .int newest] R RE := fun R RE h => ⟨l, len, times, newest, rfl, ok, h1, by omega, h3, h4, h⟩
  have go := lw20 (De := De) (W := W) (newest := newest) (c2 := c2) (c4 := c4) (c5 := c5) (c10 := c10) (c11 := c11) (c12 := c12) (c13 := c13) (c14 := c14) (c17 := c17) (c18 := c18) (c19 := c19) (c20 := c20) (c21 := c21) l8 h1 h2 h3 h4 ok hd h
  unfold lsF at r5 r6
  generalize hPL : (planR l len times newest).map D.int = PL at *
  generalize (lotsR l).map lsF = LL at *
  generalize hX : l.map spD = X at *
  have pa : noAls X = true := by rw [← hX]; exact sps_al l
  have ra : noAls PL = true := by rw [← hPL]; exact ints_al _
  unfold t_law_r24
  simp [sTryMany, clD, dTk, sRaise, sTryAs, sTry, dAt, flat, fIadd, dVar, dC, dNil, dCons, dFn, d2, d1, dLst, dTup, dLstV, dTupV, dTest, dTru, dNot, dAnd, dOr, dIf, dAndV, dOrV, dNotV, dChain, sNext, sSeq, sBreak, sCont, sDrop, sRet, sRetN, sIf, sAsg, gNm, gTupD, gTupD.go, sPar, dCall, T.vw, T.tk, vws, tks, Pd.resT, T.stay, isSh, isShs, noOb, noObs, noAl, noAls, fz, fzs, owp, ow, D.subs, D.sub, D.put1, D.puts, fAdd, fII, fII0, fMul, fI, fIB, fOrd, fEqG, fIsN, fLen, fInt, fAbs, fSubB, fIsi, tyD, isiB, exOf, retD, T.mv, mask, startD, plAt, plPut, ixD, dIx, ixE, ixS, truD, strOk, fListOf, anySeq, ps, pf, pb, pa]
  unfold t_law_r23
  cases hn : noAls LL
  all_goals
    simp [sTryMany, clD, dTk, sRaise, sTryAs, sTry, dAt, flat, fIadd, dVar, dC, dNil, dCons, dFn, d2, d1, dLst, dTup, dLstV, dTupV, dTest, dTru, dNot, dAnd, dOr, dIf, dAndV, dOrV, dNotV, dChain, sNext, sSeq, sBreak, sCont, sDrop, sRet, sRetN, sIf, sAsg, gNm, gTupD, gTupD.go, sPar, dCall, T.vw, T.tk, vws, tks, Pd.resT, T.stay, isSh, isShs, noOb, noObs, noAl, noAls, fz, fzs, owp, ow, D.subs, D.sub, D.put1, D.puts, fAdd, fII, fII0, fMul, fI, fIB, fOrd, fEqG, fIsN, fLen, fInt, fAbs, fSubB, fIsi, tyD, isiB, exOf, retD, T.mv, mask, startD, plAt, plPut, ixD, dIx, ixE, ixS, truD, strOk, ps, pf, pb, pa]
    refine kb _ _ fun e => ?_
    simp [sTryMany, clD, dTk, sRaise, sTryAs, sTry, dAt, flat, fIadd, dVar, dC, dNil, dCons, dFn, d2, d1, dLst, dTup, dLstV, dTupV, dTest, dTru, dNot, dAnd, dOr, dIf, dAndV, dOrV, dNotV, dChain, sNext, sSeq, sBreak, sCont, sDrop, sRet, sRetN, sIf, sAsg, gNm, gTupD, gTupD.go, sPar, dCall, T.vw, T.tk, vws, tks, Pd.resT, T.stay, isSh, isShs, noOb, noObs, noAl, noAls, fz, fzs, owp, ow, D.subs, D.sub, D.put1, D.puts, fAdd, fII, fII0, fMul, fI, fIB, fOrd, fEqG, fIsN, fLen, fInt, fAbs, fSubB, fIsi, tyD, isiB, exOf, retD, T.mv, mask, startD, plAt, plPut, ixD, dIx, ixE, ixS, truD, strOk, ps, pf, pb, pa]
    refine ko _ _ fun e => ?_
    simp [sTryMany, clD, dTk, sRaise, sTryAs, sTry, dAt, flat, fIadd, dVar, dC, dNil, dCons, dFn, d2, d1, dLst, dTup, dLstV, dTupV, dTest, dTru, dNot, dAnd, dOr, dIf, dAndV, dOrV, dNotV, dChain, sNext, sSeq, sBreak, sCont, sDrop, sRet, sRetN, sIf, sAsg, gNm, gTupD, gTupD.go, sPar, dCall, T.vw, T.tk, vws, tks, Pd.resT, T.stay, isSh, isShs, noOb, noObs, noAl, noAls, fz, fzs, owp, ow, D.subs, D.sub, D.put1, D.puts, fAdd, fII, fII0, fMul, fI, fIB, fOrd, fEqG, fIsN, fLen, fInt, fAbs, fSubB, fIsi, tyD, isiB, exOf, retD, T.mv, mask, startD, plAt, plPut, ixD, dIx, ixE, ixS, truD, strOk, ps, pf, pb, pa, q1, q2, q3, hn]
    refine kl _ _ fun e => ?_
    simp [sTryMany, clD, dTk, sRaise, sTryAs, sTry, dAt, flat, fIadd, dVar, dC, dNil, dCons, dFn, d2, d1, dLst, dTup, dLstV, dTupV, dTest, dTru, dNot, dAnd, dOr, dIf, dAndV, dOrV, dNotV, dChain, sNext, sSeq, sBreak, sCont, sDrop, sRet, sRetN, sIf, sAsg, gNm, gTupD, gTupD.go, sPar, dCall, T.vw, T.tk, vws, tks, Pd.resT, T.stay, isSh, isShs, noOb, noObs, noAl, noAls, fz, fzs, owp, ow, D.subs, D.sub, D.put1, D.puts, fAdd, fII, fII0, fMul, fI, fIB, fOrd, fEqG, fIsN, fLen, fInt, fAbs, fSubB, fIsi, tyD, isiB, exOf, retD, T.mv, mask, startD, plAt, plPut, ixD, dIx, ixE, ixS, truD, strOk, ps, pf, pb, pa, q1, q2, q3, hn]
    refine same_ok (n := 7) rfl (by simp [isSh, q1]) (by simp [isSh, q1]) (by simpa [pyOk] using q4) (by simpa [pyOk] using q4) (by omega) q6 fun e => ?_
    simp [sTryMany, clD, dTk, sRaise, sTryAs, sTry, dAt, flat, fIadd, dVar, dC, dNil, dCons, dFn, d2, d1, dLst, dTup, dLstV, dTupV, dTest, dTru, dNot, dAnd, dOr, dIf, dAndV, dOrV, dNotV, dChain, sNext, sSeq, sBreak, sCont, sDrop, sRet, sRetN, sIf, sAsg, gNm, gTupD, gTupD.go, sPar, dCall, T.vw, T.tk, vws, tks, Pd.resT, T.stay, isSh, isShs, noOb, noObs, noAl, noAls, fz, fzs, owp, ow, D.subs, D.sub, D.put1, D.puts, fAdd, fII, fII0, fMul, fI, fIB, fOrd, fEqG, fIsN, fLen, fInt, fAbs, fSubB, fIsi, tyD, isiB, exOf, retD, T.mv, mask, startD, plAt, plPut, ixD, dIx, ixE, ixS, truD, strOk, ps, pf, pb, pa]
    refine kp _ _ fun o1 e => ?_
    cases o1
    all_goals
      simp [sTryMany, clD, dTk, sRaise, sTryAs, sTry, dAt, flat, fIadd, dVar, dC, dNil, dCons, dFn, d2, d1, dLst, dTup, dLstV, dTupV, dTest, dTru, dNot, dAnd, dOr, dIf, dAndV, dOrV, dNotV, dChain, sNext, sSeq, sBreak, sCont, sDrop, sRet, sRetN, sIf, sAsg, gNm, gTupD, gTupD.go, sPar, dCall, T.vw, T.tk, vws, tks, Pd.resT, T.stay, isSh, isShs, noOb, noObs, noAl, noAls, fz, fzs, owp, ow, D.subs, D.sub, D.put1, D.puts, fAdd, fII, fII0, fMul, fI, fIB, fOrd, fEqG, fIsN, fLen, fInt, fAbs, fSubB, fIsi, tyD, isiB, exOf, retD, T.mv, mask, startD, plAt, plPut, ixD, dIx, ixE, ixS, truD, strOk, ps, pf, pb, pa, r1, r2, r3, ra]
      refine kq _ _ fun o2 e => ?_
      cases o2
      all_goals
        simp [sTryMany, clD, dTk, sRaise, sTryAs, sTry, dAt, flat, fIadd, dVar, dC, dNil, dCons, dFn, d2, d1, dLst, dTup, dLstV, dTupV, dTest, dTru, dNot, dAnd, dOr, dIf, dAndV, dOrV, dNotV, dChain, sNext, sSeq, sBreak, sCont, sDrop, sRet, sRetN, sIf, sAsg, gNm, gTupD, gTupD.go, sPar, dCall, T.vw, T.tk, vws, tks, Pd.resT, T.stay, isSh, isShs, noOb, noObs, noAl, noAls, fz, fzs, owp, ow, D.subs, D.sub, D.put1, D.puts, fAdd, fII, fII0, fMul, fI, fIB, fOrd, fEqG, fIsN, fLen, fInt, fAbs, fSubB, fIsi, tyD, isiB, exOf, retD, T.mv, mask, startD, plAt, plPut, ixD, dIx, ixE, ixS, truD, strOk, ps, pf, pb, pa, r1, r2, r3, ra]
        refine same_ok (n := 7) rfl (by simp [isSh, r1]) (by simp [isSh, r1]) (by simpa [pyOk] using r4) (by simpa [pyOk] using r4) (by omega) r6 fun e => ?_
        simp [sTryMany, clD, dTk, sRaise, sTryAs, sTry, dAt, flat, fIadd, dVar, dC, dNil, dCons, dFn, d2, d1, dLst, dTup, dLstV, dTupV, dTest, dTru, dNot, dAnd, dOr, dIf, dAndV, dOrV, dNotV, dChain, sNext, sSeq, sBreak, sCont, sDrop, sRet, sRetN, sIf, sAsg, gNm, gTupD, gTupD.go, sPar, dCall, T.vw, T.tk, vws, tks, Pd.resT, T.stay, isSh, isShs, noOb, noObs, noAl, noAls, fz, fzs, owp, ow, D.subs, D.sub, D.put1, D.puts, fAdd, fII, fII0, fMul, fI, fIB, fOrd, fEqG, fIsN, fLen, fInt, fAbs, fSubB, fIsi, tyD, isiB, exOf, retD, T.mv, mask, startD, plAt, plPut, ixD, dIx, ixE, ixS, truD, strOk, ps, pf, pb, pa]
        unfold t_law_r22
        simp [sTryMany, clD, dTk, sRaise, sTryAs, sTry, dAt, flat, fIadd, dVar, dC, dNil, dCons, dFn, d2, d1, dLst, dTup, dLstV, dTupV, dTest, dTru, dNot, dAnd, dOr, dIf, dAndV, dOrV, dNotV, dChain, sNext, sSeq, sBreak, sCont, sDrop, sRet, sRetN, sIf, sAsg, gNm, gTupD, gTupD.go, sPar, dCall, T.vw, T.tk, vws, tks, Pd.resT, T.stay, isSh, isShs, noOb, noObs, noAl, noAls, fz, fzs, owp, ow, D.subs, D.sub, D.put1, D.puts, fAdd, fII, fII0, fMul, fI, fIB, fOrd, fEqG, fIsN, fLen, fInt, fAbs, fSubB, fIsi, tyD, isiB, exOf, retD, T.mv, mask, startD, plAt, plPut, ixD, dIx, ixE, ixS, truD, strOk, fListOf, anySeq, ps, pf, pb, pa]
        unfold t_law_r21
        simp [sTryMany, clD, dTk, sRaise, sTryAs, sTry, dAt, flat, fIadd, dVar, dC, dNil, dCons, dFn, d2, d1, dLst, dTup, dLstV, dTupV, dTest, dTru, dNot, dAnd, dOr, dIf, dAndV, dOrV, dNotV, dChain, sNext, sSeq, sBreak, sCont, sDrop, sRet, sRetN, sIf, sAsg, gNm, gTupD, gTupD.go, sPar, dCall, T.vw, T.tk, vws, tks, Pd.resT, T.stay, isSh, isShs, noOb, noObs, noAl, noAls, fz, fzs, owp, ow, D.subs, D.sub, D.put1, D.puts, fAdd, fII, fII0, fMul, fI, fIB, fOrd, fEqG, fIsN, fLen, fInt, fAbs, fSubB, fIsi, tyD, isiB, exOf, retD, T.mv, mask, startD, plAt, plPut, ixD, dIx, ixE, ixS, truD, strOk]
        exact go

theorem lw25 {t : Int} (t0 : 0 ≤ t) (t1 : t ≤ 1000) (l8 : l.length ≤ 8) (h1 : 1 ≤ len) (h2 : len ≤ 10) (h3 : 2 ≤ times) (h4 : times ≤ 4) (ok : SpOk l) (hd : DrN (f + 4) d) (h : ∀ e, EndT f c0 e → De.nx e) :
    t_law_r25 De [c0, some d, c2, some (.lst true (l.map spD)), some (.int t), c5, c6, c7, c8, c9, c10, c11, c12, c13, c14, some (.int len), some (.int times), c17, c18, c19, c20, c21] W := by
  have lb := line_big
  have l3 : 3 ≤ sizeLine := by omega
  unfold t_law_r25
  simp [sTryMany, clD, dTk, sRaise, sTryAs, sTry, dAt, flat, fIadd, dVar, dC, dNil, dCons, dFn, d2, d1, dLst, dTup, dLstV, dTupV, dTest, dTru, dNot, dAnd, dOr, dIf, dAndV, dOrV, dNotV, dChain, sNext, sSeq, sBreak, sCont, sDrop, sRet, sRetN, sIf, sAsg, gNm, gTupD, gTupD.go, sPar, dCall, T.vw, T.tk, vws, tks, Pd.resT, T.stay, isSh, isShs, noOb, noObs, noAl, noAls, fz, fzs, owp, ow, D.subs, D.sub, D.put1, D.puts, fAdd, fII, fII0, fMul, fI, fIB, fOrd, fEqG, fIsN, fLen, fInt, fAbs, fSubB, fIsi, tyD, isiB, exOf, retD, T.mv, mask, startD, plAt, plPut, ixD, dIx, ixE, ixS, truD, strOk]
  rw [io_eq]
  simp [sTryMany, clD, dTk, sRaise, sTryAs, sTry, dAt, flat, fIadd, dVar, dC, dNil, dCons, dFn, d2, d1, dLst, dTup, dLstV, dTupV, dTest, dTru, dNot, dAnd, dOr, dIf, dAndV, dOrV, dNotV, dChain, sNext, sSeq, sBreak, sCont, sDrop, sRet, sRetN, sIf, sAsg, gNm, gTupD, gTupD.go, sPar, dCall, T.vw, T.tk, vws, tks, Pd.resT, T.stay, isSh, isShs, noOb, noObs, noAl, noAls, fz, fzs, owp, ow, D.subs, D.sub, D.put1, D.puts, fAdd, fII, fII0, fMul, fI, fIB, fOrd, fEqG, fIsN, fLen, fInt, fAbs, fSubB, fIsi, tyD, isiB, exOf, retD, T.mv, mask, startD, plAt, plPut, ixD, dIx, ixE, ixS, truD, strOk]
  rw [io_eq]
  obtain ⟨oD, sD⟩ := hd.ob
  simp [sTryMany, clD, dTk, sRaise, sTryAs, sTry, dAt, flat, fIadd, dVar, dC, dNil, dCons, dFn, d2, d1, dLst, dTup, dLstV, dTupV, dTest, dTru, dNot, dAnd, dOr, dIf, dAndV, dOrV, dNotV, dChain, sNext, sSeq, sBreak, sCont, sDrop, sRet, sRetN, sIf, sAsg, gNm, gTupD, gTupD.go, sPar, dCall, T.vw, T.tk, vws, tks, Pd.resT, T.stay, isSh, isShs, noOb, noObs, noAl, noAls, fz, fzs, owp, ow, D.subs, D.sub, D.put1, D.puts, fAdd, fII, fII0, fMul, fI, fIB, fOrd, fEqG, fIsN, fLen, fInt, fAbs, fSubB, fIsi, tyD, isiB, exOf, retD, T.mv, mask, startD, plAt, plPut, ixD, dIx, ixE, ixS, truD, strOk, cAs, cA, CA.root, CA.d, List.filterMap]
  refine ⟨d, f + 3, t + 1, rfl, hd, by omega, by omega, fun v dd v0 v1 hdd => ?_⟩
  obtain ⟨oD2, sD2⟩ := hdd.ob
  simp [sTryMany, clD, dTk, sRaise, sTryAs, sTry, dAt, flat, fIadd, dVar, dC, dNil, dCons, dFn, d2, d1, dLst, dTup, dLstV, dTupV, dTest, dTru, dNot, dAnd, dOr, dIf, dAndV, dOrV, dNotV, dChain, sNext, sSeq, sBreak, sCont, sDrop, sRet, sRetN, sIf, sAsg, gNm, gTupD, gTupD.go, sPar, dCall, T.vw, T.tk, vws, tks, Pd.resT, T.stay, isSh, isShs, noOb, noObs, noAl, noAls, fz, fzs, owp, ow, D.subs, D.sub, D.put1, D.puts, fAdd, fII, fII0, fMul, fI, fIB, fOrd, fEqG, fIsN, fLen, fInt, fAbs, fSubB, fIsi, tyD, isiB, exOf, retD, T.mv, mask, startD, plAt, plPut, ixD, dIx, ixE, ixS, truD, strOk, cback, l3, cAs, cA, CA.root, CA.d, List.filterMap]
  refine ⟨dd, f + 2, [.int t, .int (t + 100), .int v], rfl, hdd, by simp, by simp, by simp [isShs, isSh], fun k x d3 hx hd3 => ?_⟩
  obtain ⟨nw, rfl⟩ : ∃ nw, x = .int nw := by
    rcases k with _ | _ | _ | k
    · exact ⟨t, by simpa using hx.symm⟩
    · exact ⟨t + 100, by simpa using hx.symm⟩
    · exact ⟨v, by simpa using hx.symm⟩
    · simp at hx
  simp [sTryMany, clD, dTk, sRaise, sTryAs, sTry, dAt, flat, fIadd, dVar, dC, dNil, dCons, dFn, d2, d1, dLst, dTup, dLstV, dTupV, dTest, dTru, dNot, dAnd, dOr, dIf, dAndV, dOrV, dNotV, dChain, sNext, sSeq, sBreak, sCont, sDrop, sRet, sRetN, sIf, sAsg, gNm, gTupD, gTupD.go, sPar, dCall, T.vw, T.tk, vws, tks, Pd.resT, T.stay, isSh, isShs, noOb, noObs, noAl, noAls, fz, fzs, owp, ow, D.subs, D.sub, D.put1, D.puts, fAdd, fII, fII0, fMul, fI, fIB, fOrd, fEqG, fIsN, fLen, fInt, fAbs, fSubB, fIsi, tyD, isiB, exOf, retD, T.mv, mask, startD, plAt, plPut, ixD, dIx, ixE, ixS, truD, strOk, cback]
  exact lw24 l8 h1 h2 h3 h4 ok hd3 h

theorem SpOk.perm {l m : List Sp} (h : l.Perm m) (ok : SpOk l) : SpOk m := ⟨ok.num.perm h, fun s hs => ok.pos s (h.mem_iff.mpr hs), fun s hs => ok.ord s (h.mem_iff.mpr hs), fun s hs => ok.sml s (h.mem_iff.mpr hs), by rw [← h.length_eq]; exact ok.len⟩
theorem lw26 {t : Int} (t0 : 0 ≤ t) (t1 : t ≤ 1000) (l8 : l.length ≤ 8) (h1 : 1 ≤ len) (h2 : len ≤ 10) (h3 : 2 ≤ times) (h4 : times ≤ 4) (ok : SpOk l) (hd : DrN (f + 5) d) (h : ∀ e, EndT f c0 e → De.nx e) :
    t_law_r26 De [c0, some d, c2, some (.lst true (l.map spD)), some (.int t), c5, c6, c7, c8, c9, c10, c11, c12, c13, c14, some (.int len), some (.int times), c17, c18, c19, c20, c21] W := by
  have ps := sps_sh l
  have pf := sps_fz l
  have pb := sps_ob l
  unfold t_law_r26
  simp [sTryMany, clD, dTk, sRaise, sTryAs, sTry, dAt, flat, fIadd, dVar, dC, dNil, dCons, dFn, d2, d1, dLst, dTup, dLstV, dTupV, dTest, dTru, dNot, dAnd, dOr, dIf, dAndV, dOrV, dNotV, dChain, sNext, sSeq, sBreak, sCont, sDrop, sRet, sRetN, sIf, sAsg, gNm, gTupD, gTupD.go, sPar, dCall, T.vw, T.tk, vws, tks, Pd.resT, T.stay, isSh, isShs, noOb, noObs, noAl, noAls, fz, fzs, owp, ow, D.subs, D.sub, D.put1, D.puts, fAdd, fII, fII0, fMul, fI, fIB, fOrd, fEqG, fIsN, fLen, fInt, fAbs, fSubB, fIsi, tyD, isiB, exOf, retD, T.mv, mask, startD, plAt, plPut, ixD, dIx, ixE, ixS, truD, strOk]
  refine next_use rfl hd (by decide) (by decide) fun v dd v0 v1 hdd => ?_
  by_cases c : v = 0
  · have er : (l.map spD).reverse = l.reverse.map spD := by rw [List.map_reverse]
    subst c
    simp [sTryMany, clD, dTk, sRaise, sTryAs, sTry, dAt, flat, fIadd, dVar, dC, dNil, dCons, dFn, d2, d1, dLst, dTup, dLstV, dTupV, dTest, dTru, dNot, dAnd, dOr, dIf, dAndV, dOrV, dNotV, dChain, sNext, sSeq, sBreak, sCont, sDrop, sRet, sRetN, sIf, sAsg, gNm, gTupD, gTupD.go, sPar, dCall, T.vw, T.tk, vws, tks, Pd.resT, T.stay, isSh, isShs, noOb, noObs, noAl, noAls, fz, fzs, owp, ow, D.subs, D.sub, D.put1, D.puts, fAdd, fII, fII0, fMul, fI, fIB, fOrd, fEqG, fIsN, fLen, fInt, fAbs, fSubB, fIsi, tyD, isiB, exOf, retD, T.mv, mask, startD, plAt, plPut, ixD, dIx, ixE, ixS, truD, strOk, fRev, seqD, ps, pf, pb, -List.map_reverse]
    have pa := sps_al l.reverse
    have pz := sps_fz l.reverse
    rw [er]
    simp [sTryMany, clD, dTk, sRaise, sTryAs, sTry, dAt, flat, fIadd, dVar, dC, dNil, dCons, dFn, d2, d1, dLst, dTup, dLstV, dTupV, dTest, dTru, dNot, dAnd, dOr, dIf, dAndV, dOrV, dNotV, dChain, sNext, sSeq, sBreak, sCont, sDrop, sRet, sRetN, sIf, sAsg, gNm, gTupD, gTupD.go, sPar, dCall, T.vw, T.tk, vws, tks, Pd.resT, T.stay, isSh, isShs, noOb, noObs, noAl, noAls, fz, fzs, owp, ow, D.subs, D.sub, D.put1, D.puts, fAdd, fII, fII0, fMul, fI, fIB, fOrd, fEqG, fIsN, fLen, fInt, fAbs, fSubB, fIsi, tyD, isiB, exOf, retD, T.mv, mask, startD, plAt, plPut, ixD, dIx, ixE, ixS, truD, strOk, pa, -List.map_reverse]
    exact lw25 t0 t1 (by rw [List.length_reverse]; exact l8) h1 h2 h3 h4 (ok.perm (List.reverse_perm l).symm) hdd h
  · simp [sTryMany, clD, dTk, sRaise, sTryAs, sTry, dAt, flat, fIadd, dVar, dC, dNil, dCons, dFn, d2, d1, dLst, dTup, dLstV, dTupV, dTest, dTru, dNot, dAnd, dOr, dIf, dAndV, dOrV, dNotV, dChain, sNext, sSeq, sBreak, sCont, sDrop, sRet, sRetN, sIf, sAsg, gNm, gTupD, gTupD.go, sPar, dCall, T.vw, T.tk, vws, tks, Pd.resT, T.stay, isSh, isShs, noOb, noObs, noAl, noAls, fz, fzs, owp, ow, D.subs, D.sub, D.put1, D.puts, fAdd, fII, fII0, fMul, fI, fIB, fOrd, fEqG, fIsN, fLen, fInt, fAbs, fSubB, fIsi, tyD, isiB, exOf, retD, T.mv, mask, startD, plAt, plPut, ixD, dIx, ixE, ixS, truD, strOk, c]
    exact lw25 t0 t1 l8 h1 h2 h3 h4 ok hdd h

theorem lw4 {t : Int} {k : Nat} (t0 : 0 ≤ t) (t1 : t ≤ 500) (k8 : k ≤ 8) (l8 : l.length ≤ 20) (h1 : 1 ≤ len) (h2 : len ≤ 10) (hd : DrN (f + 4) d)
    (h : ∀ v a b dd c17 c18, (0 ≤ v ∧ v < 3) → (0 ≤ a ∧ a ≤ t + 11) → (a ≤ b ∧ b ≤ a + 9) → DrN f dd → De.nx [c0, some dd, c2, some (.lst true ((l ++ [(3 * (k : Int) + v, a, b)]).map spD)), some (.int (b + 1)), some (.int k), c6, c7, c8, c9, c10, c11, c12, c13, c14, some (.int len), some (.int times), c17, c18, c19, c20, c21]) :
    t_law_4 De [c0, some d, c2, some (.lst true (l.map spD)), some (.int t), some (.int k), c6, c7, c8, c9, c10, c11, c12, c13, c14, some (.int len), some (.int times), c17, c18, c19, c20, c21] W := by
  have lb := line_big
  have l3 : 3 ≤ sizeLine := by omega
  have l4 : 4 ≤ sizeLine := by omega
  have ll : l.length < sizeLine := by omega
  unfold t_law_4
  simp [sTryMany, clD, dTk, sRaise, sTryAs, sTry, dAt, flat, fIadd, dVar, dC, dNil, dCons, dFn, d2, d1, dLst, dTup, dLstV, dTupV, dTest, dTru, dNot, dAnd, dOr, dIf, dAndV, dOrV, dNotV, dChain, sNext, sSeq, sBreak, sCont, sDrop, sRet, sRetN, sIf, sAsg, gNm, gTupD, gTupD.go, sPar, dCall, T.vw, T.tk, vws, tks, Pd.resT, T.stay, isSh, isShs, noOb, noObs, noAl, noAls, fz, fzs, owp, ow, D.subs, D.sub, D.put1, D.puts, fAdd, fII, fII0, fMul, fI, fIB, fOrd, fEqG, fIsN, fLen, fInt, fAbs, fSubB, fIsi, tyD, isiB, exOf, retD, T.mv, mask, startD, plAt, plPut, ixD, dIx, ixE, ixS, truD, strOk]
  refine next_use rfl hd (by decide) (by decide) fun a d1' a0 a1 hd1 => ?_
  simp [sTryMany, clD, dTk, sRaise, sTryAs, sTry, dAt, flat, fIadd, dVar, dC, dNil, dCons, dFn, d2, d1, dLst, dTup, dLstV, dTupV, dTest, dTru, dNot, dAnd, dOr, dIf, dAndV, dOrV, dNotV, dChain, sNext, sSeq, sBreak, sCont, sDrop, sRet, sRetN, sIf, sAsg, gNm, gTupD, gTupD.go, sPar, dCall, T.vw, T.tk, vws, tks, Pd.resT, T.stay, isSh, isShs, noOb, noObs, noAl, noAls, fz, fzs, owp, ow, D.subs, D.sub, D.put1, D.puts, fAdd, fII, fII0, fMul, fI, fIB, fOrd, fEqG, fIsN, fLen, fInt, fAbs, fSubB, fIsi, tyD, isiB, exOf, retD, T.mv, mask, startD, plAt, plPut, ixD, dIx, ixE, ixS, truD, strOk]
  rw [io_eq]
  obtain ⟨oD, sD⟩ := hd1.ob
  simp [sTryMany, clD, dTk, sRaise, sTryAs, sTry, dAt, flat, fIadd, dVar, dC, dNil, dCons, dFn, d2, d1, dLst, dTup, dLstV, dTupV, dTest, dTru, dNot, dAnd, dOr, dIf, dAndV, dOrV, dNotV, dChain, sNext, sSeq, sBreak, sCont, sDrop, sRet, sRetN, sIf, sAsg, gNm, gTupD, gTupD.go, sPar, dCall, T.vw, T.tk, vws, tks, Pd.resT, T.stay, isSh, isShs, noOb, noObs, noAl, noAls, fz, fzs, owp, ow, D.subs, D.sub, D.put1, D.puts, fAdd, fII, fII0, fMul, fI, fIB, fOrd, fEqG, fIsN, fLen, fInt, fAbs, fSubB, fIsi, tyD, isiB, exOf, retD, T.mv, mask, startD, plAt, plPut, ixD, dIx, ixE, ixS, truD, strOk, l4, cAs, cA, CA.root, CA.d, List.filterMap]
  refine ⟨d1', f + 2, [.int 0, .int 0, .int 0, .int 15], rfl, hd1, by simp, by simp, by simp [isShs, isSh], fun j x d2' hx hd2 => ?_⟩
  obtain ⟨w, rfl, hw⟩ : ∃ w, x = .int w ∧ (0 ≤ w ∧ w ≤ 15) := by
    rcases j with _ | _ | _ | _ | j
    · exact ⟨0, by simpa using hx.symm, by omega, by omega⟩
    · exact ⟨0, by simpa using hx.symm, by omega, by omega⟩
    · exact ⟨0, by simpa using hx.symm, by omega, by omega⟩
    · exact ⟨15, by simpa using hx.symm, by omega, by omega⟩
    · simp at hx
  obtain ⟨q, hq⟩ : ∃ q : Int, (if 0 < t + a - w then t + a - w else 0) = q := ⟨_, rfl⟩
  have q0 : 0 ≤ q ∧ q ≤ t + 11 := by
    rw [← hq]
    split <;> omega
  simp [sTryMany, clD, dTk, sRaise, sTryAs, sTry, dAt, flat, fIadd, dVar, dC, dNil, dCons, dFn, d2, d1, dLst, dTup, dLstV, dTupV, dTest, dTru, dNot, dAnd, dOr, dIf, dAndV, dOrV, dNotV, dChain, sNext, sSeq, sBreak, sCont, sDrop, sRet, sRetN, sIf, sAsg, gNm, gTupD, gTupD.go, sPar, dCall, T.vw, T.tk, vws, tks, Pd.resT, T.stay, isSh, isShs, noOb, noObs, noAl, noAls, fz, fzs, owp, ow, D.subs, D.sub, D.put1, D.puts, fAdd, fII, fII0, fMul, fI, fIB, fOrd, fEqG, fIsN, fLen, fInt, fAbs, fSubB, fIsi, tyD, isiB, exOf, retD, T.mv, mask, startD, plAt, plPut, ixD, dIx, ixE, ixS, truD, strOk, cback, fMM]
  have hq' : (if w < t + a then t + a - w else 0) = q := by
    rw [← hq]
    split <;> split <;> omega
  first
    | rw [hq']
    | rw [hq]
    | skip
  unfold t_law_r3
  simp [sTryMany, clD, dTk, sRaise, sTryAs, sTry, dAt, flat, fIadd, dVar, dC, dNil, dCons, dFn, d2, d1, dLst, dTup, dLstV, dTupV, dTest, dTru, dNot, dAnd, dOr, dIf, dAndV, dOrV, dNotV, dChain, sNext, sSeq, sBreak, sCont, sDrop, sRet, sRetN, sIf, sAsg, gNm, gTupD, gTupD.go, sPar, dCall, T.vw, T.tk, vws, tks, Pd.resT, T.stay, isSh, isShs, noOb, noObs, noAl, noAls, fz, fzs, owp, ow, D.subs, D.sub, D.put1, D.puts, fAdd, fII, fII0, fMul, fI, fIB, fOrd, fEqG, fIsN, fLen, fInt, fAbs, fSubB, fIsi, tyD, isiB, exOf, retD, T.mv, mask, startD, plAt, plPut, ixD, dIx, ixE, ixS, truD, strOk]
  rw [io_eq]
  obtain ⟨oD2, sD2⟩ := hd2.ob
  simp [sTryMany, clD, dTk, sRaise, sTryAs, sTry, dAt, flat, fIadd, dVar, dC, dNil, dCons, dFn, d2, d1, dLst, dTup, dLstV, dTupV, dTest, dTru, dNot, dAnd, dOr, dIf, dAndV, dOrV, dNotV, dChain, sNext, sSeq, sBreak, sCont, sDrop, sRet, sRetN, sIf, sAsg, gNm, gTupD, gTupD.go, sPar, dCall, T.vw, T.tk, vws, tks, Pd.resT, T.stay, isSh, isShs, noOb, noObs, noAl, noAls, fz, fzs, owp, ow, D.subs, D.sub, D.put1, D.puts, fAdd, fII, fII0, fMul, fI, fIB, fOrd, fEqG, fIsN, fLen, fInt, fAbs, fSubB, fIsi, tyD, isiB, exOf, retD, T.mv, mask, startD, plAt, plPut, ixD, dIx, ixE, ixS, truD, strOk, cAs, cA, CA.root, CA.d, List.filterMap]
  refine ⟨d2', f + 1, len, rfl, hd2, by omega, by omega, fun b d3' b0 b1 hd3 => ?_⟩
  simp [sTryMany, clD, dTk, sRaise, sTryAs, sTry, dAt, flat, fIadd, dVar, dC, dNil, dCons, dFn, d2, d1, dLst, dTup, dLstV, dTupV, dTest, dTru, dNot, dAnd, dOr, dIf, dAndV, dOrV, dNotV, dChain, sNext, sSeq, sBreak, sCont, sDrop, sRet, sRetN, sIf, sAsg, gNm, gTupD, gTupD.go, sPar, dCall, T.vw, T.tk, vws, tks, Pd.resT, T.stay, isSh, isShs, noOb, noObs, noAl, noAls, fz, fzs, owp, ow, D.subs, D.sub, D.put1, D.puts, fAdd, fII, fII0, fMul, fI, fIB, fOrd, fEqG, fIsN, fLen, fInt, fAbs, fSubB, fIsi, tyD, isiB, exOf, retD, T.mv, mask, startD, plAt, plPut, ixD, dIx, ixE, ixS, truD, strOk, cback]
  unfold t_law_r2
  simp [sTryMany, clD, dTk, sRaise, sTryAs, sTry, dAt, flat, fIadd, dVar, dC, dNil, dCons, dFn, d2, d1, dLst, dTup, dLstV, dTupV, dTest, dTru, dNot, dAnd, dOr, dIf, dAndV, dOrV, dNotV, dChain, sNext, sSeq, sBreak, sCont, sDrop, sRet, sRetN, sIf, sAsg, gNm, gTupD, gTupD.go, sPar, dCall, T.vw, T.tk, vws, tks, Pd.resT, T.stay, isSh, isShs, noOb, noObs, noAl, noAls, fz, fzs, owp, ow, D.subs, D.sub, D.put1, D.puts, fAdd, fII, fII0, fMul, fI, fIB, fOrd, fEqG, fIsN, fLen, fInt, fAbs, fSubB, fIsi, tyD, isiB, exOf, retD, T.mv, mask, startD, plAt, plPut, ixD, dIx, ixE, ixS, truD, strOk]
  unfold t_law_r1
  have cm : CMulW 3 (k : Int) := mul_okN (by decide) (by omega)
  simp [sTryMany, clD, dTk, sRaise, sTryAs, sTry, dAt, flat, fIadd, dVar, dC, dNil, dCons, dFn, d2, d1, dLst, dTup, dLstV, dTupV, dTest, dTru, dNot, dAnd, dOr, dIf, dAndV, dOrV, dNotV, dChain, sNext, sSeq, sBreak, sCont, sDrop, sRet, sRetN, sIf, sAsg, gNm, gTupD, gTupD.go, sPar, dCall, T.vw, T.tk, vws, tks, Pd.resT, T.stay, isSh, isShs, noOb, noObs, noAl, noAls, fz, fzs, owp, ow, D.subs, D.sub, D.put1, D.puts, fAdd, fII, fII0, fMul, fI, fIB, fOrd, fEqG, fIsN, fLen, fInt, fAbs, fSubB, fIsi, tyD, isiB, exOf, retD, T.mv, mask, startD, plAt, plPut, ixD, dIx, ixE, ixS, truD, strOk, cm, dApp]
  refine next_use rfl hd3 (by decide) (by decide) fun v d4' v0 v1 hd4 => ?_
  simp [sTryMany, clD, dTk, sRaise, sTryAs, sTry, dAt, flat, fIadd, dVar, dC, dNil, dCons, dFn, d2, d1, dLst, dTup, dLstV, dTupV, dTest, dTru, dNot, dAnd, dOr, dIf, dAndV, dOrV, dNotV, dChain, sNext, sSeq, sBreak, sCont, sDrop, sRet, sRetN, sIf, sAsg, gNm, gTupD, gTupD.go, sPar, dCall, T.vw, T.tk, vws, tks, Pd.resT, T.stay, isSh, isShs, noOb, noObs, noAl, noAls, fz, fzs, owp, ow, D.subs, D.sub, D.put1, D.puts, fAdd, fII, fII0, fMul, fI, fIB, fOrd, fEqG, fIsN, fLen, fInt, fAbs, fSubB, fIsi, tyD, isiB, exOf, retD, T.mv, mask, startD, plAt, plPut, ixD, dIx, ixE, ixS, truD, strOk, l3, ll]
  have := h v q (q + b) d4' (some (.int q)) (some (.int (q + b))) ⟨v0, v1⟩ q0 ⟨by omega, by omega⟩ hd4
  simpa [spD] using this

theorem lw27 (h1 : 1 ≤ len) (h2 : len ≤ 10) (h3 : 2 ≤ times) (h4 : times ≤ 4) (hd : DrN (f + 38) d) (h : ∀ e, EndT f c0 e → De.nx e) :
    t_law_r27 De [c0, some d, c2, some (.lst true []), some (.int 0), c5, c6, c7, c8, c9, c10, c11, c12, c13, c14, some (.int len), some (.int times), c17, c18, c19, c20, c21] W := by
  unfold t_law_r27
  simp [sTryMany, clD, dTk, sRaise, sTryAs, sTry, dAt, flat, fIadd, dVar, dC, dNil, dCons, dFn, d2, d1, dLst, dTup, dLstV, dTupV, dTest, dTru, dNot, dAnd, dOr, dIf, dAndV, dOrV, dNotV, dChain, sNext, sSeq, sBreak, sCont, sDrop, sRet, sRetN, sIf, sAsg, gNm, gTupD, gTupD.go, sPar, dCall, T.vw, T.tk, vws, tks, Pd.resT, T.stay, isSh, isShs, noOb, noObs, noAl, noAls, fz, fzs, owp, ow, D.subs, D.sub, D.put1, D.puts, fAdd, fII, fII0, fMul, fI, fIB, fOrd, fEqG, fIsN, fLen, fInt, fAbs, fSubB, fIsi, tyD, isiB, exOf, retD, T.mv, mask, startD, plAt, plPut, ixD, dIx, ixE, ixS, truD, strOk, sForR1]
  refine next_use rfl hd (by decide) (by decide) fun n dd n0 n1 hdd => ?_
  obtain ⟨n, rfl⟩ : ∃ m : Nat, n = m := ⟨n.toNat, by omega⟩
  simp [sTryMany, clD, dTk, sRaise, sTryAs, sTry, dAt, flat, fIadd, dVar, dC, dNil, dCons, dFn, d2, d1, dLst, dTup, dLstV, dTupV, dTest, dTru, dNot, dAnd, dOr, dIf, dAndV, dOrV, dNotV, dChain, sNext, sSeq, sBreak, sCont, sDrop, sRet, sRetN, sIf, sAsg, gNm, gTupD, gTupD.go, sPar, dCall, T.vw, T.tk, vws, tks, Pd.resT, T.stay, isSh, isShs, noOb, noObs, noAl, noAls, fz, fzs, owp, ow, D.subs, D.sub, D.put1, D.puts, fAdd, fII, fII0, fMul, fI, fIB, fOrd, fEqG, fIsN, fLen, fInt, fAbs, fSubB, fIsi, tyD, isiB, exOf, retD, T.mv, mask, startD, plAt, plPut, ixD, dIx, ixE, ixS, truD, strOk]
  refine ⟨by omega, ?_⟩
  rw [rangeD_eq]
  refine forD_inv (fun k e => k ≤ 8 → ∃ (l : List Sp) (t : Int) (d : D) (c5 c17 c18 : Option D), e = [c0, some d, c2, some (.lst true (l.map spD)), some (.int t), c5, c6, c7, c8, c9, c10, c11, c12, c13, c14, some (.int len), some (.int times), c17, c18, c19, c20, c21] ∧ l.length = k ∧ SpOk l ∧ (∀ s ∈ l, s.1 < 3 * (k : Int)) ∧ 0 ≤ t ∧ t ≤ 25 * (k : Int) ∧ DrN (f + 37 - 4 * k) d) (k := 0) (fun _ => ⟨[], 0, dd, c5, c17, c18, rfl, rfl, ⟨List.Pairwise.nil, by simp, by simp, by simp, by simp⟩, by simp, by omega, by omega, hdd⟩) ?_ ?_
  · intro k i e hj hI next hnx
    obtain ⟨hjl, ek⟩ := List.getElem?_eq_some_iff.mp hj
    rw [List.length_range] at hjl
    rw [List.getElem_range] at ek
    subst ek
    rw [Nat.zero_add] at hI hnx
    obtain ⟨l, t, d, c5, c17, c18, rfl, hl, ok, g1, g2, g3, hd⟩ := hI (by omega)
    refine lw4 (f := f + 37 - 4 * (k + 1)) (l := l) (t := t) (k := k) g2 (by omega) (by omega) (by omega) h1 h2 (by rwa [show f + 37 - 4 * (k + 1) + 4 = f + 37 - 4 * k by omega]) fun v a b d' c17 c18 hv ha hb hd' => hnx _ fun _ => ⟨_, _, d', _, c17, c18, rfl, by simp [hl], ?_, ?_, by omega, by omega, hd'⟩
    · have last : ∀ x ∈ l ++ [(3 * (k : Int) + v, a, b)], x ∈ l ∨ x = (3 * (k : Int) + v, a, b) := fun x hx => by
        rcases List.mem_append.mp hx with hx | hx
        · exact .inl hx
        · exact .inr (List.mem_singleton.mp hx)
      refine ⟨?_, ?_, ?_, ?_, by rw [List.length_append, List.length_singleton]; omega⟩
      · refine List.pairwise_append.mpr ⟨ok.num, List.pairwise_singleton _ _, fun x hx y hy => ?_⟩
        rw [List.mem_singleton.mp hy]
        have := g1 x hx
        show x.1 ≠ 3 * (k : Int) + v
        omega
      · intro x hx
        rcases last x hx with hx | rfl
        · exact ok.pos x hx
        · show 0 ≤ 3 * (k : Int) + v
          omega
      · intro x hx
        rcases last x hx with hx | rfl
        · exact ok.ord x hx
        · exact ⟨ha.1, hb.1⟩
      · intro x hx
        rcases last x hx with hx | rfl
        · exact ok.sml x hx
        · show b < 1000000
          omega
    · intro x hx
      rcases List.mem_append.mp hx with hx | hx
      · have := g1 x hx
        omega
      · rw [List.mem_singleton.mp hx]
        show 3 * (k : Int) + v < _
        omega
  · intro e hI
    rw [Nat.zero_add, List.length_range] at hI
    obtain ⟨l, t, d, c5, c17, c18, rfl, hl, ok, g1, g2, g3, hd⟩ := hI (by omega)
    exact lw26 g2 (by omega) (by omega) h1 h2 h3 h4 ok (hd.mono (by omega)) h

theorem lw30 (hd : DrN (f + 40) d) (h : ∀ e, EndT f c0 e → De.nx e) :
    t_law_30 De [c0, some d, c2, c3, c4, c5, c6, c7, c8, c9, c10, c11, c12, c13, c14, c15, c16, c17, c18, c19, c20, c21] W := by
  unfold t_law_30
  simp [sTryMany, clD, dTk, sRaise, sTryAs, sTry, dAt, flat, fIadd, dVar, dC, dNil, dCons, dFn, d2, d1, dLst, dTup, dLstV, dTupV, dTest, dTru, dNot, dAnd, dOr, dIf, dAndV, dOrV, dNotV, dChain, sNext, sSeq, sBreak, sCont, sDrop, sRet, sRetN, sIf, sAsg, gNm, gTupD, gTupD.go, sPar, dCall, T.vw, T.tk, vws, tks, Pd.resT, T.stay, isSh, isShs, noOb, noObs, noAl, noAls, fz, fzs, owp, ow, D.subs, D.sub, D.put1, D.puts, fAdd, fII, fII0, fMul, fI, fIB, fOrd, fEqG, fIsN, fLen, fInt, fAbs, fSubB, fIsi, tyD, isiB, exOf, retD, T.mv, mask, startD, plAt, plPut, ixD, dIx, ixE, ixS, truD, strOk]
  refine next_use rfl hd (by decide) (by decide) fun a d1' a0 a1 hd1 => ?_
  simp [sTryMany, clD, dTk, sRaise, sTryAs, sTry, dAt, flat, fIadd, dVar, dC, dNil, dCons, dFn, d2, d1, dLst, dTup, dLstV, dTupV, dTest, dTru, dNot, dAnd, dOr, dIf, dAndV, dOrV, dNotV, dChain, sNext, sSeq, sBreak, sCont, sDrop, sRet, sRetN, sIf, sAsg, gNm, gTupD, gTupD.go, sPar, dCall, T.vw, T.tk, vws, tks, Pd.resT, T.stay, isSh, isShs, noOb, noObs, noAl, noAls, fz, fzs, owp, ow, D.subs, D.sub, D.put1, D.puts, fAdd, fII, fII0, fMul, fI, fIB, fOrd, fEqG, fIsN, fLen, fInt, fAbs, fSubB, fIsi, tyD, isiB, exOf, retD, T.mv, mask, startD, plAt, plPut, ixD, dIx, ixE, ixS, truD, strOk]
  refine next_use rfl hd1 (by decide) (by decide) fun b d2' b0 b1 hd2 => ?_
  simp [sTryMany, clD, dTk, sRaise, sTryAs, sTry, dAt, flat, fIadd, dVar, dC, dNil, dCons, dFn, d2, d1, dLst, dTup, dLstV, dTupV, dTest, dTru, dNot, dAnd, dOr, dIf, dAndV, dOrV, dNotV, dChain, sNext, sSeq, sBreak, sCont, sDrop, sRet, sRetN, sIf, sAsg, gNm, gTupD, gTupD.go, sPar, dCall, T.vw, T.tk, vws, tks, Pd.resT, T.stay, isSh, isShs, noOb, noObs, noAl, noAls, fz, fzs, owp, ow, D.subs, D.sub, D.put1, D.puts, fAdd, fII, fII0, fMul, fI, fIB, fOrd, fEqG, fIsN, fLen, fInt, fAbs, fSubB, fIsi, tyD, isiB, exOf, retD, T.mv, mask, startD, plAt, plPut, ixD, dIx, ixE, ixS, truD, strOk]
  unfold t_law_r29
  simp [sTryMany, clD, dTk, sRaise, sTryAs, sTry, dAt, flat, fIadd, dVar, dC, dNil, dCons, dFn, d2, d1, dLst, dTup, dLstV, dTupV, dTest, dTru, dNot, dAnd, dOr, dIf, dAndV, dOrV, dNotV, dChain, sNext, sSeq, sBreak, sCont, sDrop, sRet, sRetN, sIf, sAsg, gNm, gTupD, gTupD.go, sPar, dCall, T.vw, T.tk, vws, tks, Pd.resT, T.stay, isSh, isShs, noOb, noObs, noAl, noAls, fz, fzs, owp, ow, D.subs, D.sub, D.put1, D.puts, fAdd, fII, fII0, fMul, fI, fIB, fOrd, fEqG, fIsN, fLen, fInt, fAbs, fSubB, fIsi, tyD, isiB, exOf, retD, T.mv, mask, startD, plAt, plPut, ixD, dIx, ixE, ixS, truD, strOk]
  unfold t_law_r28
  simp [sTryMany, clD, dTk, sRaise, sTryAs, sTry, dAt, flat, fIadd, dVar, dC, dNil, dCons, dFn, d2, d1, dLst, dTup, dLstV, dTupV, dTest, dTru, dNot, dAnd, dOr, dIf, dAndV, dOrV, dNotV, dChain, sNext, sSeq, sBreak, sCont, sDrop, sRet, sRetN, sIf, sAsg, gNm, gTupD, gTupD.go, sPar, dCall, T.vw, T.tk, vws, tks, Pd.resT, T.stay, isSh, isShs, noOb, noObs, noAl, noAls, fz, fzs, owp, ow, D.subs, D.sub, D.put1, D.puts, fAdd, fII, fII0, fMul, fI, fIB, fOrd, fEqG, fIsN, fLen, fInt, fAbs, fSubB, fIsi, tyD, isiB, exOf, retD, T.mv, mask, startD, plAt, plPut, ixD, dIx, ixE, ixS, truD, strOk]
  exact lw27 (by omega) (by omega) (by omega) (by omega) hd2 h

end
theorem p_law : ∀ ds R RE, S_law ds R RE → t_law (endsOf [] 1 R) (startD 22 ds) (exOf [] 1 RE) := by
  rintro ds R RE ⟨ns, rfl, h⟩
  have lb := line_big
  have l2 : 2 ≤ sizeLine := by omega
  unfold t_law
  simp [sTryMany, clD, dTk, sRaise, sTryAs, sTry, dAt, flat, fIadd, dVar, dC, dNil, dCons, dFn, d2, d1, dLst, dTup, dLstV, dTupV, dTest, dTru, dNot, dAnd, dOr, dIf, dAndV, dOrV, dNotV, dChain, sNext, sSeq, sBreak, sCont, sDrop, sRet, sRetN, sIf, sAsg, gNm, gTupD, gTupD.go, sPar, dCall, T.vw, T.tk, vws, tks, Pd.resT, T.stay, isSh, isShs, noOb, noObs, noAl, noAls, fz, fzs, owp, ow, D.subs, D.sub, D.put1, D.puts, fAdd, fII, fII0, fMul, fI, fIB, fOrd, fEqG, fIsN, fLen, fInt, fAbs, fSubB, fIsi, tyD, isiB, exOf, retD, T.mv, mask, startD, plAt, plPut, ixD, dIx, ixE, ixS, truD, strOk]
  refine ⟨ns, rfl, fun d e hd => ?_⟩
  unfold t_law_r32
  simp [sTryMany, clD, dTk, sRaise, sTryAs, sTry, dAt, flat, fIadd, dVar, dC, dNil, dCons, dFn, d2, d1, dLst, dTup, dLstV, dTupV, dTest, dTru, dNot, dAnd, dOr, dIf, dAndV, dOrV, dNotV, dChain, sNext, sSeq, sBreak, sCont, sDrop, sRet, sRetN, sIf, sAsg, gNm, gTupD, gTupD.go, sPar, dCall, T.vw, T.tk, vws, tks, Pd.resT, T.stay, isSh, isShs, noOb, noObs, noAl, noAls, fz, fzs, owp, ow, D.subs, D.sub, D.put1, D.puts, fAdd, fII, fII0, fMul, fI, fIB, fOrd, fEqG, fIsN, fLen, fInt, fAbs, fSubB, fIsi, tyD, isiB, exOf, retD, T.mv, mask, startD, plAt, plPut, ixD, dIx, ixE, ixS, truD, strOk, sForR1]
  rw [show (3 : Int) = ((3 : Nat) : Int) from rfl, rangeD_eq]
  refine forD_inv (fun j e => j ≤ 3 → EndT (10000 - 1000 * j) (some (.frl false (ns.map .int))) e) (k := 0) (fun _ => ⟨d, none, none, none, none, none, none, none, none, none, none, none, none, none, none, none, none, none, none, none, none, rfl, hd.mono (by decide)⟩) ?_ ?_
  · intro j i e hj hI next hnx
    obtain ⟨hjl, ek⟩ := List.getElem?_eq_some_iff.mp hj
    rw [List.length_range] at hjl
    obtain ⟨d, c2, c3, c4, c5, c6, c7, c8, c9, c10, c11, c12, c13, c14, c15, c16, c17, c18, c19, c20, c21, rfl, hd⟩ := hI (by omega)
    refine lw30 (f := 10000 - 1000 * (0 + j + 1)) (hd.mono (by omega)) fun e he => hnx e fun _ => he
  · intro e hI
    obtain ⟨d, c2, c3, c4, c5, c6, c7, c8, c9, c10, c11, c12, c13, c14, c15, c16, c17, c18, c19, c20, c21, rfl, hd⟩ := hI (by decide)
    have ok0 : SpOk [] := ⟨List.Pairwise.nil, by simp, by simp, by simp, by simp⟩
    have lots0 : lotsR [] = [] := by simp [lotsR, canon, parts, byFst]
    have pl : ∀ len times newest, planR [] len times newest = [] := fun len times newest => by
      unfold planR
      rw [lots0]
      rfl
    have st : setG 5 2 9 50 [] (mx (nums [] ++ [-1]) + 1) [] = ([], []) := by
      unfold setG
      rw [if_pos (pl _ _ _)]
    unfold t_law_r31
    simp [sTryMany, clD, dTk, sRaise, sTryAs, sTry, dAt, flat, fIadd, dVar, dC, dNil, dCons, dFn, d2, d1, dLst, dTup, dLstV, dTupV, dTest, dTru, dNot, dAnd, dOr, dIf, dAndV, dOrV, dNotV, dChain, sNext, sSeq, sBreak, sCont, sDrop, sRet, sRetN, sIf, sAsg, gNm, gTupD, gTupD.go, sPar, dCall, T.vw, T.tk, vws, tks, Pd.resT, T.stay, isSh, isShs, noOb, noObs, noAl, noAls, fz, fzs, owp, ow, D.subs, D.sub, D.put1, D.puts, fAdd, fII, fII0, fMul, fI, fIB, fOrd, fEqG, fIsN, fLen, fInt, fAbs, fSubB, fIsi, tyD, isiB, exOf, retD, T.mv, mask, startD, plAt, plPut, ixD, dIx, ixE, ixS, truD, strOk]
    refine ⟨[], 5, 2, 100, rfl, ok0, by decide, by decide, by decide, by decide, fun o e => ?_⟩
    rw [pl]
    have sh0 : SeqAt.shaped (toPy (.lst false [])) = true := by simp [SeqAt.shaped, toPy, toPys, PyData.canLay0, PyData.canLayAll0, PyData.depth, PyData.depthAll]
    have eq0 : eqD (.lst false []) (.lst false []) = true := by simp [eqD, toPy, toPys, PyData.eqv, PyData.eqvAll]
    have sh1 : SeqAt.shaped (toPy (.tup [.lst false [], .lst false []])) = true := by simp [SeqAt.shaped, toPy, toPys, PyData.canLay0, PyData.canLayAll0, PyData.depth, PyData.depthAll]
    have eq1 : eqD (.tup [.lst false [], .lst false []]) (.tup [.lst false [], .lst false []]) = true := by simp [eqD, toPy, toPys, PyData.eqv, PyData.eqvAll]
    have s0 : srtS [] = [] := by simp [srtS]
    simp [sTryMany, clD, dTk, sRaise, sTryAs, sTry, dAt, flat, fIadd, dVar, dC, dNil, dCons, dFn, d2, d1, dLst, dTup, dLstV, dTupV, dTest, dTru, dNot, dAnd, dOr, dIf, dAndV, dOrV, dNotV, dChain, sNext, sSeq, sBreak, sCont, sDrop, sRet, sRetN, sIf, sAsg, gNm, gTupD, gTupD.go, sPar, dCall, T.vw, T.tk, vws, tks, Pd.resT, T.stay, isSh, isShs, noOb, noObs, noAl, noAls, fz, fzs, owp, ow, D.subs, D.sub, D.put1, D.puts, fAdd, fII, fII0, fMul, fI, fIB, fOrd, fEqG, fIsN, fLen, fInt, fAbs, fSubB, fIsi, tyD, isiB, exOf, retD, T.mv, mask, startD, plAt, plPut, ixD, dIx, ixE, ixS, truD, strOk, pyOk, pyOks, sh0, eq0]
    refine ⟨[], 5, 2, 9, rfl, ok0, by decide, by decide, by decide, by decide, fun e => ?_⟩
    rw [st, s0]
    simp [sTryMany, clD, dTk, sRaise, sTryAs, sTry, dAt, flat, fIadd, dVar, dC, dNil, dCons, dFn, d2, d1, dLst, dTup, dLstV, dTupV, dTest, dTru, dNot, dAnd, dOr, dIf, dAndV, dOrV, dNotV, dChain, sNext, sSeq, sBreak, sCont, sDrop, sRet, sRetN, sIf, sAsg, gNm, gTupD, gTupD.go, sPar, dCall, T.vw, T.tk, vws, tks, Pd.resT, T.stay, isSh, isShs, noOb, noObs, noAl, noAls, fz, fzs, owp, ow, D.subs, D.sub, D.put1, D.puts, fAdd, fII, fII0, fMul, fI, fIB, fOrd, fEqG, fIsN, fLen, fInt, fAbs, fSubB, fIsi, tyD, isiB, exOf, retD, T.mv, mask, startD, plAt, plPut, ixD, dIx, ixE, ixS, truD, strOk, pyOk, pyOks, sh1, eq1, l2]
    exact h _

theorem h_start : ∀ ns : List Int, ns.length ≤ 63 → (∀ z ∈ ns, Builtin.Int.intBits z ≤ 1048576) → S_law [.frl false (ns.map .int)] (fun d _ => d = .bl true) (fun _ _ => False) := fun ns _ _ => ⟨ns, rfl, fun _ => rfl⟩
end Law
namespace Law
open PySem L2 PyProof.Rows Pd
/-- built-ins that the top has left alone -/
structure Nb (K : PySem.W.Frag) (mg : Str → Option Value) : Prop where
  z_abs : mg "abs" = none
  z_all : mg "all" = none
  z_any : mg "any" = none
  z_bool : mg "bool" = none
  z_dict : mg "dict" = none
  z_int : mg "int" = none
  z_isinstance : mg "isinstance" = none
  z_len : mg "len" = none
  z_list : mg "list" = none
  z_max : mg "max" = none
  z_min : mg "min" = none
  z_range : mg "range" = none
  z_set : mg "set" = none
  z_sorted : mg "sorted" = none
  z_str : mg "str" = none
  z_tuple : mg "tuple" = none
/-- the classes of errors -/
structure Ers (P : Program) (K : PySem.W.Frag) (mg : Str → Option Value) (c_MeterError c_Wrong : Addr) : Prop where
  e_Wrong : Er P K mg c_Wrong "Wrong"
  m_Wrong : mg "Wrong" = some (.ref c_Wrong)
  x_Wrong_Wrong : PySem.W.exmOne K (.ref c_Wrong) (.ref c_Wrong) = some true
abbrev top (i : Nat) : Stmt := PySem.Challenge.pw_meterhouse_k15_whole_plans_of_merges.main.body.getD i (.Pass ⟨0, 0, 0, 0⟩)
section
variable {P : Program} {w : World} {K : PySem.W.Frag} {mg : Str → Option Value} {base : Heap} {c_MeterError c_Wrong : Addr}
abbrev scheck_spans : Stmt := top 4
theorem sccheck_spans : FnScope ["spans", "at", "number", "first", "last", "one"] ["spans"] (defScope scheck_spans) := ⟨rfl, rfl, rfl, by decide +kernel, rfl, by decide +kernel, by decide +kernel⟩
theorem ok_check_spans {f : Addr} {fd : FuncData} (F : Fun K "check_spans" "check_spans" scheck_spans f fd) (Z : Nb K mg) (EE : Ers P K mg c_MeterError c_Wrong)  : FnOk P w K mg base (L2.CX P w) 3 f fd ["spans"] (SpD K [] S_check_spans) :=
  fnX (tb := t_check_spans) F sccheck_spans h_check_spans (fun cdv A outer s H E hr => have hu := hu_of hr;
    (pssd_one (psd_forR1 (passes_of rfl) rfl (by rfl) Z.z_range (pds_cons (pd_callB call_lenA snd_len (by rfl) Z.z_len bt_len (pds_cons (pd_var (i := 0)) pds_nil)) pds_nil) (pgd_name (i := 1) sccheck_spans.nd rfl (by first | exact .inl rfl | exact .inr rfl)) (pssd_cons (psd_asg (pd_ix hu (pd_var (i := 0)) (pd_var (i := 1))) (pgd_tup rfl (pgsd_cons (pgd_name (i := 2) sccheck_spans.nd rfl (by first | exact .inl rfl | exact .inr rfl)) (pgsd_cons (pgd_name (i := 3) sccheck_spans.nd rfl (by first | exact .inl rfl | exact .inr rfl)) (pgsd_cons (pgd_name (i := 4) sccheck_spans.nd rfl (by first | exact .inl rfl | exact .inr rfl)) pgsd_nil))) rfl)) (pssd_one (psd_if (PWD.pt (pwd_or (pt_cmpD (OpR.or op_gt op_gt_str) snd_ord (pd_var (i := 3)) (pd_var (i := 4)) (nomark _)) (pwd_or (pt_cmpD (OpR.or op_lt op_lt_str) snd_ord (pd_var (i := 2)) pd_int (nomark _)) (pwd_or1 (pt_cmpD (op_inB (hu65 hr)) snd_inB (pd_var (i := 2)) (pd_lc (own := [(("one" : Str), 5)]) rfl sccheck_spans.nd (pd_sl (pd_var (i := 0)) ppd_none (ppd_some (pd_var (i := 1)))) (blkOk_by (own := [(("one" : Str), 5)]) (by with_unfolding_all rfl)) (fun _ _ _ _ _ => (pgv_name (i := 5) sccheck_spans.nd rfl (by first | exact .inl rfl | exact .inr rfl))) (fun _ _ _ _ _ => ptv_nil) (fun _ _ _ _ _ => (pd_ix hu (pd_var (i := 5)) pd_int))) (by with_unfolding_all rfl)))))) (pssd_one (psd_raise rfl EE.e_Wrong hr (by decide) (by rfl) (pds_cons (pd_var (i := 1)) pds_nil))) pssd_nil)))))) p_check_spans

abbrev soverlapping : Stmt := top 5
theorem scoverlapping : FnScope ["spans", "order", "found", "here", "end", "first", "last", "number", "one"] ["spans"] (defScope soverlapping) := ⟨rfl, rfl, rfl, by decide +kernel, rfl, by decide +kernel, by decide +kernel⟩
theorem ok_overlapping {f : Addr} {fd : FuncData} (F : Fun K "overlapping" "overlapping" soverlapping f fd) (Z : Nb K mg) (EE : Ers P K mg c_MeterError c_Wrong) (ccheck_spans : Cal P w K mg base 3 "check_spans" ["spans"] [] S_check_spans) : FnOk P w K mg base (L2.CX P w) 4 f fd ["spans"] (SpD K [] S_overlapping) :=
  fnX (tb := t_overlapping) F scoverlapping h_overlapping (fun cdv A outer s H E hr => have hu := hu_of hr;
    (pssd_cons (psd_expr (pd_cal ccheck_spans (hr.mono (by decide)) (by rfl) (pds_cons (pd_var (i := 0)) pds_nil))) (pssd_cons (psd_set (i := 1) scoverlapping.nd rfl (by first | exact .inl rfl | exact .inr rfl) (pd_callB (cr_sortedD (hu65 hr)) snd_sorted (by rfl) Z.z_sorted bt_sorted (pds_cons (pd_lc (own := [(("number" : Str), 7), (("first" : Str), 5), (("last" : Str), 6)]) rfl scoverlapping.nd (pd_var (i := 0)) (blkOk_by (own := [(("number" : Str), 7), (("first" : Str), 5), (("last" : Str), 6)]) (by with_unfolding_all rfl)) (fun _ _ _ _ _ => (pgv_tup rfl (pgsv_cons (pgv_name (i := 7) scoverlapping.nd rfl (by first | exact .inl rfl | exact .inr rfl)) (pgsv_cons (pgv_name (i := 5) scoverlapping.nd rfl (by first | exact .inl rfl | exact .inr rfl)) (pgsv_cons (pgv_name (i := 6) scoverlapping.nd rfl (by first | exact .inl rfl | exact .inr rfl)) pgsv_nil))) rfl)) (fun _ _ _ _ _ => ptv_nil) (fun _ _ _ _ _ => (pd_tup (pds_cons (pd_var (i := 5)) (pds_cons (pd_var (i := 6)) (pds_cons (pd_var (i := 7)) pds_nil)))))) pds_nil))) (pssd_cons (psd_par3 (i := 2) (j := 3) (l := 4) rfl scoverlapping.nd rfl rfl rfl (by decide) (by decide) (by decide) rfl rfl rfl (pds_cons (pd_lst pds_nil) (pds_cons (pd_lst pds_nil) (pds_cons pd_non pds_nil))) rfl) (pssd_cons (psd_for (passes_of rfl) rfl (pd_tk (pd_var (i := 1))) (pgd_tup rfl (pgsd_cons (pgd_name (i := 5) scoverlapping.nd rfl (by first | exact .inl rfl | exact .inr rfl)) (pgsd_cons (pgd_name (i := 6) scoverlapping.nd rfl (by first | exact .inl rfl | exact .inr rfl)) (pgsd_cons (pgd_name (i := 7) scoverlapping.nd rfl (by first | exact .inl rfl | exact .inr rfl)) pgsd_nil))) rfl) (pssd_one (psd_if (PWD.pt (pwd_and (pt_cmpD op_notNA snd_isN (pd_var (i := 4)) pd_non (nomark _)) (pwd_and1 (pt_cmpD (OpR.or op_le op_le_str) snd_ord (pd_var (i := 5)) (pd_var (i := 4)) (nomark _))))) (pssd_cons (psd_expr (pd_app (pd_var (i := 3)) (pd_var (i := 7)))) (pssd_one (psd_set (i := 4) scoverlapping.nd rfl (by first | exact .inl rfl | exact .inr rfl) (pd_callB (call_maxA rfl) snd_mm (by rfl) Z.z_max bt_max (pds_cons (pd_var (i := 4)) (pds_cons (pd_var (i := 6)) pds_nil)))))) (pssd_cons (psd_expr (pd_app (pd_var (i := 2)) (pd_var (i := 3)))) (pssd_one (psd_par (i := 3) (j := 4) rfl scoverlapping.nd rfl rfl (by decide) rfl rfl (pds_cons (pd_lst (pds_cons (pd_var (i := 7)) pds_nil)) (pds_cons (pd_var (i := 6)) pds_nil)) rfl)))))) (pssd_cons (psd_expr (pd_app (pd_var (i := 2)) (pd_var (i := 3)))) (pssd_one (psd_ret (pd_callB (cr_sortedD (hu65 hr)) snd_sorted (by rfl) Z.z_sorted bt_sorted (pds_cons (pd_lc (own := [(("one" : Str), 8)]) rfl scoverlapping.nd (pd_tk (pd_var (i := 2))) (blkOk_by (own := [(("one" : Str), 8)]) (by with_unfolding_all rfl)) (fun _ _ _ _ _ => (pgv_name (i := 8) scoverlapping.nd rfl (by first | exact .inl rfl | exact .inr rfl))) (fun _ _ _ _ _ => ptv_one (pt_cmpD (OpR.or op_gt op_gt_str) snd_ord (pd_callB call_lenA snd_len (by rfl) Z.z_len bt_len (pds_cons (pd_var (i := 8)) pds_nil)) pd_int (nomark _))) (fun _ _ _ _ _ => (pd_callB (cr_sortedD (hu65 hr)) snd_sorted (by rfl) Z.z_sorted bt_sorted (pds_cons (pd_var (i := 8)) pds_nil)))) pds_nil)))))))))) p_overlapping

abbrev ssize_of : Stmt := top 6
theorem scsize_of : FnScope ["length", "times", "level", "found", "k"] ["length", "times", "level"] (defScope ssize_of) := ⟨rfl, rfl, rfl, by decide +kernel, rfl, by decide +kernel, by decide +kernel⟩
theorem ok_size_of {f : Addr} {fd : FuncData} (F : Fun K "size_of" "size_of" ssize_of f fd) (Z : Nb K mg) (EE : Ers P K mg c_MeterError c_Wrong)  : FnOk P w K mg base (L2.CX P w) 1 f fd ["length", "times", "level"] (SpD K [] S_size_of) :=
  fnX (tb := t_size_of) F scsize_of h_size_of (fun cdv A outer s H E hr => have hu := hu_of hr;
    (pssd_cons (psd_set (i := 3) scsize_of.nd rfl (by first | exact .inl rfl | exact .inr rfl) (pd_var (i := 0))) (pssd_cons (psd_forR1 (passes_of rfl) rfl (by rfl) Z.z_range (pds_cons (pd_var (i := 2)) pds_nil) (pgd_name (i := 4) scsize_of.nd rfl (by first | exact .inl rfl | exact .inr rfl)) (pssd_one (psd_set (i := 3) scsize_of.nd rfl (by first | exact .inl rfl | exact .inr rfl) (pd_op op_mulA snd_mul (pd_var (i := 3)) (pd_var (i := 1)))))) (pssd_one (psd_ret (pd_var (i := 3))))))) p_size_of

abbrev slevel_of : Stmt := top 7
theorem sclevel_of : FnScope ["span", "length", "times", "level"] ["span", "length", "times"] (defScope slevel_of) := ⟨rfl, rfl, rfl, by decide +kernel, rfl, by decide +kernel, by decide +kernel⟩
theorem ok_level_of {f : Addr} {fd : FuncData} (F : Fun K "level_of" "level_of" slevel_of f fd) (Z : Nb K mg) (EE : Ers P K mg c_MeterError c_Wrong) (csize_of : Cal P w K mg base 1 "size_of" ["length", "times", "level"] [] S_size_of) : FnOk P w K mg base (L2.CX P w) 2 f fd ["span", "length", "times"] (SpD K [] S_level_of) :=
  fnX (tb := t_level_of) F sclevel_of h_level_of (fun cdv A outer s H E hr => have hu := hu_of hr;
    (pssd_cons (psd_set (i := 3) sclevel_of.nd rfl (by first | exact .inl rfl | exact .inr rfl) pd_int) (pssd_cons (psd_while (passes_of rfl) (pt_cmpD (op_neA hr.units) snd_eq (pd_op op_fdivW snd_ii (pd_ix hu (pd_var (i := 0)) pd_int) (pd_cal csize_of (hr.mono (by decide)) (by rfl) (pds_cons (pd_var (i := 1)) (pds_cons (pd_var (i := 2)) (pds_cons (pd_var (i := 3)) pds_nil))))) (pd_op op_fdivW snd_ii (pd_ix hu (pd_var (i := 0)) pd_int) (pd_cal csize_of (hr.mono (by decide)) (by rfl) (pds_cons (pd_var (i := 1)) (pds_cons (pd_var (i := 2)) (pds_cons (pd_var (i := 3)) pds_nil))))) (nomark _)) (pssd_one (psd_aug (i := 3) sclevel_of.nd rfl (by first | exact .inl rfl | exact .inr rfl) iop_addA snd_iadd pd_int))) (pssd_one (psd_ret (pd_var (i := 3))))))) p_level_of

abbrev splan : Stmt := top 8
theorem scplan : FnScope ["spans", "length", "times", "newest", "lists", "most", "level", "size", "part", "inside", "span"] ["spans", "length", "times", "newest"] (defScope splan) := ⟨rfl, rfl, rfl, by decide +kernel, rfl, by decide +kernel, by decide +kernel⟩
theorem ok_plan {f : Addr} {fd : FuncData} (F : Fun K "plan" "plan" splan f fd) (Z : Nb K mg) (EE : Ers P K mg c_MeterError c_Wrong) (coverlapping : Cal P w K mg base 4 "overlapping" ["spans"] [] S_overlapping) (csize_of : Cal P w K mg base 1 "size_of" ["length", "times", "level"] [] S_size_of) : FnOk P w K mg base (L2.CX P w) 5 f fd ["spans", "length", "times", "newest"] (SpD K [] S_plan) :=
  fnX (tb := t_plan) F scplan h_plan (fun cdv A outer s H E hr => have hu := hu_of hr;
    (pssd_cons (psd_set (i := 4) scplan.nd rfl (by first | exact .inl rfl | exact .inr rfl) (pd_cal coverlapping (hr.mono (by decide)) (by rfl) (pds_cons (pd_var (i := 0)) pds_nil))) (pssd_cons (psd_if (pt_cmpD (OpR.or op_gt op_gt_str) snd_ord (pd_callB call_lenA snd_len (by rfl) Z.z_len bt_len (pds_cons (pd_var (i := 4)) pds_nil)) pd_int (nomark _)) (pssd_one (psd_ret (pd_ix hu (pd_var (i := 4)) pd_int))) pssd_nil) (pssd_cons (psd_if (pt_cmpD (op_eqA hr.units) snd_eq (pd_callB call_lenA snd_len (by rfl) Z.z_len bt_len (pds_cons (pd_var (i := 0)) pds_nil)) pd_int (nomark _)) (pssd_one (psd_ret (pd_lst pds_nil))) pssd_nil) (pssd_cons (psd_set (i := 5) scplan.nd rfl (by first | exact .inl rfl | exact .inr rfl) (pd_callB (call_maxA rfl) snd_mm (by rfl) Z.z_max bt_max (pds_cons (pd_lc (own := [(("span" : Str), 10)]) rfl scplan.nd (pd_var (i := 0)) (blkOk_by (own := [(("span" : Str), 10)]) (by with_unfolding_all rfl)) (fun _ _ _ _ _ => (pgv_name (i := 10) scplan.nd rfl (by first | exact .inl rfl | exact .inr rfl))) (fun _ _ _ _ _ => ptv_nil) (fun _ _ _ _ _ => (pd_ix hu (pd_var (i := 10)) pd_int))) pds_nil))) (pssd_cons (psd_set (i := 6) scplan.nd rfl (by first | exact .inl rfl | exact .inr rfl) pd_int) (pssd_cons (psd_while (passes_of rfl) (pt_cmpD (OpR.or op_le op_le_str) snd_ord (pd_cal csize_of (hr.mono (by decide)) (by rfl) (pds_cons (pd_var (i := 1)) (pds_cons (pd_var (i := 2)) (pds_cons (pd_op op_subA snd_sub (pd_var (i := 6)) pd_int) pds_nil)))) (pd_var (i := 5)) (nomark _)) (pssd_cons (psd_set (i := 7) scplan.nd rfl (by first | exact .inl rfl | exact .inr rfl) (pd_cal csize_of (hr.mono (by decide)) (by rfl) (pds_cons (pd_var (i := 1)) (pds_cons (pd_var (i := 2)) (pds_cons (pd_var (i := 6)) pds_nil))))) (pssd_cons (psd_for (passes_of rfl) rfl (pd_sortSet rfl (by rfl) Z.z_sorted (by rfl) Z.z_set (pd_lc (own := [(("span" : Str), 10)]) rfl scplan.nd (pd_var (i := 0)) (blkOk_by (own := [(("span" : Str), 10)]) (by with_unfolding_all rfl)) (fun _ _ _ _ _ => (pgv_name (i := 10) scplan.nd rfl (by first | exact .inl rfl | exact .inr rfl))) (fun _ _ _ _ _ => ptv_nil) (fun _ _ _ _ _ => (pd_op op_fdivW snd_ii (pd_ix hu (pd_var (i := 10)) pd_int) (pd_var (i := 7)))))) (pgd_name (i := 8) scplan.nd rfl (by first | exact .inl rfl | exact .inr rfl)) (pssd_cons (psd_setLc (i := 9) rfl scplan.nd rfl rfl (lcs (own := [(("span" : Str), 10)]) (pd_var (i := 0)) (blkOk_by (own := [(("span" : Str), 10)]) (by with_unfolding_all rfl)) (fun _ _ _ _ _ => (pgv_name (i := 10) scplan.nd rfl (by first | exact .inl rfl | exact .inr rfl))) (fun _ _ _ _ _ => ptv_one (PWD.pt (pwd_and (pt_cmpD (op_eqA hr.units) snd_eq (pd_op op_fdivW snd_ii (pd_ix hu (pd_var (i := 10)) pd_int) (pd_var (i := 7))) (pd_var (i := 8)) (nomark _)) (pwd_and1 (pt_cmpD (op_eqA hr.units) snd_eq (pd_op op_fdivW snd_ii (pd_ix hu (pd_var (i := 10)) pd_int) (pd_var (i := 7))) (pd_var (i := 8)) (nomark _)))))) (fun _ _ _ _ _ => (pd_ix hu (pd_var (i := 10)) pd_int))) (sw_true rfl rfl rfl (by decide +kernel))) (pssd_one (psd_if (PWD.pt (pwd_and (pt_cmpD (OpR.or op_gt op_gt_str) snd_ord (pd_callB call_lenA snd_len (by rfl) Z.z_len bt_len (pds_cons (pd_var (i := 9)) pds_nil)) pd_int (nomark _)) (pwd_and1 (pt_cmpD (OpR.or op_le op_le_str) snd_ord (pd_op op_mulA snd_mul (pd_op op_addA snd_add (pd_var (i := 8)) pd_int) (pd_var (i := 7))) (pd_var (i := 3)) (nomark _))))) (pssd_one (psd_ret (pd_callB (cr_sortedD (hu65 hr)) snd_sorted (by rfl) Z.z_sorted bt_sorted (pds_cons (pd_var (i := 9)) pds_nil)))) pssd_nil)))) (pssd_one (psd_aug (i := 6) scplan.nd rfl (by first | exact .inl rfl | exact .inr rfl) iop_addA snd_iadd pd_int))))) (pssd_one (psd_ret (pd_lst pds_nil)))))))))) p_plan

abbrev ssettled : Stmt := top 9
theorem scsettled : FnScope ["spans", "length", "times", "newest", "here", "merges", "following", "numbers", "inside", "span"] ["spans", "length", "times", "newest"] (defScope ssettled) := ⟨rfl, rfl, rfl, by decide +kernel, rfl, by decide +kernel, by decide +kernel⟩
theorem ok_settled {f : Addr} {fd : FuncData} (F : Fun K "settled" "settled" ssettled f fd) (Z : Nb K mg) (EE : Ers P K mg c_MeterError c_Wrong) (cplan : Cal P w K mg base 5 "plan" ["spans", "length", "times", "newest"] [] S_plan) : FnOk P w K mg base (L2.CX P w) 6 f fd ["spans", "length", "times", "newest"] (SpD K [] S_settled) :=
  fnX (tb := t_settled) F scsettled h_settled (fun cdv A outer s H E hr => have hu := hu_of hr;
    (pssd_cons (psd_set (i := 4) scsettled.nd rfl (by first | exact .inl rfl | exact .inr rfl) (pd_callTy call_list_of snd_listOf (by rfl) Z.z_list bt_list (pds_cons (pd_var (i := 0)) pds_nil))) (pssd_cons (psd_set (i := 5) scsettled.nd rfl (by first | exact .inl rfl | exact .inr rfl) (pd_lst pds_nil)) (pssd_cons (psd_set (i := 6) scsettled.nd rfl (by first | exact .inl rfl | exact .inr rfl) (pd_op op_addA snd_add (pd_callB (call_maxA rfl) snd_mm (by rfl) Z.z_max bt_max (pds_cons (pd_op op_addA snd_add (pd_lc (own := [(("span" : Str), 9)]) rfl scsettled.nd (pd_var (i := 0)) (blkOk_by (own := [(("span" : Str), 9)]) (by with_unfolding_all rfl)) (fun _ _ _ _ _ => (pgv_name (i := 9) scsettled.nd rfl (by first | exact .inl rfl | exact .inr rfl))) (fun _ _ _ _ _ => ptv_nil) (fun _ _ _ _ _ => (pd_ix hu (pd_var (i := 9)) pd_int))) (pd_lst (pds_cons pd_negc pds_nil))) pds_nil)) pd_int)) (pssd_one (psd_while (passes_of rfl) (pt_of_val pd_bl) (pssd_cons (psd_set (i := 7) scsettled.nd rfl (by first | exact .inl rfl | exact .inr rfl) (pd_cal cplan (hr.mono (by decide)) (by rfl) (pds_cons (pd_tk (pd_var (i := 4))) (pds_cons (pd_var (i := 1)) (pds_cons (pd_var (i := 2)) (pds_cons (pd_var (i := 3)) pds_nil)))))) (pssd_cons (psd_if (pt_cmpD (op_eqA hr.units) snd_eq (pd_callB call_lenA snd_len (by rfl) Z.z_len bt_len (pds_cons (pd_var (i := 7)) pds_nil)) pd_int (nomark _)) (pssd_one (psd_ret (pd_tup (pds_cons (pd_var (i := 5)) (pds_cons (pd_callB (cr_sortedD (hu65 hr)) snd_sorted (by rfl) Z.z_sorted bt_sorted (pds_cons (pd_var (i := 4)) pds_nil)) pds_nil))))) pssd_nil) (pssd_cons (psd_setLc (i := 8) rfl scsettled.nd rfl rfl (lcs (own := [(("span" : Str), 9)]) (pd_tk (pd_var (i := 4))) (blkOk_by (own := [(("span" : Str), 9)]) (by with_unfolding_all rfl)) (fun _ _ _ _ _ => (pgv_name (i := 9) scsettled.nd rfl (by first | exact .inl rfl | exact .inr rfl))) (fun _ _ _ _ _ => ptv_one (pt_cmpD (op_inB (hu65 hr)) snd_inB (pd_ix hu (pd_var (i := 9)) pd_int) (pd_var (i := 7)) (by with_unfolding_all rfl))) (fun _ _ _ _ _ => (pd_var (i := 9)))) (sw_true rfl rfl rfl (by decide +kernel))) (pssd_cons (psd_setLc (i := 4) rfl scsettled.nd rfl rfl (lcs (own := [(("span" : Str), 9)]) (pd_tk (pd_var (i := 4))) (blkOk_by (own := [(("span" : Str), 9)]) (by with_unfolding_all rfl)) (fun _ _ _ _ _ => (pgv_name (i := 9) scsettled.nd rfl (by first | exact .inl rfl | exact .inr rfl))) (fun _ _ _ _ _ => ptv_one (pt_cmpD (op_notInB (hu65 hr)) snd_inB (pd_ix hu (pd_var (i := 9)) pd_int) (pd_var (i := 7)) (by with_unfolding_all rfl))) (fun _ _ _ _ _ => (pd_var (i := 9)))) (sw_true rfl rfl rfl (by decide +kernel))) (pssd_cons (psd_expr (pd_app (pd_var (i := 4)) (pd_tup (pds_cons (pd_var (i := 6)) (pds_cons (pd_callB (call_minA rfl) snd_mm (by rfl) Z.z_min bt_min (pds_cons (pd_lc (own := [(("span" : Str), 9)]) rfl scsettled.nd (pd_tk (pd_var (i := 8))) (blkOk_by (own := [(("span" : Str), 9)]) (by with_unfolding_all rfl)) (fun _ _ _ _ _ => (pgv_name (i := 9) scsettled.nd rfl (by first | exact .inl rfl | exact .inr rfl))) (fun _ _ _ _ _ => ptv_nil) (fun _ _ _ _ _ => (pd_ix hu (pd_var (i := 9)) pd_int))) pds_nil)) (pds_cons (pd_callB (call_maxA rfl) snd_mm (by rfl) Z.z_max bt_max (pds_cons (pd_lc (own := [(("span" : Str), 9)]) rfl scsettled.nd (pd_tk (pd_var (i := 8))) (blkOk_by (own := [(("span" : Str), 9)]) (by with_unfolding_all rfl)) (fun _ _ _ _ _ => (pgv_name (i := 9) scsettled.nd rfl (by first | exact .inl rfl | exact .inr rfl))) (fun _ _ _ _ _ => ptv_nil) (fun _ _ _ _ _ => (pd_ix hu (pd_var (i := 9)) pd_int))) pds_nil)) pds_nil)))))) (pssd_cons (psd_expr (pd_app (pd_var (i := 5)) (pd_var (i := 7)))) (pssd_one (psd_aug (i := 6) scsettled.nd rfl (by first | exact .inl rfl | exact .inr rfl) iop_addA snd_iadd pd_int)))))))))))))) p_settled

abbrev s_law_draws : Stmt := top 11
theorem sc_law_draws : FnScope ["script", "numbers", "cell", "rest", "mixed", "k"] ["script"] (defScope s_law_draws) := ⟨rfl, rfl, rfl, by decide +kernel, rfl, by decide +kernel, by decide +kernel⟩
theorem ok_law_draws {f : Addr} {fd : FuncData} (F : Fun K "_law_draws" "_law_draws" s_law_draws f fd) (Z : Nb K mg) (EE : Ers P K mg c_MeterError c_Wrong)  : FnOk P w K mg base (L2.CX P w) 1 f fd ["script"] (SpD K [] S_law_draws) :=
  fnX (tb := t_law_draws) F sc_law_draws h_law_draws (fun cdv A outer s H E hr => have hu := hu_of hr;
    (pssd_cons (psd_set (i := 1) sc_law_draws.nd rfl (by first | exact .inl rfl | exact .inr rfl) (pd_lst pds_nil)) (pssd_cons (psd_for (passes_of rfl) rfl (pd_op op_addA snd_add (pd_callTy call_list_of snd_listOf (by rfl) Z.z_list bt_list (pds_cons (pd_sl (pd_var (i := 0)) ppd_none (ppd_some pd_int)) pds_nil)) (pd_lst (pds_cons pd_int pds_nil))) (pgd_name (i := 2) sc_law_draws.nd rfl (by first | exact .inl rfl | exact .inr rfl)) (pssd_cons (psd_set (i := 3) sc_law_draws.nd rfl (by first | exact .inl rfl | exact .inr rfl) (pd_callB call_abs snd_abs (by rfl) Z.z_abs bt_abs (pds_cons (pd_callTy call_intA snd_int (by rfl) Z.z_int bt_int (pds_cons (pd_var (i := 2)) pds_nil)) pds_nil))) (pssd_cons (psd_set (i := 4) sc_law_draws.nd rfl (by first | exact .inl rfl | exact .inr rfl) (pd_op op_addA snd_add (pd_op op_mod snd_ii (pd_callTy call_intA snd_int (by rfl) Z.z_int bt_int (pds_cons (pd_var (i := 2)) pds_nil)) pd_int) pd_int)) (pssd_one (psd_forR1 (passes_of rfl) rfl (by rfl) Z.z_range (pds_cons pd_int pds_nil) (pgd_name (i := 5) sc_law_draws.nd rfl (by first | exact .inl rfl | exact .inr rfl)) (pssd_one (psd_if (pt_cmpD (OpR.or op_ge op_ge_str) snd_ord (pd_var (i := 3)) pd_int (nomark _)) (pssd_cons (psd_expr (pd_app (pd_var (i := 1)) (pd_op op_mod snd_ii (pd_callTy call_intA snd_int (by rfl) Z.z_int bt_int (pds_cons (pd_var (i := 3)) pds_nil)) pd_int))) (pssd_one (psd_set (i := 3) sc_law_draws.nd rfl (by first | exact .inl rfl | exact .inr rfl) (pd_op op_fdivW snd_ii (pd_var (i := 3)) pd_int)))) (pssd_cons (psd_set (i := 4) sc_law_draws.nd rfl (by first | exact .inl rfl | exact .inr rfl) (pd_op op_mod snd_ii (pd_callTy call_intA snd_int (by rfl) Z.z_int bt_int (pds_cons (pd_op op_addA snd_add (pd_op op_addA snd_add (pd_op op_addA snd_add (pd_op op_mulA snd_mul (pd_var (i := 4)) pd_int) (pd_op op_mulA snd_mul pd_int (pd_var (i := 5)))) pd_int) (pd_var (i := 3))) pds_nil)) pd_int)) (pssd_one (psd_expr (pd_app (pd_var (i := 1)) (pd_op op_mod snd_ii (pd_callTy call_intA snd_int (by rfl) Z.z_int bt_int (pds_cons (pd_op op_fdivW snd_ii (pd_op op_mulA snd_mul (pd_var (i := 4)) pd_int) pd_int) pds_nil)) pd_int)))))))))))) (pssd_one (psd_ret (pd_disp (pkd_cons pd_str (pd_var (i := 1)) (pkd_cons pd_str pd_int pkd_nil)))))))) p_law_draws

abbrev s_law_next : Stmt := top 12
theorem sc_law_next : FnScope ["draws", "bound", "at"] ["draws", "bound"] (defScope s_law_next) := ⟨rfl, rfl, rfl, by decide +kernel, rfl, by decide +kernel, by decide +kernel⟩
theorem ok_law_next {f : Addr} {fd : FuncData} (F : Fun K "_law_next" "_law_next" s_law_next f fd) (Z : Nb K mg) (EE : Ers P K mg c_MeterError c_Wrong)  : FnOk P w K mg base (L2.CX P w) 1 f fd ["draws", "bound"] (SpD K [0] S_law_next) :=
  fnX (tb := t_law_next) F sc_law_next h_law_next (fun cdv A outer s H E hr => have hu := hu_of hr;
    (pssd_cons (psd_set (i := 2) sc_law_next.nd rfl (by first | exact .inl rfl | exact .inr rfl) (pd_callTy call_intA snd_int (by rfl) Z.z_int bt_int (pds_cons (pd_ix hu (pd_var (i := 0)) pd_str) pds_nil))) (pssd_cons (psd_asg (pd_op op_addA snd_add (pd_var (i := 2)) pd_int) (pgd_subD hu (pd_var (i := 0)) pd_str)) (pssd_one (psd_ret (pd_op op_mod snd_ii (pd_callTy call_intA snd_int (by rfl) Z.z_int bt_int (pds_cons (pd_op op_addA snd_add (pd_ix hu (pd_ix hu (pd_var (i := 0)) pd_str) (pd_op op_mod snd_ii (pd_var (i := 2)) (pd_callB call_lenA snd_len (by rfl) Z.z_len bt_len (pds_cons (pd_ix hu (pd_var (i := 0)) pd_str) pds_nil)))) (pd_op op_mulA snd_mul pd_int (pd_op op_fdivW snd_ii (pd_var (i := 2)) (pd_callB call_lenA snd_len (by rfl) Z.z_len bt_len (pds_cons (pd_ix hu (pd_var (i := 0)) pd_str) pds_nil))))) pds_nil)) (pd_var (i := 1)))))))) p_law_next

abbrev s_law_pick : Stmt := top 13
theorem sc_law_pick : FnScope ["draws", "things"] ["draws", "things"] (defScope s_law_pick) := ⟨rfl, rfl, rfl, by decide +kernel, rfl, by decide +kernel, by decide +kernel⟩
theorem ok_law_pick {f : Addr} {fd : FuncData} (F : Fun K "_law_pick" "_law_pick" s_law_pick f fd) (Z : Nb K mg) (EE : Ers P K mg c_MeterError c_Wrong) (c_law_next : Cal P w K mg base 1 "_law_next" ["draws", "bound"] [0] S_law_next) : FnOk P w K mg base (L2.CX P w) 2 f fd ["draws", "things"] (SpD K [0] S_law_pick) :=
  fnX (tb := t_law_pick) F sc_law_pick h_law_pick (fun cdv A outer s H E hr => have hu := hu_of hr;
    (pssd_one (psd_ret (pd_ix hu (pd_var (i := 1)) (pd_calIO c_law_next (hr.mono (by decide)) (by rfl) (pds_cons (pd_var (i := 0)) (pds_cons (pd_callB call_lenA snd_len (by rfl) Z.z_len bt_len (pds_cons (pd_var (i := 1)) pds_nil)) pds_nil))))))) p_law_pick

abbrev s_law_same : Stmt := top 14
theorem sc_law_same : FnScope ["x", "due", "key", "k"] ["x", "due"] (defScope s_law_same) := ⟨rfl, rfl, rfl, by decide +kernel, rfl, by decide +kernel, by decide +kernel⟩
theorem ok_law_same {f : Addr} {fd : FuncData} (F : Fun K "_law_same" "_law_same" s_law_same f fd) (hm : mg "_law_same" = some (.ref f)) (hb : Binds K fd ["x", "due"] []) (Z : Nb K mg) (EE : Ers P K mg c_MeterError c_Wrong)  : ∀ n, FnOk P w K mg base (L2.CX P w) (0 + n) f fd ["x", "due"] (SpD K [] (S_law_same n))
  | 0 => fnNever
  | n + 1 => have ih : Cal P w K mg base (0 + n) "_law_same" ["x", "due"] [] (S_law_same n) := ⟨f, fd, ok_law_same F hm hb Z EE  n, hm, F.kp, hb⟩
    fnX (tb := t_law_same S_law_same n) F sc_law_same (h_law_same n) (fun cdv A outer s H E hr => have hu := hu_of hr;
    (pssd_cons (psd_if (pt_cmpD op_isNA snd_isN (pd_var (i := 1)) pd_non (nomark _)) (pssd_one (psd_ret (pd_cmp op_isNA snd_isN (pd_var (i := 0)) pd_non (nomark _)))) pssd_nil) (pssd_cons (psd_if (pt_of_val (pd_callB call_isi snd_isi (by rfl) Z.z_isinstance bt_isinstance (pds_cons (pd_var (i := 1)) (pds_cons (pd_bty (by rfl) Z.z_bool bt_bool) pds_nil)))) (pssd_one (psd_ret (pd_and (pd_callB call_isi snd_isi (by rfl) Z.z_isinstance bt_isinstance (pds_cons (pd_var (i := 0)) (pds_cons (pd_bty (by rfl) Z.z_bool bt_bool) pds_nil))) (pd_one (pd_cmp (op_eqA hr.units) snd_eq (pd_var (i := 0)) (pd_var (i := 1)) (nomark _)))))) pssd_nil) (pssd_cons (psd_if (pt_of_val (pd_callB call_isi snd_isi (by rfl) Z.z_isinstance bt_isinstance (pds_cons (pd_var (i := 1)) (pds_cons (pd_bty (by rfl) Z.z_int bt_int) pds_nil)))) (pssd_one (psd_ret (pd_and (pd_callB call_isi snd_isi (by rfl) Z.z_isinstance bt_isinstance (pds_cons (pd_var (i := 0)) (pds_cons (pd_bty (by rfl) Z.z_int bt_int) pds_nil))) (pd_and (pd_not (pd_callB call_isi snd_isi (by rfl) Z.z_isinstance bt_isinstance (pds_cons (pd_var (i := 0)) (pds_cons (pd_bty (by rfl) Z.z_bool bt_bool) pds_nil)))) (pd_one (pd_cmp (op_eqA hr.units) snd_eq (pd_var (i := 0)) (pd_var (i := 1)) (nomark _))))))) pssd_nil) (pssd_cons (psd_if (pt_of_val (pd_callB call_isi snd_isi (by rfl) Z.z_isinstance bt_isinstance (pds_cons (pd_var (i := 1)) (pds_cons (pd_bty (by rfl) Z.z_str bt_str) pds_nil)))) (pssd_one (psd_ret (pd_and (pd_callB call_isi snd_isi (by rfl) Z.z_isinstance bt_isinstance (pds_cons (pd_var (i := 0)) (pds_cons (pd_bty (by rfl) Z.z_str bt_str) pds_nil))) (pd_one (pd_cmp (op_eqA hr.units) snd_eq (pd_var (i := 0)) (pd_var (i := 1)) (nomark _)))))) pssd_nil) (pssd_cons (psd_if (pt_of_val (pd_callB call_isi snd_isi (by rfl) Z.z_isinstance bt_isinstance (pds_cons (pd_var (i := 1)) (pds_cons (pd_bty (by rfl) Z.z_dict bt_dict) pds_nil)))) (pssd_cons (psd_if (PWD.pt (pwd_or (ptd_not (pt_of_val (pd_callB call_isi snd_isi (by rfl) Z.z_isinstance bt_isinstance (pds_cons (pd_var (i := 0)) (pds_cons (pd_bty (by rfl) Z.z_dict bt_dict) pds_nil))))) (pwd_or (pt_cmpD (op_neA hr.units) snd_eq (pd_callB call_lenA snd_len (by rfl) Z.z_len bt_len (pds_cons (pd_var (i := 0)) pds_nil)) (pd_callB call_lenA snd_len (by rfl) Z.z_len bt_len (pds_cons (pd_var (i := 1)) pds_nil)) (nomark _)) (pwd_or1 (ptd_not (pt_of_val (pd_callB (cr_all rfl) snd_all (by rfl) Z.z_all bt_all (pds_cons (pd_lc (own := [(("key" : Str), 2)]) rfl sc_law_same.nd (pd_var (i := 1)) (blkOk_by (own := [(("key" : Str), 2)]) (by with_unfolding_all rfl)) (fun _ _ _ _ _ => (pgv_name (i := 2) sc_law_same.nd rfl (by first | exact .inl rfl | exact .inr rfl))) (fun _ _ _ _ _ => ptv_nil) (fun _ _ _ _ _ => (pd_cmp (op_inB (hu65 hr)) snd_inB (pd_var (i := 2)) (pd_var (i := 0)) (by with_unfolding_all rfl)))) pds_nil)))))))) (pssd_one (psd_ret pd_bl)) pssd_nil) (pssd_one (psd_ret (pd_callB (cr_all rfl) snd_all (by rfl) Z.z_all bt_all (pds_cons (pd_lc (own := [(("key" : Str), 2)]) rfl sc_law_same.nd (pd_var (i := 1)) (blkOk_by (own := [(("key" : Str), 2)]) (by with_unfolding_all rfl)) (fun _ _ _ _ _ => (pgv_name (i := 2) sc_law_same.nd rfl (by first | exact .inl rfl | exact .inr rfl))) (fun _ _ _ _ _ => ptv_nil) (fun _ _ _ _ _ => (pd_cal ih hr (by rfl) (pds_cons (pd_ix hu (pd_var (i := 0)) (pd_var (i := 2))) (pds_cons (pd_ix hu (pd_var (i := 1)) (pd_var (i := 2))) pds_nil))))) pds_nil))))) pssd_nil) (pssd_cons (psd_if (pt_of_val (pd_callB call_isi snd_isi (by rfl) Z.z_isinstance bt_isinstance (pds_cons (pd_var (i := 1)) (pds_cons (pd_bty (by rfl) Z.z_list bt_list) pds_nil)))) (pssd_one (psd_ret (pd_and (pd_callB call_isi snd_isi (by rfl) Z.z_isinstance bt_isinstance (pds_cons (pd_var (i := 0)) (pds_cons (pd_bty (by rfl) Z.z_list bt_list) pds_nil))) (pd_and (pd_cmp (op_eqA hr.units) snd_eq (pd_callB call_lenA snd_len (by rfl) Z.z_len bt_len (pds_cons (pd_var (i := 0)) pds_nil)) (pd_callB call_lenA snd_len (by rfl) Z.z_len bt_len (pds_cons (pd_var (i := 1)) pds_nil)) (nomark _)) (pd_one (pd_callB (cr_all rfl) snd_all (by rfl) Z.z_all bt_all (pds_cons (pd_lcR1 (own := [(("k" : Str), 3)]) rfl sc_law_same.nd (by rfl) Z.z_range (pds_cons (pd_callB call_lenA snd_len (by rfl) Z.z_len bt_len (pds_cons (pd_var (i := 1)) pds_nil)) pds_nil) (blkOk_by (own := [(("k" : Str), 3)]) (by with_unfolding_all rfl)) (fun _ _ _ _ _ => (pgv_name (i := 3) sc_law_same.nd rfl (by first | exact .inl rfl | exact .inr rfl))) (fun _ _ _ _ _ => ptv_nil) (fun _ _ _ _ _ => (pd_cal ih hr (by rfl) (pds_cons (pd_ix hu (pd_var (i := 0)) (pd_var (i := 3))) (pds_cons (pd_ix hu (pd_var (i := 1)) (pd_var (i := 3))) pds_nil))))) pds_nil))))))) pssd_nil) (pssd_one (psd_ret (pd_and (pd_callB call_isi snd_isi (by rfl) Z.z_isinstance bt_isinstance (pds_cons (pd_var (i := 0)) (pds_cons (pd_bty (by rfl) Z.z_tuple bt_tuple) pds_nil))) (pd_and (pd_cmp (op_eqA hr.units) snd_eq (pd_callB call_lenA snd_len (by rfl) Z.z_len bt_len (pds_cons (pd_var (i := 0)) pds_nil)) (pd_callB call_lenA snd_len (by rfl) Z.z_len bt_len (pds_cons (pd_var (i := 1)) pds_nil)) (nomark _)) (pd_one (pd_callB (cr_all rfl) snd_all (by rfl) Z.z_all bt_all (pds_cons (pd_lcR1 (own := [(("k" : Str), 3)]) rfl sc_law_same.nd (by rfl) Z.z_range (pds_cons (pd_callB call_lenA snd_len (by rfl) Z.z_len bt_len (pds_cons (pd_var (i := 1)) pds_nil)) pds_nil) (blkOk_by (own := [(("k" : Str), 3)]) (by with_unfolding_all rfl)) (fun _ _ _ _ _ => (pgv_name (i := 3) sc_law_same.nd rfl (by first | exact .inl rfl | exact .inr rfl))) (fun _ _ _ _ _ => ptv_nil) (fun _ _ _ _ _ => (pd_cal ih hr (by rfl) (pds_cons (pd_ix hu (pd_var (i := 0)) (pd_var (i := 3))) (pds_cons (pd_ix hu (pd_var (i := 1)) (pd_var (i := 3))) pds_nil))))) pds_nil)))))))))))))) (p_law_same n)

abbrev s_law_lots : Stmt := top 15
theorem sc_law_lots : FnScope ["spans", "lots", "grows", "i", "span", "j", "lot", "other", "k", "one"] ["spans"] (defScope s_law_lots) := ⟨rfl, rfl, rfl, by decide +kernel, rfl, by decide +kernel, by decide +kernel⟩
theorem ok_law_lots {f : Addr} {fd : FuncData} (F : Fun K "_law_lots" "_law_lots" s_law_lots f fd) (Z : Nb K mg) (EE : Ers P K mg c_MeterError c_Wrong)  : FnOk P w K mg base (L2.CX P w) 1 f fd ["spans"] (SpD K [] S_law_lots) :=
  fnX (tb := t_law_lots) F sc_law_lots h_law_lots (fun cdv A outer s H E hr => have hu := hu_of hr;
    (pssd_cons (psd_set (i := 1) sc_law_lots.nd rfl (by first | exact .inl rfl | exact .inr rfl) (pd_lc (own := [(("span" : Str), 4)]) rfl sc_law_lots.nd (pd_var (i := 0)) (blkOk_by (own := [(("span" : Str), 4)]) (by with_unfolding_all rfl)) (fun _ _ _ _ _ => (pgv_name (i := 4) sc_law_lots.nd rfl (by first | exact .inl rfl | exact .inr rfl))) (fun _ _ _ _ _ => ptv_nil) (fun _ _ _ _ _ => (pd_fz (pd_lst (pds_cons (pd_var (i := 4)) pds_nil)))))) (pssd_cons (psd_set (i := 2) sc_law_lots.nd rfl (by first | exact .inl rfl | exact .inr rfl) pd_bl) (pssd_cons (psd_while (passes_of rfl) (pt_of_val (pd_var (i := 2))) (pssd_cons (psd_set (i := 2) sc_law_lots.nd rfl (by first | exact .inl rfl | exact .inr rfl) pd_bl) (pssd_one (psd_forR1 (passes_of rfl) rfl (by rfl) Z.z_range (pds_cons (pd_callB call_lenA snd_len (by rfl) Z.z_len bt_len (pds_cons (pd_var (i := 1)) pds_nil)) pds_nil) (pgd_name (i := 3) sc_law_lots.nd rfl (by first | exact .inl rfl | exact .inr rfl)) (pssd_cons (psd_forR1 (passes_of rfl) rfl (by rfl) Z.z_range (pds_cons (pd_var (i := 3)) pds_nil) (pgd_name (i := 5) sc_law_lots.nd rfl (by first | exact .inl rfl | exact .inr rfl)) (pssd_one (psd_if (PWD.pt (pwd_and (ptd_not (pt_of_val (pd_var (i := 2)))) (pwd_and1 (pt_of_val (pd_callB (cr_any rfl) snd_any (by rfl) Z.z_any bt_any (pds_cons (pd_lc (own := [(("other" : Str), 7)]) rfl sc_law_lots.nd (pd_ix hu (pd_var (i := 1)) (pd_var (i := 5))) (blkOk_by (own := [(("other" : Str), 7)]) (by with_unfolding_all rfl)) (fun _ _ _ _ _ => (pgv_name (i := 7) sc_law_lots.nd rfl (by first | exact .inl rfl | exact .inr rfl))) (fun _ _ _ _ _ => ptv_nil) (fun _ _ _ _ _ => (pd_fz (pd_callB (cr_any rfl) snd_any (by rfl) Z.z_any bt_any (pds_cons (pd_lc (own := [(("one" : Str), 9)]) rfl sc_law_lots.nd (pd_ix hu (pd_var (i := 1)) (pd_var (i := 3))) (blkOk_by (own := [(("one" : Str), 9)]) (by with_unfolding_all rfl)) (fun _ _ _ _ _ => (pgv_name (i := 9) sc_law_lots.nd rfl (by first | exact .inl rfl | exact .inr rfl))) (fun _ _ _ _ _ => ptv_nil) (fun _ _ _ _ _ => (pd_fz (pd_and (pd_cmp (OpR.or op_le op_le_str) snd_ord (pd_ix hu (pd_var (i := 9)) pd_int) (pd_ix hu (pd_var (i := 7)) pd_int) (nomark _)) (pd_one (pd_cmp (OpR.or op_le op_le_str) snd_ord (pd_ix hu (pd_var (i := 7)) pd_int) (pd_ix hu (pd_var (i := 9)) pd_int) (nomark _))))))) pds_nil))))) pds_nil)))))) (pssd_cons (psd_set (i := 1) sc_law_lots.nd rfl (by first | exact .inl rfl | exact .inr rfl) (pd_op op_addA snd_add (pd_lcR1 (own := [(("k" : Str), 8)]) rfl sc_law_lots.nd (by rfl) Z.z_range (pds_cons (pd_callB call_lenA snd_len (by rfl) Z.z_len bt_len (pds_cons (pd_var (i := 1)) pds_nil)) pds_nil) (blkOk_by (own := [(("k" : Str), 8)]) (by with_unfolding_all rfl)) (fun _ _ _ _ _ => (pgv_name (i := 8) sc_law_lots.nd rfl (by first | exact .inl rfl | exact .inr rfl))) (fun _ _ _ _ _ => ptv_one (pt_cmpD (op_notInB (hu65 hr)) snd_inB (pd_var (i := 8)) (pd_lstV (pds_cons (pd_var (i := 3)) (pds_cons (pd_var (i := 5)) pds_nil))) (by with_unfolding_all rfl))) (fun _ _ _ _ _ => (pd_fz (pd_ix hu (pd_var (i := 1)) (pd_var (i := 8)))))) (pd_lst (pds_cons (pd_op op_addA snd_add (pd_ix hu (pd_var (i := 1)) (pd_var (i := 3))) (pd_ix hu (pd_var (i := 1)) (pd_var (i := 5)))) pds_nil)))) (pssd_cons (psd_set (i := 2) sc_law_lots.nd rfl (by first | exact .inl rfl | exact .inr rfl) pd_bl) (pssd_one psd_break))) pssd_nil))) (pssd_one (psd_if (pt_of_val (pd_var (i := 2))) (pssd_one psd_break) pssd_nil))))))) (pssd_one (psd_ret (pd_callB (cr_sortedD (hu65 hr)) snd_sorted (by rfl) Z.z_sorted bt_sorted (pds_cons (pd_lc (own := [(("lot" : Str), 6)]) rfl sc_law_lots.nd (pd_tk (pd_var (i := 1))) (blkOk_by (own := [(("lot" : Str), 6)]) (by with_unfolding_all rfl)) (fun _ _ _ _ _ => (pgv_name (i := 6) sc_law_lots.nd rfl (by first | exact .inl rfl | exact .inr rfl))) (fun _ _ _ _ _ => ptv_one (pt_cmpD (OpR.or op_gt op_gt_str) snd_ord (pd_callB call_lenA snd_len (by rfl) Z.z_len bt_len (pds_cons (pd_var (i := 6)) pds_nil)) pd_int (nomark _))) (fun _ _ _ _ _ => (pd_fz (pd_callB (cr_sortedD (hu65 hr)) snd_sorted (by rfl) Z.z_sorted bt_sorted (pds_cons (pd_lc (own := [(("span" : Str), 4)]) rfl sc_law_lots.nd (pd_tk (pd_var (i := 6))) (blkOk_by (own := [(("span" : Str), 4)]) (by with_unfolding_all rfl)) (fun _ _ _ _ _ => (pgv_name (i := 4) sc_law_lots.nd rfl (by first | exact .inl rfl | exact .inr rfl))) (fun _ _ _ _ _ => ptv_nil) (fun _ _ _ _ _ => (pd_fz (pd_ix hu (pd_var (i := 4)) pd_int)))) pds_nil))))) pds_nil)))))))) p_law_lots

abbrev s_law_plan : Stmt := top 16
theorem sc_law_plan : FnScope ["spans", "length", "times", "newest", "lots", "size", "part", "inside", "span", "number", "first", "last"] ["spans", "length", "times", "newest"] (defScope s_law_plan) := ⟨rfl, rfl, rfl, by decide +kernel, rfl, by decide +kernel, by decide +kernel⟩
theorem ok_law_plan {f : Addr} {fd : FuncData} (F : Fun K "_law_plan" "_law_plan" s_law_plan f fd) (Z : Nb K mg) (EE : Ers P K mg c_MeterError c_Wrong) (c_law_lots : Cal P w K mg base 1 "_law_lots" ["spans"] [] S_law_lots) : FnOk P w K mg base (L2.CX P w) 2 f fd ["spans", "length", "times", "newest"] (SpD K [] S_law_plan) :=
  fnX (tb := t_law_plan) F sc_law_plan h_law_plan (fun cdv A outer s H E hr => have hu := hu_of hr;
    (pssd_cons (psd_set (i := 4) sc_law_plan.nd rfl (by first | exact .inl rfl | exact .inr rfl) (pd_cal c_law_lots (hr.mono (by decide)) (by rfl) (pds_cons (pd_var (i := 0)) pds_nil))) (pssd_cons (psd_if (pt_cmpD (OpR.or op_gt op_gt_str) snd_ord (pd_callB call_lenA snd_len (by rfl) Z.z_len bt_len (pds_cons (pd_var (i := 4)) pds_nil)) pd_int (nomark _)) (pssd_one (psd_ret (pd_ix hu (pd_var (i := 4)) pd_int))) pssd_nil) (pssd_cons (psd_set (i := 5) sc_law_plan.nd rfl (by first | exact .inl rfl | exact .inr rfl) (pd_op op_mulA snd_mul (pd_var (i := 1)) (pd_var (i := 2)))) (pssd_cons (psd_while (passes_of rfl) (PWD.pt (pwd_and (pt_cmpD (OpR.or op_gt op_gt_str) snd_ord (pd_callB call_lenA snd_len (by rfl) Z.z_len bt_len (pds_cons (pd_var (i := 0)) pds_nil)) pd_int (nomark _)) (pwd_and1 (pt_cmpD (OpR.or op_le op_le_str) snd_ord (pd_op op_fdivW snd_ii (pd_var (i := 5)) (pd_var (i := 2))) (pd_callB (call_maxA rfl) snd_mm (by rfl) Z.z_max bt_max (pds_cons (pd_lc (own := [(("span" : Str), 8)]) rfl sc_law_plan.nd (pd_var (i := 0)) (blkOk_by (own := [(("span" : Str), 8)]) (by with_unfolding_all rfl)) (fun _ _ _ _ _ => (pgv_name (i := 8) sc_law_plan.nd rfl (by first | exact .inl rfl | exact .inr rfl))) (fun _ _ _ _ _ => ptv_nil) (fun _ _ _ _ _ => (pd_ix hu (pd_var (i := 8)) pd_int))) pds_nil)) (nomark _))))) (pssd_cons (psd_forR1 (passes_of rfl) rfl (by rfl) Z.z_range (pds_cons (pd_op op_addA snd_add (pd_op op_fdivW snd_ii (pd_callB (call_maxA rfl) snd_mm (by rfl) Z.z_max bt_max (pds_cons (pd_lc (own := [(("span" : Str), 8)]) rfl sc_law_plan.nd (pd_var (i := 0)) (blkOk_by (own := [(("span" : Str), 8)]) (by with_unfolding_all rfl)) (fun _ _ _ _ _ => (pgv_name (i := 8) sc_law_plan.nd rfl (by first | exact .inl rfl | exact .inr rfl))) (fun _ _ _ _ _ => ptv_nil) (fun _ _ _ _ _ => (pd_ix hu (pd_var (i := 8)) pd_int))) pds_nil)) (pd_var (i := 5))) pd_int) pds_nil) (pgd_name (i := 6) sc_law_plan.nd rfl (by first | exact .inl rfl | exact .inr rfl)) (pssd_cons (psd_set (i := 7) sc_law_plan.nd rfl (by first | exact .inl rfl | exact .inr rfl) (pd_callB (cr_sortedD (hu65 hr)) snd_sorted (by rfl) Z.z_sorted bt_sorted (pds_cons (pd_lc (own := [(("number" : Str), 9), (("first" : Str), 10), (("last" : Str), 11)]) rfl sc_law_plan.nd (pd_var (i := 0)) (blkOk_by (own := [(("number" : Str), 9), (("first" : Str), 10), (("last" : Str), 11)]) (by with_unfolding_all rfl)) (fun _ _ _ _ _ => (pgv_tup rfl (pgsv_cons (pgv_name (i := 9) sc_law_plan.nd rfl (by first | exact .inl rfl | exact .inr rfl)) (pgsv_cons (pgv_name (i := 10) sc_law_plan.nd rfl (by first | exact .inl rfl | exact .inr rfl)) (pgsv_cons (pgv_name (i := 11) sc_law_plan.nd rfl (by first | exact .inl rfl | exact .inr rfl)) pgsv_nil))) rfl)) (fun _ _ _ _ _ => ptv_one (PWD.pt (pwd_and (pt_cmpD (OpR.or op_le op_le_str) snd_ord (pd_op op_mulA snd_mul (pd_var (i := 6)) (pd_var (i := 5))) (pd_var (i := 10)) (nomark _)) (pwd_and1 (pt_cmpD (OpR.or op_lt op_lt_str) snd_ord (pd_var (i := 11)) (pd_op op_mulA snd_mul (pd_op op_addA snd_add (pd_var (i := 6)) pd_int) (pd_var (i := 5))) (nomark _)))))) (fun _ _ _ _ _ => (pd_var (i := 9)))) pds_nil))) (pssd_one (psd_if (PWD.pt (pwd_and (pt_cmpD (OpR.or op_gt op_gt_str) snd_ord (pd_callB call_lenA snd_len (by rfl) Z.z_len bt_len (pds_cons (pd_var (i := 7)) pds_nil)) pd_int (nomark _)) (pwd_and1 (pt_cmpD (OpR.or op_le op_le_str) snd_ord (pd_op op_mulA snd_mul (pd_op op_addA snd_add (pd_var (i := 6)) pd_int) (pd_var (i := 5))) (pd_var (i := 3)) (nomark _))))) (pssd_one (psd_ret (pd_var (i := 7)))) pssd_nil)))) (pssd_one (psd_set (i := 5) sc_law_plan.nd rfl (by first | exact .inl rfl | exact .inr rfl) (pd_op op_mulA snd_mul (pd_var (i := 5)) (pd_var (i := 2))))))) (pssd_one (psd_ret (pd_lst pds_nil)))))))) p_law_plan

abbrev s_law_bad : Stmt := top 17
theorem sc_law_bad : FnScope ["spans", "e"] ["spans"] (defScope s_law_bad) := ⟨rfl, rfl, rfl, by decide +kernel, rfl, by decide +kernel, by decide +kernel⟩
theorem ok_law_bad {f : Addr} {fd : FuncData} (F : Fun K "_law_bad" "_law_bad" s_law_bad f fd) (Z : Nb K mg) (EE : Ers P K mg c_MeterError c_Wrong) (ccheck_spans : Cal P w K mg base 3 "check_spans" ["spans"] [] S_check_spans) : FnOk P w K mg base (L2.CX P w) 4 f fd ["spans"] (SpD K [] S_law_bad) :=
  fnX (tb := t_law_bad) F sc_law_bad h_law_bad (fun cdv A outer s H E hr => have hu := hu_of hr;
    (pssd_one (psd_tryAs (i := 1) rfl rfl sc_law_bad.nd rfl rfl ⟨by rfl, by decide, .inl EE.m_Wrong⟩ (by decide) (List.forall_mem_cons.mpr ⟨⟨_, EE.e_Wrong, EE.x_Wrong_Wrong⟩, (List.forall_mem_nil _)⟩) (List.forall_mem_nil _) (fun pn xe hp => (pssd_one (psd_ret (pd_cal ccheck_spans (hr.mono (by decide)) (by rfl) (pds_cons (pd_var (i := 0)) pds_nil))))) (fun a v d pn hv AT => (pssd_one (psd_ret (pd_lst (pds_cons pd_str (pds_cons (pd_at AT hv (i := 1)) pds_nil))))))))) p_law_bad

abbrev slaw : Stmt := top 18
theorem sclaw : FnScope ["script", "draws", "turn", "spans", "time", "k", "newest", "kept", "here", "merges", "following", "step", "span", "bad", "wrong", "length", "times", "first", "last", "numbers", "sizes", "inside"] ["script"] (defScope slaw) := ⟨rfl, rfl, rfl, by decide +kernel, rfl, by decide +kernel, by decide +kernel⟩
theorem ok_law {f : Addr} {fd : FuncData} (F : Fun K "law" "law" slaw f fd) (Z : Nb K mg) (EE : Ers P K mg c_MeterError c_Wrong) (c_law_draws : Cal P w K mg base 1 "_law_draws" ["script"] [] S_law_draws) (c_law_next : Cal P w K mg base 1 "_law_next" ["draws", "bound"] [0] S_law_next) (c_law_pick : Cal P w K mg base 2 "_law_pick" ["draws", "things"] [0] S_law_pick) (c_law_bad : Cal P w K mg base 4 "_law_bad" ["spans"] [] S_law_bad) (coverlapping : Cal P w K mg base 4 "overlapping" ["spans"] [] S_overlapping) (c_law_lots : Cal P w K mg base 1 "_law_lots" ["spans"] [] S_law_lots) (c_law_same : Cal P w K mg base 9 "_law_same" ["x", "due"] [] (S_law_same 8)) (cplan : Cal P w K mg base 5 "plan" ["spans", "length", "times", "newest"] [] S_plan) (c_law_plan : Cal P w K mg base 2 "_law_plan" ["spans", "length", "times", "newest"] [] S_law_plan) (csettled : Cal P w K mg base 6 "settled" ["spans", "length", "times", "newest"] [] S_settled) (clevel_of : Cal P w K mg base 2 "level_of" ["span", "length", "times"] [] S_level_of) : FnOk P w K mg base (L2.CX P w) 10 f fd ["script"] (SpD K [] S_law) :=
  fnX (tb := t_law) F sclaw h_law (fun cdv A outer s H E hr => have hu := hu_of hr;
    (pssd_cons (psd_set (i := 1) sclaw.nd rfl (by first | exact .inl rfl | exact .inr rfl) (pd_cal c_law_draws (hr.mono (by decide)) (by rfl) (pds_cons (pd_var (i := 0)) pds_nil))) (pssd_cons (psd_forR1 (passes_of rfl) rfl (by rfl) Z.z_range (pds_cons pd_int pds_nil) (pgd_name (i := 2) sclaw.nd rfl (by first | exact .inl rfl | exact .inr rfl)) (pssd_cons (psd_par (i := 15) (j := 16) rfl sclaw.nd rfl rfl (by decide) rfl rfl (pds_cons (pd_op op_addA snd_add pd_int (pd_calIO c_law_next (hr.mono (by decide)) (by rfl) (pds_cons (pd_var (i := 1)) (pds_cons pd_int pds_nil)))) (pds_cons (pd_op op_addA snd_add pd_int (pd_calIO c_law_next (hr.mono (by decide)) (by rfl) (pds_cons (pd_var (i := 1)) (pds_cons pd_int pds_nil)))) pds_nil)) rfl) (pssd_cons (psd_set (i := 3) sclaw.nd rfl (by first | exact .inl rfl | exact .inr rfl) (pd_lst pds_nil)) (pssd_cons (psd_set (i := 4) sclaw.nd rfl (by first | exact .inl rfl | exact .inr rfl) pd_int) (pssd_cons (psd_forR1 (passes_of rfl) rfl (by rfl) Z.z_range (pds_cons (pd_calIO c_law_next (hr.mono (by decide)) (by rfl) (pds_cons (pd_var (i := 1)) (pds_cons pd_int pds_nil))) pds_nil) (pgd_name (i := 5) sclaw.nd rfl (by first | exact .inl rfl | exact .inr rfl)) (pssd_cons (psd_set (i := 17) sclaw.nd rfl (by first | exact .inl rfl | exact .inr rfl) (pd_callB (call_maxA rfl) snd_mm (by rfl) Z.z_max bt_max (pds_cons pd_int (pds_cons (pd_op op_subA snd_sub (pd_op op_addA snd_add (pd_var (i := 4)) (pd_calIO c_law_next (hr.mono (by decide)) (by rfl) (pds_cons (pd_var (i := 1)) (pds_cons pd_int pds_nil)))) (pd_calIO c_law_pick (hr.mono (by decide)) (by rfl) (pds_cons (pd_var (i := 1)) (pds_cons (pd_lstV (pds_cons pd_int (pds_cons pd_int (pds_cons pd_int (pds_cons pd_int pds_nil))))) pds_nil)))) pds_nil)))) (pssd_cons (psd_set (i := 18) sclaw.nd rfl (by first | exact .inl rfl | exact .inr rfl) (pd_op op_addA snd_add (pd_var (i := 17)) (pd_calIO c_law_next (hr.mono (by decide)) (by rfl) (pds_cons (pd_var (i := 1)) (pds_cons (pd_var (i := 15)) pds_nil))))) (pssd_cons (psd_set (i := 4) sclaw.nd rfl (by first | exact .inl rfl | exact .inr rfl) (pd_op op_addA snd_add (pd_var (i := 18)) pd_int)) (pssd_one (psd_expr (pd_app (pd_var (i := 3)) (pd_tup (pds_cons (pd_op op_addA snd_add (pd_op op_mulA snd_mul pd_int (pd_var (i := 5))) (pd_calIO c_law_next (hr.mono (by decide)) (by rfl) (pds_cons (pd_var (i := 1)) (pds_cons pd_int pds_nil)))) (pds_cons (pd_var (i := 17)) (pds_cons (pd_var (i := 18)) pds_nil))))))))))) (pssd_cons (psd_if (pt_cmpD (op_eqA hr.units) snd_eq (pd_calIO c_law_next (hr.mono (by decide)) (by rfl) (pds_cons (pd_var (i := 1)) (pds_cons pd_int pds_nil))) pd_int (nomark _)) (pssd_one (psd_set (i := 3) sclaw.nd rfl (by first | exact .inl rfl | exact .inr rfl) (pd_rev (pd_var (i := 3))))) pssd_nil) (pssd_cons (psd_set (i := 6) sclaw.nd rfl (by first | exact .inl rfl | exact .inr rfl) (pd_calIO c_law_pick (hr.mono (by decide)) (by rfl) (pds_cons (pd_var (i := 1)) (pds_cons (pd_lstV (pds_cons (pd_var (i := 4)) (pds_cons (pd_op op_addA snd_add (pd_var (i := 4)) pd_int) (pds_cons (pd_calIO c_law_next (hr.mono (by decide)) (by rfl) (pds_cons (pd_var (i := 1)) (pds_cons (pd_op op_addA snd_add (pd_var (i := 4)) pd_int) pds_nil))) pds_nil)))) pds_nil)))) (pssd_cons (psd_set (i := 7) sclaw.nd rfl (by first | exact .inl rfl | exact .inr rfl) (pd_callTy call_list_of snd_listOf (by rfl) Z.z_list bt_list (pds_cons (pd_var (i := 3)) pds_nil))) (pssd_cons (psd_if (PWD.pt (pwd_or (pt_cmpD op_notNA snd_isN (pd_cal c_law_bad (hr.mono (by decide)) (by rfl) (pds_cons (pd_var (i := 3)) pds_nil)) pd_non (nomark _)) (pwd_or (ptd_not (pt_of_val (pd_cal c_law_same (hr.mono (by decide)) (by rfl) (pds_cons (pd_cal coverlapping (hr.mono (by decide)) (by rfl) (pds_cons (pd_var (i := 3)) pds_nil)) (pds_cons (pd_cal c_law_lots (hr.mono (by decide)) (by rfl) (pds_cons (pd_var (i := 3)) pds_nil)) pds_nil))))) (pwd_or1 (ptd_not (pt_of_val (pd_cal c_law_same (hr.mono (by decide)) (by rfl) (pds_cons (pd_cal cplan (hr.mono (by decide)) (by rfl) (pds_cons (pd_var (i := 3)) (pds_cons (pd_var (i := 15)) (pds_cons (pd_var (i := 16)) (pds_cons (pd_var (i := 6)) pds_nil))))) (pds_cons (pd_cal c_law_plan (hr.mono (by decide)) (by rfl) (pds_cons (pd_var (i := 3)) (pds_cons (pd_var (i := 15)) (pds_cons (pd_var (i := 16)) (pds_cons (pd_var (i := 6)) pds_nil))))) pds_nil))))))))) (pssd_one (psd_ret pd_bl)) pssd_nil) (pssd_cons (psd_set (i := 8) sclaw.nd rfl (by first | exact .inl rfl | exact .inr rfl) (pd_callTy call_list_of snd_listOf (by rfl) Z.z_list bt_list (pds_cons (pd_var (i := 3)) pds_nil))) (pssd_cons (psd_set (i := 9) sclaw.nd rfl (by first | exact .inl rfl | exact .inr rfl) (pd_lst pds_nil)) (pssd_cons (psd_set (i := 10) sclaw.nd rfl (by first | exact .inl rfl | exact .inr rfl) (pd_op op_addA snd_add (pd_callB (call_maxA rfl) snd_mm (by rfl) Z.z_max bt_max (pds_cons (pd_op op_addA snd_add (pd_lc (own := [(("span" : Str), 12)]) rfl sclaw.nd (pd_tk (pd_var (i := 3))) (blkOk_by (own := [(("span" : Str), 12)]) (by with_unfolding_all rfl)) (fun _ _ _ _ _ => (pgv_name (i := 12) sclaw.nd rfl (by first | exact .inl rfl | exact .inr rfl))) (fun _ _ _ _ _ => ptv_nil) (fun _ _ _ _ _ => (pd_ix hu (pd_var (i := 12)) pd_int))) (pd_lst (pds_cons pd_negc pds_nil))) pds_nil)) pd_int)) (pssd_cons (psd_forR1 (passes_of rfl) rfl (by rfl) Z.z_range (pds_cons pd_int pds_nil) (pgd_name (i := 11) sclaw.nd rfl (by first | exact .inl rfl | exact .inr rfl)) (pssd_cons (psd_set (i := 19) sclaw.nd rfl (by first | exact .inl rfl | exact .inr rfl) (pd_cal c_law_plan (hr.mono (by decide)) (by rfl) (pds_cons (pd_tk (pd_var (i := 8))) (pds_cons (pd_var (i := 15)) (pds_cons (pd_var (i := 16)) (pds_cons (pd_var (i := 6)) pds_nil)))))) (pssd_one (psd_if (pt_cmpD (OpR.or op_gt op_gt_str) snd_ord (pd_callB call_lenA snd_len (by rfl) Z.z_len bt_len (pds_cons (pd_var (i := 19)) pds_nil)) pd_int (nomark _)) (pssd_cons (psd_setLc (i := 21) rfl sclaw.nd rfl rfl (lcs (own := [(("span" : Str), 12)]) (pd_tk (pd_var (i := 8))) (blkOk_by (own := [(("span" : Str), 12)]) (by with_unfolding_all rfl)) (fun _ _ _ _ _ => (pgv_name (i := 12) sclaw.nd rfl (by first | exact .inl rfl | exact .inr rfl))) (fun _ _ _ _ _ => ptv_one (pt_cmpD (op_inB (hu65 hr)) snd_inB (pd_ix hu (pd_var (i := 12)) pd_int) (pd_var (i := 19)) (by with_unfolding_all rfl))) (fun _ _ _ _ _ => (pd_var (i := 12)))) (sw_true rfl rfl rfl (by decide +kernel))) (pssd_cons (psd_set (i := 8) sclaw.nd rfl (by first | exact .inl rfl | exact .inr rfl) (pd_op op_addA snd_add (pd_lc (own := [(("span" : Str), 12)]) rfl sclaw.nd (pd_tk (pd_var (i := 8))) (blkOk_by (own := [(("span" : Str), 12)]) (by with_unfolding_all rfl)) (fun _ _ _ _ _ => (pgv_name (i := 12) sclaw.nd rfl (by first | exact .inl rfl | exact .inr rfl))) (fun _ _ _ _ _ => ptv_one (pt_cmpD (op_notInB (hu65 hr)) snd_inB (pd_ix hu (pd_var (i := 12)) pd_int) (pd_var (i := 19)) (by with_unfolding_all rfl))) (fun _ _ _ _ _ => (pd_var (i := 12)))) (pd_lst (pds_cons (pd_tup (pds_cons (pd_var (i := 10)) (pds_cons (pd_callB (call_minA rfl) snd_mm (by rfl) Z.z_min bt_min (pds_cons (pd_lc (own := [(("span" : Str), 12)]) rfl sclaw.nd (pd_tk (pd_var (i := 21))) (blkOk_by (own := [(("span" : Str), 12)]) (by with_unfolding_all rfl)) (fun _ _ _ _ _ => (pgv_name (i := 12) sclaw.nd rfl (by first | exact .inl rfl | exact .inr rfl))) (fun _ _ _ _ _ => ptv_nil) (fun _ _ _ _ _ => (pd_ix hu (pd_var (i := 12)) pd_int))) pds_nil)) (pds_cons (pd_callB (call_maxA rfl) snd_mm (by rfl) Z.z_max bt_max (pds_cons (pd_lc (own := [(("span" : Str), 12)]) rfl sclaw.nd (pd_tk (pd_var (i := 21))) (blkOk_by (own := [(("span" : Str), 12)]) (by with_unfolding_all rfl)) (fun _ _ _ _ _ => (pgv_name (i := 12) sclaw.nd rfl (by first | exact .inl rfl | exact .inr rfl))) (fun _ _ _ _ _ => ptv_nil) (fun _ _ _ _ _ => (pd_ix hu (pd_var (i := 12)) pd_int))) pds_nil)) pds_nil)))) pds_nil)))) (pssd_cons (psd_expr (pd_app (pd_var (i := 9)) (pd_var (i := 19)))) (pssd_one (psd_set (i := 10) sclaw.nd rfl (by first | exact .inl rfl | exact .inr rfl) (pd_op op_addA snd_add (pd_var (i := 10)) pd_int)))))) pssd_nil)))) (pssd_cons (psd_if (PWD.pt (pwd_or (ptd_not (pt_of_val (pd_cal c_law_same (hr.mono (by decide)) (by rfl) (pds_cons (pd_cal csettled (hr.mono (by decide)) (by rfl) (pds_cons (pd_var (i := 3)) (pds_cons (pd_var (i := 15)) (pds_cons (pd_var (i := 16)) (pds_cons (pd_var (i := 6)) pds_nil))))) (pds_cons (pd_tupV (pds_cons (pd_var (i := 9)) (pds_cons (pd_callB (cr_sortedD (hu65 hr)) snd_sorted (by rfl) Z.z_sorted bt_sorted (pds_cons (pd_var (i := 8)) pds_nil)) pds_nil))) pds_nil))))) (pwd_or (pt_cmpD (op_neA hr.units) snd_eq (pd_var (i := 3)) (pd_var (i := 7)) (nomark _)) (pwd_or1 (pt_cmpD (OpR.or op_gt op_gt_str) snd_ord (pd_callB call_lenA snd_len (by rfl) Z.z_len bt_len (pds_cons (pd_cal c_law_lots (hr.mono (by decide)) (by rfl) (pds_cons (pd_tk (pd_var (i := 8))) pds_nil)) pds_nil)) pd_int (nomark _)))))) (pssd_one (psd_ret pd_bl)) pssd_nil) (pssd_cons (psd_for (passes_of rfl) rfl (pd_tk (pd_var (i := 3))) (pgd_name (i := 12) sclaw.nd rfl (by first | exact .inl rfl | exact .inr rfl)) (pssd_cons (psd_set (i := 20) sclaw.nd rfl (by first | exact .inl rfl | exact .inr rfl) (pd_lst (pds_cons (pd_var (i := 15)) pds_nil))) (pssd_cons (psd_while (passes_of rfl) (pt_cmpD (OpR.or op_le op_le_str) snd_ord (pd_ix hu (pd_var (i := 20)) pd_negc) (pd_ix hu (pd_var (i := 12)) pd_int) (nomark _)) (pssd_one (psd_expr (pd_app (pd_var (i := 20)) (pd_op op_mulA snd_mul (pd_ix hu (pd_var (i := 20)) pd_negc) (pd_var (i := 16))))))) (pssd_one (psd_if (pt_cmpD (op_neA hr.units) snd_eq (pd_cal clevel_of (hr.mono (by decide)) (by rfl) (pds_cons (pd_var (i := 12)) (pds_cons (pd_var (i := 15)) (pds_cons (pd_var (i := 16)) pds_nil)))) (pd_ix hu (pd_lcR1 (own := [(("k" : Str), 5)]) rfl sclaw.nd (by rfl) Z.z_range (pds_cons (pd_callB call_lenA snd_len (by rfl) Z.z_len bt_len (pds_cons (pd_var (i := 20)) pds_nil)) pds_nil) (blkOk_by (own := [(("k" : Str), 5)]) (by with_unfolding_all rfl)) (fun _ _ _ _ _ => (pgv_name (i := 5) sclaw.nd rfl (by first | exact .inl rfl | exact .inr rfl))) (fun _ _ _ _ _ => ptv_one (pt_cmpD (op_eqA hr.units) snd_eq (pd_op op_fdivW snd_ii (pd_ix hu (pd_var (i := 12)) pd_int) (pd_ix hu (pd_var (i := 20)) (pd_var (i := 5)))) (pd_op op_fdivW snd_ii (pd_ix hu (pd_var (i := 12)) pd_int) (pd_ix hu (pd_var (i := 20)) (pd_var (i := 5)))) (nomark _))) (fun _ _ _ _ _ => (pd_var (i := 5)))) pd_int) (nomark _)) (pssd_one (psd_ret pd_bl)) pssd_nil))))) (pssd_cons (psd_set (i := 13) sclaw.nd rfl (by first | exact .inl rfl | exact .inr rfl) (pd_calIO c_law_next (hr.mono (by decide)) (by rfl) (pds_cons (pd_var (i := 1)) (pds_cons (pd_op op_addA snd_add (pd_callB call_lenA snd_len (by rfl) Z.z_len bt_len (pds_cons (pd_var (i := 3)) pds_nil)) pd_int) pds_nil)))) (pssd_cons (psd_set (i := 14) sclaw.nd rfl (by first | exact .inl rfl | exact .inr rfl) (pd_calIO c_law_pick (hr.mono (by decide)) (by rfl) (pds_cons (pd_var (i := 1)) (pds_cons (pd_op op_addA snd_add (pd_lst (pds_cons (pd_tup (pds_cons pd_int (pds_cons pd_int (pds_cons pd_int pds_nil)))) (pds_cons (pd_tup (pds_cons pd_negc (pds_cons pd_int (pds_cons pd_int pds_nil)))) pds_nil))) (pd_lc (own := [(("span" : Str), 12)]) rfl sclaw.nd (pd_sl (pd_var (i := 3)) ppd_none (ppd_some (pd_var (i := 13)))) (blkOk_by (own := [(("span" : Str), 12)]) (by with_unfolding_all rfl)) (fun _ _ _ _ _ => (pgv_name (i := 12) sclaw.nd rfl (by first | exact .inl rfl | exact .inr rfl))) (fun _ _ _ _ _ => ptv_nil) (fun _ _ _ _ _ => (pd_tup (pds_cons (pd_ix hu (pd_var (i := 12)) pd_int) (pds_cons pd_int (pds_cons pd_int pds_nil))))))) pds_nil)))) (pssd_one (psd_if (ptd_not (pt_of_val (pd_cal c_law_same (hr.mono (by decide)) (by rfl) (pds_cons (pd_cal c_law_bad (hr.mono (by decide)) (by rfl) (pds_cons (pd_op op_addA snd_add (pd_op op_addA snd_add (pd_sl (pd_var (i := 3)) ppd_none (ppd_some (pd_var (i := 13)))) (pd_lst (pds_cons (pd_var (i := 14)) pds_nil))) (pd_sl (pd_var (i := 3)) (ppd_some (pd_var (i := 13))) ppd_none)) pds_nil)) (pds_cons (pd_lstV (pds_cons pd_str (pds_cons (pd_var (i := 13)) pds_nil))) pds_nil))))) (pssd_one (psd_ret pd_bl)) pssd_nil))))))))))))))))))) (pssd_one (psd_ret (pd_and (pd_cmp (op_eqA hr.units) snd_eq (pd_cal cplan (hr.mono (by decide)) (by rfl) (pds_cons (pd_lstV pds_nil) (pds_cons pd_int (pds_cons pd_int (pds_cons pd_int pds_nil))))) (pd_lstV pds_nil) (nomark _)) (pd_one (pd_cmp (op_eqA hr.units) snd_eq (pd_cal csettled (hr.mono (by decide)) (by rfl) (pds_cons (pd_lstV pds_nil) (pds_cons pd_int (pds_cons pd_int (pds_cons pd_int pds_nil))))) (pd_tupV (pds_cons (pd_lstV pds_nil) (pds_cons (pd_lstV pds_nil) pds_nil))) (nomark _))))))))) p_law

end
theorem all_mk {l : PySem.W.OpenLaw} {w : World} {K : PySem.W.Frag} {h : Heap} {mg : Str → Option Value} {fa f1 f2 f3 f4 f5 f6 f7 f8 f9 f10 f11 f12 f13 f14 : Addr} (X : K.In h) (G : h.Ns mainGlobals mg) (hfa : mg "law" = some (.ref fa))
    {od1 an1 od2 an2 od3 an3 od4 an4 od5 an5 od6 an6 od7 an7 od8 an8 od9 an9 od10 an10 od11 an11 od12 an12 od13 an13 od14 an14 : Option Addr} {sl1 sl2 sl3 sl4 sl5 sl6 sl7 sl8 sl9 sl10 sl11 sl12 sl13 sl14 : Array (Option Value)} {oc1 kV1 dc1 pm1 cd1 ct1 oc2 kV2 dc2 pm2 cd2 ct2 oc3 kV3 dc3 pm3 cd3 ct3 oc4 kV4 dc4 pm4 cd4 ct4 oc5 kV5 dc5 pm5 cd5 ct5 oc6 kV6 dc6 pm6 cd6 ct6 oc7 kV7 dc7 pm7 cd7 ct7 oc8 kV8 dc8 pm8 cd8 ct8 oc9 kV9 dc9 pm9 cd9 ct9 oc10 kV10 dc10 pm10 cd10 ct10 oc11 kV11 dc11 pm11 cd11 ct11 oc12 kV12 dc12 pm12 cd12 ct12 oc13 kV13 dc13 pm13 cd13 ct13 oc14 kV14 dc14 pm14 cd14 ct14 : Value}
    (a1 : PySem.W.nsIn K mainGlobals "check_spans" = some (some (.ref f1))) (l1 : K.lookup f1 = some ⟨oc1, od1, .func (PySem.W.fnOf "check_spans" "check_spans" (defArgs scheck_spans) (defBody scheck_spans) (defScope scheck_spans) .none kV1 dc1 pm1 an1 cd1 ct1), sl1⟩) (c1 : PySem.W.codeIn K cd1 "check_spans" = true) (k1 : PySem.W.keepIn K (.ref f1) = true)
    (a2 : PySem.W.nsIn K mainGlobals "overlapping" = some (some (.ref f2))) (l2 : K.lookup f2 = some ⟨oc2, od2, .func (PySem.W.fnOf "overlapping" "overlapping" (defArgs soverlapping) (defBody soverlapping) (defScope soverlapping) .none kV2 dc2 pm2 an2 cd2 ct2), sl2⟩) (c2 : PySem.W.codeIn K cd2 "overlapping" = true) (k2 : PySem.W.keepIn K (.ref f2) = true)
    (a3 : PySem.W.nsIn K mainGlobals "size_of" = some (some (.ref f3))) (l3 : K.lookup f3 = some ⟨oc3, od3, .func (PySem.W.fnOf "size_of" "size_of" (defArgs ssize_of) (defBody ssize_of) (defScope ssize_of) .none kV3 dc3 pm3 an3 cd3 ct3), sl3⟩) (c3 : PySem.W.codeIn K cd3 "size_of" = true) (k3 : PySem.W.keepIn K (.ref f3) = true)
    (a4 : PySem.W.nsIn K mainGlobals "level_of" = some (some (.ref f4))) (l4 : K.lookup f4 = some ⟨oc4, od4, .func (PySem.W.fnOf "level_of" "level_of" (defArgs slevel_of) (defBody slevel_of) (defScope slevel_of) .none kV4 dc4 pm4 an4 cd4 ct4), sl4⟩) (c4 : PySem.W.codeIn K cd4 "level_of" = true) (k4 : PySem.W.keepIn K (.ref f4) = true)
    (a5 : PySem.W.nsIn K mainGlobals "plan" = some (some (.ref f5))) (l5 : K.lookup f5 = some ⟨oc5, od5, .func (PySem.W.fnOf "plan" "plan" (defArgs splan) (defBody splan) (defScope splan) .none kV5 dc5 pm5 an5 cd5 ct5), sl5⟩) (c5 : PySem.W.codeIn K cd5 "plan" = true) (k5 : PySem.W.keepIn K (.ref f5) = true)
    (a6 : PySem.W.nsIn K mainGlobals "settled" = some (some (.ref f6))) (l6 : K.lookup f6 = some ⟨oc6, od6, .func (PySem.W.fnOf "settled" "settled" (defArgs ssettled) (defBody ssettled) (defScope ssettled) .none kV6 dc6 pm6 an6 cd6 ct6), sl6⟩) (c6 : PySem.W.codeIn K cd6 "settled" = true) (k6 : PySem.W.keepIn K (.ref f6) = true)
    (a7 : PySem.W.nsIn K mainGlobals "_law_draws" = some (some (.ref f7))) (l7 : K.lookup f7 = some ⟨oc7, od7, .func (PySem.W.fnOf "_law_draws" "_law_draws" (defArgs s_law_draws) (defBody s_law_draws) (defScope s_law_draws) .none kV7 dc7 pm7 an7 cd7 ct7), sl7⟩) (c7 : PySem.W.codeIn K cd7 "_law_draws" = true) (k7 : PySem.W.keepIn K (.ref f7) = true)
    (a8 : PySem.W.nsIn K mainGlobals "_law_next" = some (some (.ref f8))) (l8 : K.lookup f8 = some ⟨oc8, od8, .func (PySem.W.fnOf "_law_next" "_law_next" (defArgs s_law_next) (defBody s_law_next) (defScope s_law_next) .none kV8 dc8 pm8 an8 cd8 ct8), sl8⟩) (c8 : PySem.W.codeIn K cd8 "_law_next" = true) (k8 : PySem.W.keepIn K (.ref f8) = true)
    (a9 : PySem.W.nsIn K mainGlobals "_law_pick" = some (some (.ref f9))) (l9 : K.lookup f9 = some ⟨oc9, od9, .func (PySem.W.fnOf "_law_pick" "_law_pick" (defArgs s_law_pick) (defBody s_law_pick) (defScope s_law_pick) .none kV9 dc9 pm9 an9 cd9 ct9), sl9⟩) (c9 : PySem.W.codeIn K cd9 "_law_pick" = true) (k9 : PySem.W.keepIn K (.ref f9) = true)
    (a10 : PySem.W.nsIn K mainGlobals "_law_same" = some (some (.ref f10))) (l10 : K.lookup f10 = some ⟨oc10, od10, .func (PySem.W.fnOf "_law_same" "_law_same" (defArgs s_law_same) (defBody s_law_same) (defScope s_law_same) .none kV10 dc10 pm10 an10 cd10 ct10), sl10⟩) (c10 : PySem.W.codeIn K cd10 "_law_same" = true) (k10 : PySem.W.keepIn K (.ref f10) = true)
    (a11 : PySem.W.nsIn K mainGlobals "_law_lots" = some (some (.ref f11))) (l11 : K.lookup f11 = some ⟨oc11, od11, .func (PySem.W.fnOf "_law_lots" "_law_lots" (defArgs s_law_lots) (defBody s_law_lots) (defScope s_law_lots) .none kV11 dc11 pm11 an11 cd11 ct11), sl11⟩) (c11 : PySem.W.codeIn K cd11 "_law_lots" = true) (k11 : PySem.W.keepIn K (.ref f11) = true)
    (a12 : PySem.W.nsIn K mainGlobals "_law_plan" = some (some (.ref f12))) (l12 : K.lookup f12 = some ⟨oc12, od12, .func (PySem.W.fnOf "_law_plan" "_law_plan" (defArgs s_law_plan) (defBody s_law_plan) (defScope s_law_plan) .none kV12 dc12 pm12 an12 cd12 ct12), sl12⟩) (c12 : PySem.W.codeIn K cd12 "_law_plan" = true) (k12 : PySem.W.keepIn K (.ref f12) = true)
    (a13 : PySem.W.nsIn K mainGlobals "_law_bad" = some (some (.ref f13))) (l13 : K.lookup f13 = some ⟨oc13, od13, .func (PySem.W.fnOf "_law_bad" "_law_bad" (defArgs s_law_bad) (defBody s_law_bad) (defScope s_law_bad) .none kV13 dc13 pm13 an13 cd13 ct13), sl13⟩) (c13 : PySem.W.codeIn K cd13 "_law_bad" = true) (k13 : PySem.W.keepIn K (.ref f13) = true)
    (a14 : PySem.W.nsIn K mainGlobals "law" = some (some (.ref f14))) (l14 : K.lookup f14 = some ⟨oc14, od14, .func (PySem.W.fnOf "law" "law" (defArgs slaw) (defBody slaw) (defScope slaw) .none kV14 dc14 pm14 an14 cd14 ct14), sl14⟩) (c14 : PySem.W.codeIn K cd14 "law" = true) (k14 : PySem.W.keepIn K (.ref f14) = true)
    (z_abs : PySem.W.nsIn K mainGlobals "abs" = some none)
    (z_all : PySem.W.nsIn K mainGlobals "all" = some none)
    (z_any : PySem.W.nsIn K mainGlobals "any" = some none)
    (z_bool : PySem.W.nsIn K mainGlobals "bool" = some none)
    (z_dict : PySem.W.nsIn K mainGlobals "dict" = some none)
    (z_int : PySem.W.nsIn K mainGlobals "int" = some none)
    (z_isinstance : PySem.W.nsIn K mainGlobals "isinstance" = some none)
    (z_len : PySem.W.nsIn K mainGlobals "len" = some none)
    (z_list : PySem.W.nsIn K mainGlobals "list" = some none)
    (z_max : PySem.W.nsIn K mainGlobals "max" = some none)
    (z_min : PySem.W.nsIn K mainGlobals "min" = some none)
    (z_range : PySem.W.nsIn K mainGlobals "range" = some none)
    (z_set : PySem.W.nsIn K mainGlobals "set" = some none)
    (z_sorted : PySem.W.nsIn K mainGlobals "sorted" = some none)
    (z_str : PySem.W.nsIn K mainGlobals "str" = some none)
    (z_tuple : PySem.W.nsIn K mainGlobals "tuple" = some none)
    {c_MeterError c_Wrong fM : Addr}
    (e_Wrong : ErM l.prog K c_MeterError fM → Er l.prog K mg c_Wrong "Wrong")
    (e_MeterError : ErM l.prog K c_MeterError fM)
    (x_Wrong_Wrong : PySem.W.exmOne K (.ref c_Wrong) (.ref c_Wrong) = some true)
    : ∃ fd : FuncData, (∀ (s : Shared) (v : Value), BindsTo s fd ⟨[v], []⟩ [("script", v)]) ∧ ∀ base : Heap, K.In base → base.Ns mainGlobals mg → FnOk l.prog w K mg base (L2.CX l.prog w) 10 fa fd ["script"] (SpD K [] S_law) := by
  have e := hfa.symm.trans (PySem.W.mg_of X G a14)
  cases e
  have Z : Nb K mg := ⟨PySem.W.mg_none_of X G z_abs, PySem.W.mg_none_of X G z_all, PySem.W.mg_none_of X G z_any, PySem.W.mg_none_of X G z_bool, PySem.W.mg_none_of X G z_dict, PySem.W.mg_none_of X G z_int, PySem.W.mg_none_of X G z_isinstance, PySem.W.mg_none_of X G z_len, PySem.W.mg_none_of X G z_list, PySem.W.mg_none_of X G z_max, PySem.W.mg_none_of X G z_min, PySem.W.mg_none_of X G z_range, PySem.W.mg_none_of X G z_set, PySem.W.mg_none_of X G z_sorted, PySem.W.mg_none_of X G z_str, PySem.W.mg_none_of X G z_tuple⟩
  have EE : Ers l.prog K mg c_MeterError c_Wrong := ⟨e_Wrong e_MeterError, (e_Wrong e_MeterError).gl, x_Wrong_Wrong⟩
  have F1 := fun_mk (st := scheck_spans) l1 c1 k1
  have b1 := F1.binds (ps := ["spans"]) fun _ _ _ _ _ _ us hl => match us, hl with | [_], _ => rfl
  have F2 := fun_mk (st := soverlapping) l2 c2 k2
  have b2 := F2.binds (ps := ["spans"]) fun _ _ _ _ _ _ us hl => match us, hl with | [_], _ => rfl
  have F3 := fun_mk (st := ssize_of) l3 c3 k3
  have b3 := F3.binds (ps := ["length", "times", "level"]) fun _ _ _ _ _ _ us hl => match us, hl with | [_, _, _], _ => rfl
  have F4 := fun_mk (st := slevel_of) l4 c4 k4
  have b4 := F4.binds (ps := ["span", "length", "times"]) fun _ _ _ _ _ _ us hl => match us, hl with | [_, _, _], _ => rfl
  have F5 := fun_mk (st := splan) l5 c5 k5
  have b5 := F5.binds (ps := ["spans", "length", "times", "newest"]) fun _ _ _ _ _ _ us hl => match us, hl with | [_, _, _, _], _ => rfl
  have F6 := fun_mk (st := ssettled) l6 c6 k6
  have b6 := F6.binds (ps := ["spans", "length", "times", "newest"]) fun _ _ _ _ _ _ us hl => match us, hl with | [_, _, _, _], _ => rfl
  have F7 := fun_mk (st := s_law_draws) l7 c7 k7
  have b7 := F7.binds (ps := ["script"]) fun _ _ _ _ _ _ us hl => match us, hl with | [_], _ => rfl
  have F8 := fun_mk (st := s_law_next) l8 c8 k8
  have b8 := F8.binds (ps := ["draws", "bound"]) fun _ _ _ _ _ _ us hl => match us, hl with | [_, _], _ => rfl
  have F9 := fun_mk (st := s_law_pick) l9 c9 k9
  have b9 := F9.binds (ps := ["draws", "things"]) fun _ _ _ _ _ _ us hl => match us, hl with | [_, _], _ => rfl
  have F10 := fun_mk (st := s_law_same) l10 c10 k10
  have b10 := F10.binds (ps := ["x", "due"]) fun _ _ _ _ _ _ us hl => match us, hl with | [_, _], _ => rfl
  have F11 := fun_mk (st := s_law_lots) l11 c11 k11
  have b11 := F11.binds (ps := ["spans"]) fun _ _ _ _ _ _ us hl => match us, hl with | [_], _ => rfl
  have F12 := fun_mk (st := s_law_plan) l12 c12 k12
  have b12 := F12.binds (ps := ["spans", "length", "times", "newest"]) fun _ _ _ _ _ _ us hl => match us, hl with | [_, _, _, _], _ => rfl
  have F13 := fun_mk (st := s_law_bad) l13 c13 k13
  have b13 := F13.binds (ps := ["spans"]) fun _ _ _ _ _ _ us hl => match us, hl with | [_], _ => rfl
  have F14 := fun_mk (st := slaw) l14 c14 k14
  refine ⟨PySem.W.fnOf "law" "law" (defArgs slaw) (defBody slaw) (defScope slaw) .none kV14 dc14 pm14 an14 cd14 ct14, fun s v => .of_eq rfl, fun base _ _ => ?_⟩
  have C1 : Cal l.prog w K mg base 3 "check_spans" ["spans"] [] S_check_spans := ⟨_, _, ok_check_spans F1 Z EE , PySem.W.mg_of X G a1, k1, b1⟩
  have C2 : Cal l.prog w K mg base 4 "overlapping" ["spans"] [] S_overlapping := ⟨_, _, ok_overlapping F2 Z EE C1, PySem.W.mg_of X G a2, k2, b2⟩
  have C3 : Cal l.prog w K mg base 1 "size_of" ["length", "times", "level"] [] S_size_of := ⟨_, _, ok_size_of F3 Z EE , PySem.W.mg_of X G a3, k3, b3⟩
  have C4 : Cal l.prog w K mg base 2 "level_of" ["span", "length", "times"] [] S_level_of := ⟨_, _, ok_level_of F4 Z EE C3, PySem.W.mg_of X G a4, k4, b4⟩
  have C5 : Cal l.prog w K mg base 5 "plan" ["spans", "length", "times", "newest"] [] S_plan := ⟨_, _, ok_plan F5 Z EE C2 C3, PySem.W.mg_of X G a5, k5, b5⟩
  have C6 : Cal l.prog w K mg base 6 "settled" ["spans", "length", "times", "newest"] [] S_settled := ⟨_, _, ok_settled F6 Z EE C5, PySem.W.mg_of X G a6, k6, b6⟩
  have C7 : Cal l.prog w K mg base 1 "_law_draws" ["script"] [] S_law_draws := ⟨_, _, ok_law_draws F7 Z EE , PySem.W.mg_of X G a7, k7, b7⟩
  have C8 : Cal l.prog w K mg base 1 "_law_next" ["draws", "bound"] [0] S_law_next := ⟨_, _, ok_law_next F8 Z EE , PySem.W.mg_of X G a8, k8, b8⟩
  have C9 : Cal l.prog w K mg base 2 "_law_pick" ["draws", "things"] [0] S_law_pick := ⟨_, _, ok_law_pick F9 Z EE C8, PySem.W.mg_of X G a9, k9, b9⟩
  have C10 : Cal l.prog w K mg base 9 "_law_same" ["x", "due"] [] (S_law_same 8) := Cal.mono ⟨_, _, ok_law_same F10 (PySem.W.mg_of X G a10) b10 Z EE  8, PySem.W.mg_of X G a10, k10, b10⟩ (by decide)
  have C11 : Cal l.prog w K mg base 1 "_law_lots" ["spans"] [] S_law_lots := ⟨_, _, ok_law_lots F11 Z EE , PySem.W.mg_of X G a11, k11, b11⟩
  have C12 : Cal l.prog w K mg base 2 "_law_plan" ["spans", "length", "times", "newest"] [] S_law_plan := ⟨_, _, ok_law_plan F12 Z EE C11, PySem.W.mg_of X G a12, k12, b12⟩
  have C13 : Cal l.prog w K mg base 4 "_law_bad" ["spans"] [] S_law_bad := ⟨_, _, ok_law_bad F13 Z EE C1, PySem.W.mg_of X G a13, k13, b13⟩
  exact ok_law F14 Z EE C7 C8 C9 C13 C2 C11 C10 C5 C12 C6 C4
theorem walk {l : PySem.W.OpenLaw} {q : Program} {loose : List Str} {XP : (Str → Option Value) → Heap → Prop} {YP : World → Heap → Prop} {d : DefRec} {K : Params → PySem.W.Frag} (hn : l.most = some 63) (hdf : d.params.defaults = [])
    (hY : ∀ (w : World) (h : Heap), YP w h → (K w.params).In h)
    (F : ∀ (w : World) (mg : Str → Option Value) (fa : Addr) (h : Heap), (K w.params).In h → h.Ns mainGlobals mg → mg d.name = some (.ref fa) →
      ∃ fd : FuncData, (∀ (s : Shared) (u : Value), BindsTo s fd ⟨[u], []⟩ [("script", u)]) ∧ ∀ base : Heap, (K w.params).In base → base.Ns mainGlobals mg → FnOk l.prog w (K w.params) mg base (L2.CX l.prog w) 10 fa fd ["script"] (SpD (K w.params) [] S_law)) :
    PySem.W.WalkO q loose XP YP l.row.toRowW d [] (fun f vs => PySem.call f vs) :=
  L2.walk_ofB (n := 63) (k := 10) (x := "script") (CX := fun w => L2.CX l.prog w) (sp := fun w => SpD (K w.params) [] S_law) hn (by decide) hdf ⟨rfl, by decide, by decide⟩ hY F (fun _ _ a ns hl hb hO hS => law_start hl hb hO hS h_start) fun w => cx_no _ w
end Law
open PySem PySem.W PyProof.Rows
set_option maxRecDepth 100000 in
set_option maxHeartbeats 0 in
theorem PySem.Challenge.cw_meterhouse_k15_whole_plans_of_merges_holds : PySem.Challenge.rw_meterhouse_k15_whole_plans_of_merges.Holds := by
  w_on; o_law; k_head; (case hw => w_witness2)
  k_fill
  refine Law.walk (l := PySem.Challenge.rw_meterhouse_k15_whole_plans_of_merges) rfl rfl (fun w h Y => PySem.W.kIn_of Y) ?F
  case F =>
    intro w mg fa h KX G hmg
    refine' Law.all_mk KX G hmg ?a1 ?l1 ?c1 ?k1 ?a2 ?l2 ?c2 ?k2 ?a3 ?l3 ?c3 ?k3 ?a4 ?l4 ?c4 ?k4 ?a5 ?l5 ?c5 ?k5 ?a6 ?l6 ?c6 ?k6 ?a7 ?l7 ?c7 ?k7 ?a8 ?l8 ?c8 ?k8 ?a9 ?l9 ?c9 ?k9 ?a10 ?l10 ?c10 ?k10 ?a11 ?l11 ?c11 ?k11 ?a12 ?l12 ?c12 ?k12 ?a13 ?l13 ?c13 ?k13 ?a14 ?l14 ?c14 ?k14 ?z_abs ?z_all ?z_any ?z_bool ?z_dict ?z_int ?z_isinstance ?z_len ?z_list ?z_max ?z_min ?z_range ?z_set ?z_sorted ?z_str ?z_tuple ?e_Wrong ?e_MeterError ?x_Wrong_Wrong
    (case a1 => k_is)
    (case l1 => k_is)
    (case c1 => k_is)
    (case k1 => k_is)
    (case a2 => k_is)
    (case l2 => k_is)
    (case c2 => k_is)
    (case k2 => k_is)
    (case a3 => k_is)
    (case l3 => k_is)
    (case c3 => k_is)
    (case k3 => k_is)
    (case a4 => k_is)
    (case l4 => k_is)
    (case c4 => k_is)
    (case k4 => k_is)
    (case a5 => k_is)
    (case l5 => k_is)
    (case c5 => k_is)
    (case k5 => k_is)
    (case a6 => k_is)
    (case l6 => k_is)
    (case c6 => k_is)
    (case k6 => k_is)
    (case a7 => k_is)
    (case l7 => k_is)
    (case c7 => k_is)
    (case k7 => k_is)
    (case a8 => k_is)
    (case l8 => k_is)
    (case c8 => k_is)
    (case k8 => k_is)
    (case a9 => k_is)
    (case l9 => k_is)
    (case c9 => k_is)
    (case k9 => k_is)
    (case a10 => k_is)
    (case l10 => k_is)
    (case c10 => k_is)
    (case k10 => k_is)
    (case a11 => k_is)
    (case l11 => k_is)
    (case c11 => k_is)
    (case k11 => k_is)
    (case a12 => k_is)
    (case l12 => k_is)
    (case c12 => k_is)
    (case k12 => k_is)
    (case a13 => k_is)
    (case l13 => k_is)
    (case c13 => k_is)
    (case k13 => k_is)
    (case a14 => k_is)
    (case l14 => k_is)
    (case c14 => k_is)
    (case k14 => k_is)
    (case z_abs => k_is)
    (case z_all => k_is)
    (case z_any => k_is)
    (case z_bool => k_is)
    (case z_dict => k_is)
    (case z_int => k_is)
    (case z_isinstance => k_is)
    (case z_len => k_is)
    (case z_list => k_is)
    (case z_max => k_is)
    (case z_min => k_is)
    (case z_range => k_is)
    (case z_set => k_is)
    (case z_sorted => k_is)
    (case z_str => k_is)
    (case z_tuple => k_is)
    case e_Wrong =>
      intro EM
      refine' Pd.er_mk KX G EM ⟨"Wrong.__init__", ⟨10, 17, 10, 21⟩, ⟨10, 23, 10, 25⟩, fun n => [⟨11, 8, 11, 13⟩, ⟨11, 8, 11, 15⟩, ⟨11, 8, 11, 24⟩, ⟨11, 25, 11, 27⟩, ⟨11, 29, 11, 36⟩, ⟨11, 8, 11, 37⟩, ⟨11, 8, 11, 37⟩].getD n ⟨0, 0, 0, 0⟩, Pd.supfn_mk (st := L2.inClass (Law.top 2) 0) ?l ?c ?lc ?hvs ?hf ?lcc rfl ?ty ?fn, fun env => ⟨_, rfl⟩⟩ ?aC ?xL ?ne ?sC ?sM ?subC ?subM ?subV ?sa ?ga ?gg ?na ?nn ?iC ?kC ?eC ?tC ?hC
      (case aC => k_is)
      (case xL => k_is)
      (case iC => k_is)
      (case sC => ks_is)
      (case sM => ks_is)
      (case l => k_is)
      (case c => k_is)
      (case lc => k_is)
      (case hvs => rfl)
      (case hf => rfl)
      (case lcc => k_is)
      (case ty => k_is)
      (case fn => k_is)
      (case ne => rfl)
      (case subC => k_is)
      (case subM => k_is)
      (case subV => k_is)
      (case sa => k_is)
      (case ga => k_is)
      (case gg => k_is)
      (case na => k_is)
      (case nn => k_is)
      (case kC => k_is)
      (case eC => k_is)
      (case tC => k_is)
      (case hC => k_is)
    case e_MeterError =>
      refine' Pd.ErM.mk ?top ?sup ?any ⟨⟨4, 17, 4, 21⟩, ⟨4, 23, 4, 25⟩, ⟨4, 27, 4, 31⟩, ⟨4, 32, 4, 44⟩, fun n => [⟨5, 8, 5, 13⟩, ⟨5, 8, 5, 15⟩, ⟨5, 8, 5, 24⟩, ⟨5, 25, 5, 27⟩, ⟨5, 8, 5, 28⟩, ⟨5, 8, 5, 28⟩, ⟨6, 8, 6, 12⟩, ⟨6, 8, 6, 15⟩, ⟨6, 18, 6, 20⟩, ⟨6, 8, 6, 20⟩, ⟨7, 8, 7, 12⟩, ⟨7, 8, 7, 17⟩, ⟨7, 20, 7, 24⟩, ⟨7, 8, 7, 24⟩].getD n ⟨0, 0, 0, 0⟩, Pd.supfn_mk (st := L2.inClass (Law.top 1) 0) ?l ?c ?lc ?hvs ?hf ?lcc (Pd.dfl_mk ?lT) ?ty ?fn, fun env => ⟨_, rfl⟩⟩ ?mcl
      (case l => k_is)
      (case c => k_is)
      (case lc => k_is)
      (case hvs => rfl)
      (case hf => rfl)
      (case lcc => k_is)
      (case lT => k_is)
      (case ty => k_is)
      (case fn => k_is)
      (case mcl => k_is)
      (case top => rfl)
      (case sup => k_is)
      (case any => k_is)
    case x_Wrong_Wrong => refine' Pd.exm_mk ?h1 ?h2 ?h3 ?h4; (case h1 => k_is); (case h2 => k_is); (case h3 => k_is); (case h4 => first | rfl | k_is)
