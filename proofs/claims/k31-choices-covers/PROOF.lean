import PyProof.Rows.All
import Wide.All
import OpenK.AllK
import Wide.FinOn
import HandS.Base
import HandS.Call
import HandS.List
import HandS.Comp
import HandS.Ends
import HandS.Dict
import HandS.Iter
import HandS.Text
import HandS.More
import HandS.Exc
import HandS.ExcOwn
import HandS.ExcCtx
import HandS.ExcInit
import HandS.ExcInitHot
import HandS.HotCalls
import HandS.ExcIs
import HandS.ExcField
import HandS.ExcSuper
import HandS.Nested
import HandS.NestedHot
import HandS.TryOnly
import KE.KExcSuper
import HandS.GenBody
import HandS.GenYield
import HandS.GenCall
import HandS.GenList
import HandS.Words
import HandS.WordsList
import HandS.WordsExc
import HandS.Flow
import HandS.IsInst
import HandS.CallSlots
import HandS.Defaults
import HandS.HeadHook1
import HandS.HeadHook2
import KE.KeyNested
import HandS.Wide
import KE.DataEq
import HandS.TupAny
import HandS.Star
import KE.KExcIs
import HandS.Property
import HandS.OwnEq
import HandS.Conv
import PyProof.Rows.TupTab
import HandS.Small
import KE.KStateDown
import HandS.Head0
import HandS.Head1
import HandS.Head2
import HandS.HeadEnd
import PySem.Challenge.RW_touchstone_k31_choices_and_covers
set_option Elab.async false
set_option linter.all false
set_option maxRecDepth 100000
set_option maxHeartbeats 2000000
/-! PD: data D, owned trees T, the relation between slots and the abstract heap. -/
namespace PD
open PySem PySem.Spec PyProof.Rows L2

inductive D where
  | non | bl (b : Bool) | int (i : Int) | str (x : Str)
  | lst (xs : List D) | tup (xs : List D)
  | scr (xs : List D)
  | dct (ks vs : List D)
  | ins (c : Str) (ns : List Str) (vs : List D)
  | exn (a : Addr) (dd : Option Addr) (c : Str) (ns : List Str) (vs : List D)
inductive T where
  | sh (d : D)
  | lst (ts : List T) | tup (ts : List T)
  | dct (ks : List D) (ts : List T)
  | ins (c : Str) (ns : List Str) (ts : List T)
inductive Sl where
  | un | v (t : T) | p (k : Nat) (t : T)
structure Exn where
  c : Str
  ns : List Str
  ds : List D

def kD : Key → D
  | .inl i => .int i
  | .inr x => .str x
/-- a dict's object by its keys and values -/
def DH (ks : List D) (xs : List V) (o : HO) : Prop :=
  (∃ kk : List Key, ks = kk.map kD ∧ kk.length = xs.length ∧ o = .dK (kk.zip xs)) ∨
  (∃ kk : List (List Key), ks = kk.map (fun l => D.tup (l.map kD)) ∧ kk.length = xs.length ∧ o = .dT (kk.zip xs))

/-! ### dicts whose keys are nested tuples of whole numbers, every value True -/
mutual
def numK : NestedKey → Bool
  | .num _ => true
  | .tup ks => numKs ks
  | _ => false
def numKs : List NestedKey → Bool
  | [] => true
  | k :: ks => numK k && numKs ks
end
mutual
def nkD : NestedKey → D
  | .num i => .int i
  | .tup ks => .tup (nkDs ks)
  | _ => .non
def nkDs : List NestedKey → List D
  | [] => []
  | k :: ks => nkD k :: nkDs ks
end
/-- such a dict at a: its keys, where their tuples stand -/
def NX (a : Addr) (L : List (NestedKey × Addr)) : HO := .ext fun h => (a == sysModules) = false ∧ L.length ≤ sizeLine ∧ (L.map (·.1)).Nodup ∧ (∀ x ∈ L, numK x.1 = true ∧ x.1.depth ≤ 8) ∧
  ∃ (w : World) (o : Obj) (es : Array DictEntry) (ep : Nat), h.get? a = some o ∧ o.ExactDict ∧ o.data = .dict es ep ∧ es.toList = L.map fun x => (⟨x.1.hash w, .ref x.2, .bool true⟩ : DictEntry)
def DN (a : Addr) (ks : List D) (xs : List V) (o : HO) (L : List (NestedKey × Addr)) : Prop := o = NX a L ∧ ks = L.map (fun x => nkD x.1) ∧ xs = L.map fun _ => .bl true

mutual
def Rp (K : PySem.W.Frag) (G : Hp) : D → V → Prop
  | .non, v => v = .non
  | .bl b, v => v = .bl b
  | .int i, v => v = .int i
  | .str x, v => v = .str x
  | .lst ds, v => ∃ a xs, v = .ref a ∧ G a = some (.lst xs) ∧ RpL K G ds xs
  | .scr ds, v => ∃ a xs, v = .ref a ∧ SqL K G a xs ∧ RpL K G ds xs
  | .tup ds, v => ∃ a xs, v = .ref a ∧ SqT K G a xs ∧ RpL K G ds xs
  | .dct ks ds, v => ∃ a o xs, v = .ref a ∧ G a = some o ∧ (DH ks xs o ∨ ∃ L, DN a ks xs o L ∧ RpL K G ks (L.map fun x => .ref x.2)) ∧ RpL K G ds xs
  | .ins c ns ds, v => ∃ a dx xs, v = .ref a ∧ G a = some (.ins (He.ga K c) dx (ns.zip xs)) ∧ ns.length = xs.length ∧ RpL K G ds xs
  | .exn a dd _ ns ds, v => v = .ref a ∧ ∃ xs, ns.length = xs.length ∧ RpL K G ds xs ∧ ((ns = [] ∧ dd = none) ∨ ∃ da, dd = some da ∧ G da = some (.xd (ns.zip xs)))
def RpL (K : PySem.W.Frag) (G : Hp) : List D → List V → Prop
  | [], xs => xs = []
  | d :: ds, xs => ∃ x r, xs = x :: r ∧ Rp K G d x ∧ RpL K G ds r
end

mutual
def RT (K : PySem.W.Frag) (G H : Hp) : T → V → List Addr → Prop
  | .sh d, v, fp => Rp K G d v ∧ fp = []
  | .lst ts, v, fp => ∃ a xs f, v = .ref a ∧ H a = some (.lst xs) ∧ RTL K G H ts xs f ∧ fp = a :: f
  | .tup ts, v, fp => ∃ a xs f, v = .ref a ∧ H a = some (.tup xs) ∧ RTL K G H ts xs f ∧ fp = a :: f
  | .dct ks ts, v, fp => ∃ a o xs f, v = .ref a ∧ H a = some o ∧ (DH ks xs o ∨ ∃ L, DN a ks xs o L ∧ RpL K G ks (L.map fun x => .ref x.2)) ∧ RTL K G H ts xs f ∧ fp = a :: f
  | .ins c ns ts, v, fp => ∃ a dx xs f, v = .ref a ∧ H a = some (.ins (He.ga K c) dx (ns.zip xs)) ∧ ns.length = xs.length ∧ RTL K G H ts xs f ∧ fp = a :: f
def RTL (K : PySem.W.Frag) (G H : Hp) : List T → List V → List Addr → Prop
  | [], xs, fp => xs = [] ∧ fp = []
  | t :: ts, xs, fp => ∃ x r f1 f2, xs = x :: r ∧ RT K G H t x f1 ∧ RTL K G H ts r f2 ∧ fp = f1 ++ f2
end

mutual
def T.d : T → D
  | .sh d => d
  | .lst ts => .lst (T.ds ts)
  | .tup ts => .tup (T.ds ts)
  | .dct ks ts => .dct ks (T.ds ts)
  | .ins c ns ts => .ins c ns (T.ds ts)
def T.ds : List T → List D
  | [] => []
  | t :: ts => t.d :: T.ds ts
end
theorem T.ds_map : ∀ ts : List T, T.ds ts = ts.map T.d
  | [] => by simp [T.ds]
  | t :: ts => by simp [T.ds, T.ds_map ts]
def D.scal : D → Bool
  | .non => true | .bl _ => true | .int _ => true | .str _ => true
  | _ => false
mutual
def T.scal : T → Bool
  | .sh d => d.scal
  | .lst ts => T.scals ts
  | .tup ts => T.scals ts
  | .dct _ _ => false
  | .ins _ _ ts => T.scals ts
def T.scals : List T → Bool
  | [] => true
  | t :: ts => t.scal && T.scals ts
end
theorem T.scals_all : ∀ ts : List T, T.scals ts = ts.all T.scal
  | [] => by simp [T.scals]
  | t :: ts => by simp [T.scals, T.scals_all ts]

/-! ### heaps -/
def Ext (G G' : Hp) : Prop := ∀ b o, G b = some o → G' b = some o
theorem Ext.refl (G : Hp) : Ext G G := fun _ _ h => h
theorem Ext.trans {A B C : Hp} (a : Ext A B) (b : Ext B C) : Ext A C := fun c o h => b c o (a c o h)
theorem Ext.new {H : Hp} {p : Addr} {o : HO} (h : H p = none) : Ext H (upd H p o) := fun a u e => by
  rw [upd_ne (ne_of_none e h)]
  exact e
def Lk : HO → Prop
  | .dK _ => True
  | .dT _ => True
  | _ => False
/-- the shared part of a heap (a dict of it may be locked) -/
def Sub (G H : Hp) : Prop := ∀ a o, G a = some o → H a = some o ∨ (Lk o ∧ ∃ ob, H a = some (.frz ob o))
theorem Ext.sub {G H : Hp} (e : Ext G H) : Sub G H := fun a o h => .inl (e a o h)
theorem Sub.list {K : PySem.W.Frag} {G H : Hp} {a : Addr} {xs : List V} (s : Sub G H) (h : SqL K G a xs) : SqL K H a xs := by
  rcases h with (h | ⟨o, h⟩) | h
  · rcases s a _ h with q | ⟨q, _⟩
    · exact .inl (.inl q)
    · exact q.elim
  · rcases s a _ h with q | ⟨q, _⟩
    · exact .inl (.inr ⟨o, q⟩)
    · exact q.elim
  · exact .inr h
theorem Sub.tup {K : PySem.W.Frag} {G H : Hp} {a : Addr} {xs : List V} (s : Sub G H) (h : SqT K G a xs) : SqT K H a xs := by
  rcases h with (h | ⟨o, h⟩) | h
  · rcases s a _ h with q | ⟨q, _⟩
    · exact .inl (.inl q)
    · exact q.elim
  · rcases s a _ h with q | ⟨q, _⟩
    · exact .inl (.inr ⟨o, q⟩)
    · exact q.elim
  · exact .inr h
theorem Sub.lst {G H : Hp} {a : Addr} {xs : List V} (s : Sub G H) (h : G a = some (.lst xs)) : H a = some (.lst xs) := by
  rcases s a _ h with q | ⟨q, _⟩
  · exact q
  · exact q.elim
theorem Sub.ins {G H : Hp} {a C dx : Addr} {fs : List (Str × V)} (s : Sub G H) (h : G a = some (.ins C dx fs)) : H a = some (.ins C dx fs) := by
  rcases s a _ h with q | ⟨q, _⟩
  · exact q
  · exact q.elim
theorem Ext.sql {K : PySem.W.Frag} {G H : Hp} {a : Addr} {xs : List V} (s : Ext G H) (h : SqL K G a xs) : SqL K H a xs := s.sub.list h
theorem Ext.sqt {K : PySem.W.Frag} {G H : Hp} {a : Addr} {xs : List V} (s : Ext G H) (h : SqT K G a xs) : SqT K H a xs := s.sub.tup h

section
variable {K : PySem.W.Frag} {G G' H H' : Hp}
mutual
theorem Rp.mono (e : Ext G G') : ∀ (d : D) (v : V), Rp K G d v → Rp K G' d v
  | .non, _, h => by simpa only [Rp] using h
  | .bl _, _, h => by simpa only [Rp] using h
  | .int _, _, h => by simpa only [Rp] using h
  | .str _, _, h => by simpa only [Rp] using h
  | .lst ds, v, h => by
    simp only [Rp] at h ⊢
    obtain ⟨a, xs, h1, h2, h3⟩ := h
    exact ⟨a, xs, h1, e _ _ h2, RpL.mono e ds xs h3⟩
  | .scr ds, v, h => by
    simp only [Rp] at h ⊢
    obtain ⟨a, xs, h1, h2, h3⟩ := h
    exact ⟨a, xs, h1, e.sql h2, RpL.mono e ds xs h3⟩
  | .tup ds, v, h => by
    simp only [Rp] at h ⊢
    obtain ⟨a, xs, h1, h2, h3⟩ := h
    exact ⟨a, xs, h1, e.sqt h2, RpL.mono e ds xs h3⟩
  | .dct ks ds, v, h => by
    simp only [Rp] at h ⊢
    obtain ⟨a, o, xs, h1, h2, h3, h4⟩ := h
    exact ⟨a, o, xs, h1, e _ _ h2, h3.imp id (fun ⟨L, p1, p2⟩ => ⟨L, p1, RpL.mono e ks _ p2⟩), RpL.mono e ds xs h4⟩
  | .ins c ns ds, v, h => by
    simp only [Rp] at h ⊢
    obtain ⟨a, dx, xs, h1, h2, h3, h4⟩ := h
    exact ⟨a, dx, xs, h1, e _ _ h2, h3, RpL.mono e ds xs h4⟩
  | .exn a dd c ns ds, v, h => by
    simp only [Rp] at h ⊢
    obtain ⟨h1, xs, h2, h3, h4⟩ := h
    exact ⟨h1, xs, h2, RpL.mono e ds xs h3, h4.imp id fun ⟨da, q1, q2⟩ => ⟨da, q1, e _ _ q2⟩⟩
theorem RpL.mono (e : Ext G G') : ∀ (ds : List D) (xs : List V), RpL K G ds xs → RpL K G' ds xs
  | [], _, h => by simpa only [RpL] using h
  | d :: ds, xs, h => by
    simp only [RpL] at h ⊢
    obtain ⟨x, r, h1, h2, h3⟩ := h
    exact ⟨x, r, h1, Rp.mono e d x h2, RpL.mono e ds r h3⟩
end
theorem RpL.iff : ∀ {ds : List D} {xs : List V}, RpL K G ds xs ↔ Paired (Rp K G) ds xs
  | [], xs => by
    simp only [RpL]
    constructor
    · rintro rfl; exact .nil
    · intro h; cases h; rfl
  | d :: ds, xs => by
    simp only [RpL]
    constructor
    · rintro ⟨x, r, rfl, h1, h2⟩
      exact .cons h1 (RpL.iff.mp h2)
    · intro h
      cases h with
      | cons h1 h2 => exact ⟨_, _, rfl, h1, RpL.iff.mpr h2⟩
theorem RpL.length {ds : List D} {xs : List V} (h : RpL K G ds xs) : ds.length = xs.length := Paired.length (RpL.iff.mp h)
mutual
theorem RT.frame (e : Ext G G') : ∀ (t : T) (v : V) (fp : List Addr), (∀ a ∈ fp, ∀ o, H a = some o → H' a = some o) → RT K G H t v fp → RT K G' H' t v fp
  | .sh d, v, fp, k, h => by
    simp only [RT] at h ⊢
    exact ⟨Rp.mono e d v h.1, h.2⟩
  | .lst ts, v, fp, k, h => by
    simp only [RT] at h ⊢
    obtain ⟨a, xs, f, h1, h2, h3, rfl⟩ := h
    exact ⟨a, xs, f, h1, k a (List.mem_cons_self) _ h2, RTL.frame e ts xs f (fun b hb => k b (List.mem_cons_of_mem _ hb)) h3, rfl⟩
  | .tup ts, v, fp, k, h => by
    simp only [RT] at h ⊢
    obtain ⟨a, xs, f, h1, h2, h3, rfl⟩ := h
    exact ⟨a, xs, f, h1, k a (List.mem_cons_self) _ h2, RTL.frame e ts xs f (fun b hb => k b (List.mem_cons_of_mem _ hb)) h3, rfl⟩
  | .dct ks ts, v, fp, k, h => by
    simp only [RT] at h ⊢
    obtain ⟨a, o, xs, f, h1, h2, h4, h3, rfl⟩ := h
    exact ⟨a, o, xs, f, h1, k a (List.mem_cons_self) _ h2, h4.imp id (fun ⟨L, p1, p2⟩ => ⟨L, p1, RpL.mono e ks _ p2⟩), RTL.frame e ts xs f (fun b hb => k b (List.mem_cons_of_mem _ hb)) h3, rfl⟩
  | .ins c ns ts, v, fp, k, h => by
    simp only [RT] at h ⊢
    obtain ⟨a, dx, xs, f, h1, h2, h4, h3, rfl⟩ := h
    exact ⟨a, dx, xs, f, h1, k a (List.mem_cons_self) _ h2, h4, RTL.frame e ts xs f (fun b hb => k b (List.mem_cons_of_mem _ hb)) h3, rfl⟩
theorem RTL.frame (e : Ext G G') : ∀ (ts : List T) (xs : List V) (fp : List Addr), (∀ a ∈ fp, ∀ o, H a = some o → H' a = some o) → RTL K G H ts xs fp → RTL K G' H' ts xs fp
  | [], _, _, _, h => by simpa only [RTL] using h
  | t :: ts, xs, fp, k, h => by
    simp only [RTL] at h ⊢
    obtain ⟨x, r, f1, f2, h1, h2, h3, rfl⟩ := h
    exact ⟨x, r, f1, f2, h1, RT.frame e t x f1 (fun b hb => k b (List.mem_append_left _ hb)) h2, RTL.frame e ts r f2 (fun b hb => k b (List.mem_append_right _ hb)) h3, rfl⟩
end
mutual
theorem RT.dom : ∀ (t : T) (v : V) (fp : List Addr), RT K G H t v fp → ∀ a ∈ fp, ∃ o, H a = some o
  | .sh d, v, fp, h => by
    simp only [RT] at h
    intro a ha
    rw [h.2] at ha
    exact absurd ha (List.not_mem_nil)
  | .lst ts, v, fp, h => by
    simp only [RT] at h
    obtain ⟨a, xs, f, h1, h2, h3, rfl⟩ := h
    intro b hb
    rcases List.mem_cons.mp hb with rfl | hb
    · exact ⟨_, h2⟩
    · exact RTL.dom ts xs f h3 b hb
  | .tup ts, v, fp, h => by
    simp only [RT] at h
    obtain ⟨a, xs, f, h1, h2, h3, rfl⟩ := h
    intro b hb
    rcases List.mem_cons.mp hb with rfl | hb
    · exact ⟨_, h2⟩
    · exact RTL.dom ts xs f h3 b hb
  | .dct ks ts, v, fp, h => by
    simp only [RT] at h
    obtain ⟨a, o, xs, f, h1, h2, h4, h3, rfl⟩ := h
    intro b hb
    rcases List.mem_cons.mp hb with rfl | hb
    · exact ⟨_, h2⟩
    · exact RTL.dom ts xs f h3 b hb
  | .ins c ns ts, v, fp, h => by
    simp only [RT] at h
    obtain ⟨a, dx, xs, f, h1, h2, h4, h3, rfl⟩ := h
    intro b hb
    rcases List.mem_cons.mp hb with rfl | hb
    · exact ⟨_, h2⟩
    · exact RTL.dom ts xs f h3 b hb
theorem RTL.dom : ∀ (ts : List T) (xs : List V) (fp : List Addr), RTL K G H ts xs fp → ∀ a ∈ fp, ∃ o, H a = some o
  | [], _, _, h => by
    simp only [RTL] at h
    intro a ha
    rw [h.2] at ha
    exact absurd ha (List.not_mem_nil)
  | t :: ts, xs, fp, h => by
    simp only [RTL] at h
    obtain ⟨x, r, f1, f2, h1, h2, h3, rfl⟩ := h
    intro a ha
    rcases List.mem_append.mp ha with ha | ha
    · exact RT.dom t x f1 h2 a ha
    · exact RTL.dom ts r f2 h3 a ha
end
mutual
/-- what is owned is given away -/
theorem RT.give (e : Ext G G') : ∀ (t : T) (v : V) (fp : List Addr), (∀ a ∈ fp, ∀ o, H a = some o → G' a = some o) → RT K G H t v fp → Rp K G' t.d v
  | .sh d, v, fp, k, h => by
    simp only [RT] at h
    simp only [T.d]
    exact Rp.mono e d v h.1
  | .lst ts, v, fp, k, h => by
    simp only [RT] at h
    simp only [T.d, Rp]
    obtain ⟨a, xs, f, h1, h2, h3, rfl⟩ := h
    exact ⟨a, xs, h1, k a (List.mem_cons_self) _ h2, RTL.give e ts xs f (fun b hb => k b (List.mem_cons_of_mem _ hb)) h3⟩
  | .tup ts, v, fp, k, h => by
    simp only [RT] at h
    simp only [T.d, Rp]
    obtain ⟨a, xs, f, h1, h2, h3, rfl⟩ := h
    exact ⟨a, xs, h1, .of (k a (List.mem_cons_self) _ h2), RTL.give e ts xs f (fun b hb => k b (List.mem_cons_of_mem _ hb)) h3⟩
  | .dct ks ts, v, fp, k, h => by
    simp only [RT] at h
    simp only [T.d, Rp]
    obtain ⟨a, o, xs, f, h1, h2, h4, h3, rfl⟩ := h
    exact ⟨a, o, xs, h1, k a (List.mem_cons_self) _ h2, h4.imp id (fun ⟨L, p1, p2⟩ => ⟨L, p1, RpL.mono e ks _ p2⟩), RTL.give e ts xs f (fun b hb => k b (List.mem_cons_of_mem _ hb)) h3⟩
  | .ins c ns ts, v, fp, k, h => by
    simp only [RT] at h
    simp only [T.d, Rp]
    obtain ⟨a, dx, xs, f, h1, h2, h4, h3, rfl⟩ := h
    exact ⟨a, dx, xs, h1, k a (List.mem_cons_self) _ h2, h4, RTL.give e ts xs f (fun b hb => k b (List.mem_cons_of_mem _ hb)) h3⟩
theorem RTL.give (e : Ext G G') : ∀ (ts : List T) (xs : List V) (fp : List Addr), (∀ a ∈ fp, ∀ o, H a = some o → G' a = some o) → RTL K G H ts xs fp → RpL K G' (T.ds ts) xs
  | [], _, _, _, h => by
    simp only [RTL] at h
    simp only [T.ds, RpL]
    exact h.1
  | t :: ts, xs, fp, k, h => by
    simp only [RTL] at h
    simp only [T.ds, RpL]
    obtain ⟨x, r, f1, f2, h1, h2, h3, rfl⟩ := h
    exact ⟨x, r, h1, RT.give e t x f1 (fun b hb => k b (List.mem_append_left _ hb)) h2, RTL.give e ts r f2 (fun b hb => k b (List.mem_append_right _ hb)) h3⟩
end
theorem Rp.scal : ∀ {d : D} {v : V}, d.scal = true → Rp K G d v → Rp K G' d v
  | .non, _, _, h => by simpa only [Rp] using h
  | .bl _, _, _, h => by simpa only [Rp] using h
  | .int _, _, _, h => by simpa only [Rp] using h
  | .str _, _, _, h => by simpa only [Rp] using h
  | .lst _, _, s, _ => by cases s
  | .scr _, _, s, _ => by cases s
  | .tup _, _, s, _ => by cases s
  | .dct _ _, _, s, _ => by cases s
  | .ins _ _ _, _, s, _ => by cases s
  | .exn _ _ _ _ _, _, s, _ => by cases s
mutual
/-- of a tree of scalars the shared part is free -/
theorem RT.scal : ∀ (t : T) (v : V) (fp : List Addr), t.scal = true → RT K G H t v fp → RT K G' H t v fp
  | .sh d, v, fp, s, h => by
    simp only [RT] at h ⊢
    simp only [T.scal] at s
    exact ⟨Rp.scal s h.1, h.2⟩
  | .lst ts, v, fp, s, h => by
    simp only [RT] at h ⊢
    simp only [T.scal] at s
    obtain ⟨a, xs, f, h1, h2, h3, rfl⟩ := h
    exact ⟨a, xs, f, h1, h2, RTL.scal ts xs f s h3, rfl⟩
  | .tup ts, v, fp, s, h => by
    simp only [RT] at h ⊢
    simp only [T.scal] at s
    obtain ⟨a, xs, f, h1, h2, h3, rfl⟩ := h
    exact ⟨a, xs, f, h1, h2, RTL.scal ts xs f s h3, rfl⟩
  | .dct ks ts, v, fp, s, h => by
    simp only [T.scal] at s
    cases s
  | .ins c ns ts, v, fp, s, h => by
    simp only [RT] at h ⊢
    simp only [T.scal] at s
    obtain ⟨a, dx, xs, f, h1, h2, h4, h3, rfl⟩ := h
    exact ⟨a, dx, xs, f, h1, h2, h4, RTL.scal ts xs f s h3, rfl⟩
theorem RTL.scal : ∀ (ts : List T) (xs : List V) (fp : List Addr), T.scals ts = true → RTL K G H ts xs fp → RTL K G' H ts xs fp
  | [], _, _, _, h => by simpa only [RTL] using h
  | t :: ts, xs, fp, s, h => by
    simp only [RTL] at h ⊢
    simp only [T.scals, Bool.and_eq_true] at s
    obtain ⟨x, r, f1, f2, h1, h2, h3, rfl⟩ := h
    exact ⟨x, r, f1, f2, h1, RT.scal t x f1 s.1 h2, RTL.scal ts r f2 s.2 h3, rfl⟩
end
theorem RTL.length : ∀ {ts : List T} {xs : List V} {fp : List Addr}, RTL K G H ts xs fp → ts.length = xs.length
  | [], _, _, h => by
    simp only [RTL] at h
    rw [h.1] <;> rfl
  | t :: ts, xs, fp, h => by
    simp only [RTL] at h
    obtain ⟨x, r, f1, f2, rfl, h2, h3, rfl⟩ := h
    simp [RTL.length h3]
end

/-! ### cells -/
structure Cell where
  s : Sl
  o : Option V
  fp : List Addr
def CellR (K : PySem.W.Frag) (rt : List V) (G H : Hp) (c : Cell) : Prop := match c.s with
  | .un => c.fp = []
  | .v t => ∃ x, c.o = some x ∧ RT K G H t x c.fp
  | .p k t => ∃ x, c.o = some x ∧ rt[k]? = some x ∧ RT K G H t x c.fp
def fps (cs : List Cell) : List Addr := cs.flatMap (·.fp)
def slots (cs : List Cell) : List Sl := cs.map (·.s)
def vals (cs : List Cell) : L2.St := cs.map (·.o)
structure RR (K : PySem.W.Frag) (rt : List V) (G H : Hp) (cs : List Cell) : Prop where
  cell : ∀ c ∈ cs, CellR K rt G H c
  nd : (fps cs).Nodup
  out : ∀ a ∈ fps cs, G a = none
  sub : Sub G H
structure Stp (H G : Hp) (F : List Addr) (H' G' : Hp) (F' : List Addr) : Prop where
  keep : ∀ b o, H b = some o → b ∉ F → H' b = some o
  ext : Ext G G'
  own : ∀ a ∈ F', a ∈ F ∨ H a = none
  new : ∀ b o, G' b = some o → G b = some o ∨ H b = none ∨ b ∈ F
theorem Stp.refl {H G : Hp} {F : List Addr} : Stp H G F H G F := ⟨fun _ _ h _ => h, Ext.refl _, fun _ h => .inl h, fun _ _ h => .inl h⟩
theorem Stp.trans {H G H1 G1 H2 G2 : Hp} {F F1 F2 : List Addr} (a : Stp H G F H1 G1 F1) (b : Stp H1 G1 F1 H2 G2 F2) : Stp H G F H2 G2 F2 := by
  refine ⟨fun x o h n => ?_, a.ext.trans b.ext, fun x hx => ?_, fun x o h => ?_⟩
  · refine b.keep x o (a.keep x o h n) fun m => ?_
    rcases a.own x m with q | q
    · exact n q
    · rw [q] at h; cases h
  · rcases b.own x hx with q | q
    · exact a.own x q
    · by_cases m : x ∈ F
      · exact .inl m
      · refine .inr ?_
        cases e : H x with
        | none => rfl
        | some o => rw [a.keep x o e m] at q; cases q
  · rcases b.new x o h with q | q | q
    · exact a.new x o q
    · by_cases m : x ∈ F
      · exact .inr (.inr m)
      · refine .inr (.inl ?_)
        cases e : H x with
        | none => rfl
        | some u => rw [a.keep x u e m] at q; cases q
    · rcases a.own x q with z | z
      · exact .inr (.inr z)
      · exact .inr (.inl z)
theorem Stp.mem {H G H' G' : Hp} {F F1 F' F1' : List Addr} (a : Stp H G F H' G' F') (e : ∀ x, x ∈ F1 ↔ x ∈ F) (e' : ∀ x, x ∈ F1' → x ∈ F') : Stp H G F1 H' G' F1' :=
  ⟨fun b o h n => a.keep b o h fun m => n ((e b).mpr m), a.ext, fun b m => (a.own b (e' b m)).imp (e b).mpr id, fun b o h => (a.new b o h).imp id fun q => q.imp id (e b).mpr⟩
theorem Stp.frame {H G H' G' : Hp} {A F F' : List Addr} (a : Stp H G F H' G' F') : Stp H G (A ++ F) H' G' (A ++ F') := by
  refine ⟨fun b o h n => a.keep b o h fun m => n (List.mem_append_right _ m), a.ext, fun b m => ?_, fun b o h => ?_⟩
  · rcases List.mem_append.mp m with q | q
    · exact .inl (List.mem_append_left _ q)
    · exact (a.own b q).imp (List.mem_append_right _) id
  · exact (a.new b o h).imp id fun q => q.imp id (List.mem_append_right _)
section
variable {K : PySem.W.Frag} {rt : List V} {G G' H H' : Hp} {A B B' cs cs' : List Cell} {c : Cell}
theorem CellR.frame (e : Ext G G') (k : ∀ a ∈ c.fp, ∀ o, H a = some o → H' a = some o) (h : CellR K rt G H c) : CellR K rt G' H' c := by
  unfold CellR at h ⊢
  cases hs : c.s with
  | un => rw [hs] at h; exact h
  | v t =>
    rw [hs] at h
    obtain ⟨x, h1, h2⟩ := h
    exact ⟨x, h1, RT.frame e t x _ k h2⟩
  | p k' t =>
    rw [hs] at h
    obtain ⟨x, h1, h3, h2⟩ := h
    exact ⟨x, h1, h3, RT.frame e t x _ k h2⟩
theorem CellR.dom (h : CellR K rt G H c) : ∀ a ∈ c.fp, ∃ o, H a = some o := by
  unfold CellR at h
  cases hs : c.s with
  | un => rw [hs] at h; intro a ha; rw [show c.fp = [] from h] at ha; exact absurd ha List.not_mem_nil
  | v t =>
    rw [hs] at h
    obtain ⟨x, h1, h2⟩ := h
    exact RT.dom t x _ h2
  | p k' t =>
    rw [hs] at h
    obtain ⟨x, h1, h3, h2⟩ := h
    exact RT.dom t x _ h2
theorem mem_fps {a : Addr} : a ∈ fps cs ↔ ∃ c ∈ cs, a ∈ c.fp := by simp [fps, List.mem_flatMap]
theorem RR.dom (h : RR K rt G H cs) : ∀ a ∈ fps cs, ∃ o, H a = some o := fun a ha => by
  obtain ⟨c, hc, ha⟩ := mem_fps.mp ha
  exact (h.cell c hc).dom a ha
theorem fps_append : fps (A ++ B) = fps A ++ fps B := by simp [fps]
theorem fps_cons : fps (c :: B) = c.fp ++ fps B := by simp [fps]
theorem fps_nil : fps [] = [] := rfl
theorem RR.perm (h : RR K rt G H cs) (p : cs.Perm cs') : RR K rt G H cs' := by
  have q : (fps cs).Perm (fps cs') := p.flatMap_right _
  exact ⟨fun c hc => h.cell c (p.mem_iff.mpr hc), q.nodup_iff.mp h.nd, fun a ha => h.out a (q.mem_iff.mpr ha), h.sub⟩
theorem RR.left (h : RR K rt G H (A ++ B)) : RR K rt G H A := by
  have n := h.nd
  rw [fps_append] at n
  exact ⟨fun c hc => h.cell c (List.mem_append_left _ hc), (List.nodup_append.mp n).1, fun a ha => h.out a (by rw [fps_append]; exact List.mem_append_left _ ha), h.sub⟩
theorem RR.right (h : RR K rt G H (A ++ B)) : RR K rt G H B := by
  have n := h.nd
  rw [fps_append] at n
  exact ⟨fun c hc => h.cell c (List.mem_append_right _ hc), (List.nodup_append.mp n).2.1, fun a ha => h.out a (by rw [fps_append]; exact List.mem_append_right _ ha), h.sub⟩
theorem RR.tail (h : RR K rt G H (c :: B)) : RR K rt G H B := RR.right (A := [c]) h
/-- THE FRAME: what is not touched stays -/
theorem RR.frame (h : RR K rt G H (A ++ B)) (s : Stp H G (fps B) H' G' (fps B')) (h' : RR K rt G' H' B') : RR K rt G' H' (A ++ B') := by
  have n := h.nd
  rw [fps_append] at n
  obtain ⟨n1, n2, n3⟩ := List.nodup_append.mp n
  have notB : ∀ a ∈ fps A, a ∉ fps B := fun a ha hb => n3 a ha a hb rfl
  have outA : ∀ a ∈ fps A, G a = none := fun a ha => h.out a (by rw [fps_append]; exact List.mem_append_left _ ha)
  have domA : ∀ a ∈ fps A, ∃ o, H a = some o := h.left.dom
  refine ⟨fun c hc => ?_, ?_, fun a ha => ?_, h'.sub⟩
  · rcases List.mem_append.mp hc with hc | hc
    · exact (h.cell c (List.mem_append_left _ hc)).frame s.ext fun a ha o q => s.keep a o q (notB a (mem_fps.mpr ⟨c, hc, ha⟩))
    · exact h'.cell c hc
  · rw [fps_append]
    refine List.nodup_append.mpr ⟨n1, h'.nd, fun a ha b hb e => ?_⟩
    subst e
    rcases s.own a hb with q | q
    · exact notB a ha q
    · obtain ⟨o, z⟩ := domA a ha
      rw [q] at z; cases z
  · rw [fps_append] at ha
    rcases List.mem_append.mp ha with ha | ha
    · cases e : G' a with
      | none => rfl
      | some o =>
        rcases s.new a o e with q | q | q
        · rw [outA a ha] at q; cases q
        · obtain ⟨u, z⟩ := domA a ha
          rw [q] at z; cases z
        · exact absurd q (notB a ha)
    · exact h'.out a ha
theorem RR.frameR (h : RR K rt G H (A ++ B)) (s : Stp H G (fps A) H' G' (fps B')) (h' : RR K rt G' H' B') : RR K rt G' H' (B' ++ B) :=
  ((h.perm List.perm_append_comm).frame s h').perm List.perm_append_comm
theorem Stp.frameR {F F' A : List Addr} (a : Stp H G F H' G' F') : Stp H G (F ++ A) H' G' (F' ++ A) :=
  (a.frame (A := A)).mem (fun x => by simp [or_comm]) (fun x h => by simpa [or_comm] using h)
/-- G with some objects of H -/
def gv (G H : Hp) (F : List Addr) : Hp := fun b => if b ∈ F then H b else G b
theorem gv_ext {F : List Addr} (h : ∀ a ∈ F, G a = none) : Ext G (gv G H F) := fun b o e => by
  unfold gv
  by_cases m : b ∈ F
  · rw [h b m] at e; cases e
  · rw [if_neg m]; exact e
theorem gv_in {F : List Addr} {a : Addr} (h : a ∈ F) : gv G H F a = H a := by unfold gv; rw [if_pos h]
theorem gv_out {F : List Addr} {a : Addr} (h : a ∉ F) : gv G H F a = G a := by unfold gv; rw [if_neg h]
theorem gv_sub {F : List Addr} (s : Sub G H) : Sub (gv G H F) H := fun a o e => by
  unfold gv at e
  by_cases m : a ∈ F
  · rw [if_pos m] at e; exact .inl e
  · rw [if_neg m] at e; exact s a o e
/-- a cell is given away -/
theorem RR.give {t : T} {x : V} {f : List Addr} (h : RR K rt G H (⟨.v t, some x, f⟩ :: cs)) :
    RR K rt (gv G H f) H (⟨.v (.sh t.d), some x, []⟩ :: cs) ∧ Stp H G (f ++ fps cs) H (gv G H f) (fps cs) ∧ Rp K (gv G H f) t.d x := by
  have n := h.nd
  rw [fps_cons] at n
  obtain ⟨n1, n2, n3⟩ := List.nodup_append.mp n
  have outF : ∀ a ∈ f, G a = none := fun a ha => h.out a (by rw [fps_cons]; exact List.mem_append_left _ ha)
  have ex : Ext G (gv G H f) := gv_ext outF
  have r : Rp K (gv G H f) t.d x := by
    obtain ⟨y, e1, r⟩ := h.cell _ List.mem_cons_self
    cases e1
    exact RT.give ex t x f (fun a ha o q => by rw [gv_in ha]; exact q) r
  refine ⟨⟨fun c hc => ?_, ?_, fun a ha => ?_, gv_sub h.sub⟩, ⟨fun b o e _ => e, ex, fun a ha => .inl (List.mem_append_right _ ha), fun b o e => ?_⟩, r⟩
  · rcases List.mem_cons.mp hc with rfl | hc
    · exact ⟨x, rfl, by simp only [RT]; exact ⟨r, trivial⟩⟩
    · exact (h.cell c (List.mem_cons_of_mem _ hc)).frame ex fun _ _ _ q => q
  · rw [fps_cons]; exact n2
  · rw [fps_cons] at ha
    have ha' : a ∈ fps cs := by simpa using ha
    rw [gv_out fun m => n3 a m a ha' rfl]
    exact h.out a (by rw [fps_cons]; exact List.mem_append_right _ ha')
  · by_cases m : b ∈ f
    · exact .inr (.inr (List.mem_append_left _ m))
    · rw [gv_out m] at e; exact .inl e
theorem RR.shared {d : D} {x : V} {f : List Addr} (h : RR K rt G H (⟨.v (.sh d), some x, f⟩ :: cs)) : Rp K G d x ∧ f = [] := by
  obtain ⟨y, e1, r⟩ := h.cell _ List.mem_cons_self
  cases e1
  simpa only [RT] using r
theorem RR.shareI {d : D} {x : V} (h : RR K rt G H cs) (r : Rp K G d x) : RR K rt G H (⟨.v (.sh d), some x, []⟩ :: cs) := by
  refine ⟨fun c hc => ?_, by rw [fps_cons]; exact h.nd, fun a ha => h.out a (by rw [fps_cons] at ha; simpa using ha), h.sub⟩
  rcases List.mem_cons.mp hc with rfl | hc
  · exact ⟨x, rfl, by simp only [RT]; exact ⟨r, trivial⟩⟩
  · exact h.cell c hc
end
end PD

set_option Elab.async false
set_option linter.all false
set_option maxRecDepth 100000
set_option maxHeartbeats 2000000
/-! PD: denotations and judgements; expressions. -/
namespace PD
open PySem PySem.Spec PyProof.Rows L2

inductive Out (α : Type) where
  | ok (a : α) (ρ : List Sl)
  | err (x : Exn) (ρ : List Sl)
  | bad
abbrev M (α : Type) := List Sl → Out α
def Out.bind {α β : Type} (o : Out α) (f : α → M β) : Out β := match o with
  | .ok a ρ => f a ρ
  | .err x ρ => .err x ρ
  | .bad => .bad
def M.bind {α β : Type} (m : M α) (f : α → M β) : M β := fun ρ => (m ρ).bind f
def M.pure {α : Type} (a : α) : M α := fun ρ => .ok a ρ
def M.ofO {α : Type} (o : Option α) : M α := fun ρ => match o with
  | some a => .ok a ρ
  | none => .bad
inductive SOut where
  | nx (ρ : List Sl) | bk (ρ : List Sl) | ct (ρ : List Sl)
  | rt (t : T) (ρ : List Sl)
  | err (x : Exn) (ρ : List Sl)
  | bad
abbrev MS := List Sl → SOut
def Out.bindS {α : Type} (o : Out α) (f : α → MS) : SOut := match o with
  | .ok a ρ => f a ρ
  | .err x ρ => .err x ρ
  | .bad => .bad

/-- how an exception lies in the heap -/
def XR (K : PySem.W.Frag) (G H : Hp) (x : Exn) (cls : Value) (d : Option Addr) : Prop :=
  cls = .ref (He.ga K x.c) ∧ ∃ xs, x.ns.length = xs.length ∧ RpL K G x.ds xs ∧ ((x.ns = [] ∧ d = none) ∨ ∃ da, d = some da ∧ G da = some (.xd (x.ns.zip xs)))

/-! ### posts -/
section
variable (K : PySem.W.Frag) (rt : List V) (W : WX)
def ErrQ (H G : Hp) (cs : List Cell) (x : Exn) (ρ' : List Sl) : Prop := ∀ cls d cs' H' G', slots cs' = ρ' → vals cs' = vals cs → Stp H G (fps cs) H' G' (fps cs') → RR K rt G' H' cs' → XR K G' H' x cls d → W cls d (vals cs) H'
/-- results without owned parts -/
structure Knd (α β : Type) where
  rel : PySem.W.Frag → Hp → α → β → Prop
def kV : Knd D V := ⟨fun K G d v => Rp K G d v⟩
def kA : Knd (List D) (List V) := ⟨fun K G d v => RpL K G d v⟩
def kB : Knd Bool Bool := ⟨fun _ _ a b => a = b⟩
def PostK {α β : Type} (k : Knd α β) (H G : Hp) (cs : List Cell) (o : Out α) (Q : β → Hp → Prop) : Prop := match o with
  | .ok a ρ' => ∀ b cs' H' G', slots cs' = ρ' → vals cs' = vals cs → Stp H G (fps cs) H' G' (fps cs') → RR K rt G' H' cs' → k.rel K G' a b → Q b H'
  | .err x ρ' => ErrQ K rt W H G cs x ρ'
  | .bad => False
def PostE (H G : Hp) (cs : List Cell) (o : Out T) (Q : VK) : Prop := match o with
  | .ok t ρ' => ∀ v f cs' H' G', slots cs' = ρ' → vals cs' = vals cs → Stp H G (fps cs) H' G' (f ++ fps cs') → RR K rt G' H' (⟨.v t, some v, f⟩ :: cs') → Q v H'
  | .err x ρ' => ErrQ K rt W H G cs x ρ'
  | .bad => False
end
section
variable {K : PySem.W.Frag} {rt : List V} {W : WX} {H G H1 G1 : Hp} {cs cs1 : List Cell} {α β γ δ : Type} {k : Knd α β} {k' : Knd γ δ}
theorem ErrQ.step {x : Exn} {ρ' : List Sl} (s : Stp H G (fps cs) H1 G1 (fps cs1)) (e : vals cs1 = vals cs) (h : ErrQ K rt W H G cs x ρ') : ErrQ K rt W H1 G1 cs1 x ρ' := fun cls d cs' H' G' h1 h2 h3 h4 h5 => by
  rw [e]
  exact h cls d cs' H' G' h1 (h2.trans e) (s.trans h3) h4 h5
theorem PostK.step {o : Out α} {Q : β → Hp → Prop} (s : Stp H G (fps cs) H1 G1 (fps cs1)) (e : vals cs1 = vals cs) (h : PostK K rt W k H G cs o Q) : PostK K rt W k H1 G1 cs1 o Q := by
  cases o with
  | ok a ρ' => exact fun b cs' H' G' h1 h2 h3 h4 h5 => h b cs' H' G' h1 (h2.trans e) (s.trans h3) h4 h5
  | err x ρ' => exact ErrQ.step s e h
  | bad => exact h
theorem PostE.step {o : Out T} {Q : VK} (s : Stp H G (fps cs) H1 G1 (fps cs1)) (e : vals cs1 = vals cs) (h : PostE K rt W H G cs o Q) : PostE K rt W H1 G1 cs1 o Q := by
  cases o with
  | ok a ρ' => exact fun v f cs' H' G' h1 h2 h3 h4 => h v f cs' H' G' h1 (h2.trans e) (s.trans h3) h4
  | err x ρ' => exact ErrQ.step s e h
  | bad => exact h
theorem PostK.seqE {o : Out α} {f : α → M T} {Q : VK} {Q1 : β → Hp → Prop} (h : PostE K rt W H G cs (o.bind f) Q)
    (kk : ∀ a b cs' H' G', vals cs' = vals cs → Stp H G (fps cs) H' G' (fps cs') → RR K rt G' H' cs' → k.rel K G' a b → PostE K rt W H' G' cs' (f a (slots cs')) Q → Q1 b H') : PostK K rt W k H G cs o Q1 := by
  cases o with
  | ok a ρ' => exact fun b cs' H' G' h1 h2 h3 h4 h5 => kk a b cs' H' G' h2 h3 h4 h5 (by
      have h' : PostE K rt W H G cs (f a ρ') Q := h
      rw [← h1] at h'
      exact h'.step h3 h2)
  | err x ρ' => exact h
  | bad => exact h
theorem PostK.seqK {o : Out α} {f : α → M γ} {Q : δ → Hp → Prop} {Q1 : β → Hp → Prop} (h : PostK K rt W k' H G cs (o.bind f) Q)
    (kk : ∀ a b cs' H' G', vals cs' = vals cs → Stp H G (fps cs) H' G' (fps cs') → RR K rt G' H' cs' → k.rel K G' a b → PostK K rt W k' H' G' cs' (f a (slots cs')) Q → Q1 b H') : PostK K rt W k H G cs o Q1 := by
  cases o with
  | ok a ρ' => exact fun b cs' H' G' h1 h2 h3 h4 h5 => kk a b cs' H' G' h2 h3 h4 h5 (by
      have h' : PostK K rt W k' H G cs (f a ρ') Q := h
      rw [← h1] at h'
      exact h'.step h3 h2)
  | err x ρ' => exact h
  | bad => exact h
end

/-! ### judgements -/
structure PEd (X : Cx) (rt : List V) (W : WX) (e : Expr) (m : M T) : Prop where
  ex : ∃ te, PE X e te ∧ ∀ H G cs Q, RR X.K rt G H cs → PostE X.K rt W H G cs (m (slots cs)) Q → te (vals cs) H Q
structure PEs (X : Cx) (rt : List V) (W : WX) (e : Expr) (m : M D) : Prop where
  ex : ∃ te, PE X e te ∧ ∀ H G cs Q, RR X.K rt G H cs → PostK X.K rt W kV H G cs (m (slots cs)) Q → te (vals cs) H Q
structure PTd (X : Cx) (rt : List V) (W : WX) (e : Expr) (m : M Bool) : Prop where
  ex : ∃ te, PT X e te ∧ ∀ H G cs Q, RR X.K rt G H cs → PostK X.K rt W kB H G cs (m (slots cs)) Q → te (vals cs) H Q
structure PAs (X : Cx) (rt : List V) (W : WX) (es : List Expr) (m : M (List D)) : Prop where
  ex : ∃ te, PA X es te ∧ ∀ H G cs Q, RR X.K rt G H cs → PostK X.K rt W kA H G cs (m (slots cs)) Q → te (vals cs) H Q

def mSh (m : M D) : M T := fun ρ => (m ρ).bind fun d => M.pure (.sh d)
def mGv (m : M T) : M D := fun ρ => (m ρ).bind fun t => M.pure t.d
section
variable {X : Cx} {rt : List V} {W : WX} {e a b c : Expr} {es : List Expr} {pos : Pos}
theorem PEs.d {m : M D} (h : PEs X rt W e m) : PEd X rt W e (mSh m) := by
  obtain ⟨te, h1, h2⟩ := h.ex
  refine ⟨te, h1, fun H G cs Q r p => h2 H G cs Q r (PostK.seqE p fun d v cs' H' G' ev st r' rd q => ?_)⟩
  exact q v [] cs' H' G' rfl rfl Stp.refl (r'.shareI rd)
theorem PEd.s {m : M T} (h : PEd X rt W e m) : PEs X rt W e (mGv m) := by
  obtain ⟨te, h1, h2⟩ := h.ex
  refine ⟨te, h1, fun H G cs Q r p => h2 H G cs Q r ?_⟩
  unfold mGv at p
  cases hm : m (slots cs) with
  | ok t ρ' =>
    rw [hm] at p
    intro v f cs' H' G' e1 e2 st r'
    obtain ⟨r2, st2, rp⟩ := r'.give
    have p' : ∀ v cs' H' G', slots cs' = ρ' → vals cs' = vals cs → Stp H G (fps cs) H' G' (fps cs') → RR X.K rt G' H' cs' → Rp X.K G' t.d v → Q v H' := p
    exact p' v cs' H' _ e1 e2 (st.trans st2) r2.tail rp
  | err x ρ' => rw [hm] at p; exact p
  | bad => rw [hm] at p; exact p

/-! ### constants, names -/
theorem s_int {i j} : PEs X rt W (.Constant (.int i) j pos) (M.pure (.int i)) := ⟨_, pe_int, fun H G cs Q r p => p _ cs H G rfl rfl Stp.refl r (by show Rp _ _ _ _; simp only [Rp])⟩
theorem s_bl {i j} : PEs X rt W (.Constant (.bool i) j pos) (M.pure (.bl i)) := ⟨_, pe_bl, fun H G cs Q r p => p _ cs H G rfl rfl Stp.refl r (by show Rp _ _ _ _; simp only [Rp])⟩
theorem s_non {j} : PEs X rt W (.Constant .none j pos) (M.pure .non) := ⟨_, pe_non, fun H G cs Q r p => p _ cs H G rfl rfl Stp.refl r (by show Rp _ _ _ _; simp only [Rp])⟩
theorem s_str {x j} : PEs X rt W (.Constant (.str x) j pos) (M.pure (.str x)) := ⟨_, pe_str, fun H G cs Q r p => p _ cs H G rfl rfl Stp.refl r (by show Rp _ _ _ _; simp only [Rp])⟩
/-- a module's constant -/
theorem s_gint {x : Str} {i : Int} (hg : Gl X x) (hm : ∃ t, X.mg x = some (.int i t)) (hd : (x == ("__debug__" : Str)) = false := by decide) : PEs X rt W (.Name x pos) (M.pure (.int i)) := by
  obtain ⟨t, hm⟩ := hm
  exact ⟨_, pe_glob (v := .int i) hg hm ⟨t, rfl⟩ hd, fun H G cs Q r p => p _ cs H G rfl rfl Stp.refl r (by show Rp _ _ _ _; simp only [Rp])⟩
theorem s_gstr {x : Str} {i : Str} (hg : Gl X x) (hm : ∃ t, X.mg x = some (.str i t)) (hd : (x == ("__debug__" : Str)) = false := by decide) : PEs X rt W (.Name x pos) (M.pure (.str i)) := by
  obtain ⟨t, hm⟩ := hm
  exact ⟨_, pe_glob (v := .str i) hg hm ⟨t, rfl⟩ hd, fun H G cs Q r p => p _ cs H G rfl rfl Stp.refl r (by show Rp _ _ _ _; simp only [Rp])⟩
/-- a name as a value: what it owns is given away -/
def mName (i : Nat) : M D := fun ρ => match ρ[i]? with
  | some (.v (.sh d)) => .ok d ρ
  | some (.v t) => .ok t.d (ρ.set i (.v (.sh t.d)))
  | _ => .bad
theorem cell_at {cs : List Cell} {i : Nat} {s : Sl} (h : (slots cs)[i]? = some s) : ∃ c, cs[i]? = some c ∧ c.s = s := by
  unfold slots at h
  rw [List.getElem?_map] at h
  cases e : cs[i]? with
  | none => rw [e] at h; cases h
  | some c => rw [e] at h; cases h; exact ⟨c, rfl, rfl⟩
theorem vals_at {cs : List Cell} {i : Nat} {c : Cell} (h : cs[i]? = some c) : (vals cs)[i]? = some c.o := by
  unfold vals
  rw [List.getElem?_map, h]
  rfl
theorem split_at {cs : List Cell} {i : Nat} {c : Cell} (h : cs[i]? = some c) : cs = cs.take i ++ c :: cs.drop (i + 1) ∧ ∀ c', cs.set i c' = cs.take i ++ c' :: cs.drop (i + 1) := by
  obtain ⟨hi, rfl⟩ := List.getElem?_eq_some_iff.mp h
  refine ⟨?_, fun c' => ?_⟩
  · rw [List.getElem_cons_drop, List.take_append_drop]
  · rw [List.set_eq_take_append_cons_drop, if_pos hi]
theorem perm_at {cs : List Cell} {i : Nat} {c : Cell} (h : cs[i]? = some c) : cs.Perm (c :: (cs.take i ++ cs.drop (i + 1))) := by
  have e := (split_at h).1
  exact (List.Perm.of_eq e).trans List.perm_middle
theorem perm_set {cs : List Cell} {i : Nat} {c : Cell} (h : cs[i]? = some c) (c' : Cell) : (cs.set i c').Perm (c' :: (cs.take i ++ cs.drop (i + 1))) := by
  rw [(split_at h).2 c']
  exact List.perm_middle
theorem slots_set {cs : List Cell} {i : Nat} {c' : Cell} : slots (cs.set i c') = (slots cs).set i c'.s := by
  unfold slots; rw [List.map_set]
theorem vals_set {cs : List Cell} {i : Nat} {c' : Cell} : vals (cs.set i c') = (vals cs).set i c'.o := by
  unfold vals; rw [List.map_set]
theorem vals_set_same {cs : List Cell} {i : Nat} {c c' : Cell} (h : cs[i]? = some c) (e : c'.o = c.o) : vals (cs.set i c') = vals cs := by
  rw [vals_set, e]
  have q := vals_at h
  obtain ⟨hi, e2⟩ := List.getElem?_eq_some_iff.mp q
  rw [← e2, List.set_getElem_self]
/-- an owned slot is given away in place -/
theorem RR.giveAt {K : PySem.W.Frag} {G H : Hp} {cs : List Cell} {i : Nat} {c : Cell} {t : T} (h : RR K rt G H cs) (hc : cs[i]? = some c) (hs : c.s = .v t) :
    ∃ x, c.o = some x ∧ RR K rt (gv G H c.fp) H (cs.set i ⟨.v (.sh t.d), some x, []⟩) ∧ Stp H G (fps cs) H (gv G H c.fp) (fps (cs.set i ⟨.v (.sh t.d), some x, []⟩)) ∧ Rp K (gv G H c.fp) t.d x := by
  obtain ⟨s, o, f⟩ := c
  have hs' : s = .v t := hs
  subst hs'
  obtain ⟨x, ho, _⟩ := h.cell _ (List.mem_of_getElem? hc)
  have ho' : o = some x := ho
  subst ho'
  have p := h.perm (perm_at hc)
  obtain ⟨r, st, rp⟩ := p.give
  refine ⟨x, rfl, r.perm (perm_set hc _).symm, ?_, rp⟩
  refine st.mem (fun a => ?_) (fun a ha => ?_)
  · have e : (fps cs).Perm (f ++ fps (cs.take i ++ cs.drop (i + 1))) := (perm_at hc).flatMap_right _
    exact e.mem_iff
  · have e : (fps (cs.set i ⟨.v (.sh t.d), some x, []⟩)).Perm (fps (cs.take i ++ cs.drop (i + 1))) := (perm_set hc _).flatMap_right _
    exact e.mem_iff.mp ha
theorem RR.at {K : PySem.W.Frag} {G H : Hp} {cs : List Cell} {i : Nat} {c : Cell} (h : RR K rt G H cs) (hc : cs[i]? = some c) : CellR K rt G H c := h.cell c (List.mem_of_getElem? hc)
theorem s_name (i : Nat) {x : Str} (hN : X.N[i]? = some x) (hv : Vis X.env.scope x) (hd : (x == ("__debug__" : Str)) = false := by decide)
    (hcd : (x == ("__classdict__" : Str)) = false := by decide) : PEs X rt W (.Name x pos) (mName i) := by
  refine ⟨_, pe_var hN hv hd hcd, fun H G cs Q r p => ?_⟩
  unfold mName at p
  cases hs : (slots cs)[i]? with
  | none => rw [hs] at p; exact p.elim
  | some s =>
    obtain ⟨c, hc, ec⟩ := cell_at hs
    rw [hs] at p
    cases s with
    | un => exact p.elim
    | p k t => exact p.elim
    | v t =>
      have fin : ∀ t', t = t' → (∀ d, t' ≠ .sh d) → PostK X.K rt W kV H G cs (.ok t'.d ((slots cs).set i (.v (.sh t'.d)))) Q → tVar i (vals cs) H Q := by
        rintro t' rfl _ p
        obtain ⟨y, e1, r', st, rp⟩ := r.giveAt hc ec
        refine ⟨y, by rw [vals_at hc, e1], ?_⟩
        exact p y _ H _ slots_set (vals_set_same hc (by rw [e1])) st r' rp
      cases t with
      | sh d =>
        have h := r.at hc
        unfold CellR at h
        rw [ec] at h
        obtain ⟨y, e1, h2⟩ := h
        simp only [RT] at h2
        exact ⟨y, by rw [vals_at hc, e1], p y cs H G rfl rfl Stp.refl r h2.1⟩
      | lst ts => exact fin _ rfl (fun d q => nomatch q) p
      | tup ts => exact fin _ rfl (fun d q => nomatch q) p
      | dct ks ts => exact fin _ rfl (fun d q => nomatch q) p
      | ins c' ns ts => exact fin _ rfl (fun d q => nomatch q) p

/-! ### operators by values -/
def FreshQ (K : PySem.W.Frag) (H G : Hp) (t : T) (Q : VK) : Prop := ∀ v f H' G', Stp H G [] H' G' f → RR K [] G' H' [⟨.v t, some v, f⟩] → Q v H'
def OpT (K : PySem.W.Frag) (r : R2) (f : D → D → Option T) : Prop := ∀ x y d1 d2 t G H Q, Sub G H → Rp K G d1 x → Rp K G d2 y → f d1 d2 = some t → FreshQ K H G t Q → r x y H Q
def UnT (K : PySem.W.Frag) (r : V → Hp → VK → Prop) (f : D → Option T) : Prop := ∀ x d t G H Q, Sub G H → Rp K G d x → f d = some t → FreshQ K H G t Q → r x H Q
def CaT (K : PySem.W.Frag) (r : List V → Hp → VK → Prop) (f : List D → Option T) : Prop := ∀ xs ds t G H Q, Sub G H → RpL K G ds xs → f ds = some t → FreshQ K H G t Q → r xs H Q
theorem RR.rt0 {K : PySem.W.Frag} {rt' : List V} {G H : Hp} {t : T} {v : Option V} {f : List Addr} (h : RR K rt G H [⟨.v t, v, f⟩]) : RR K rt' G H [⟨.v t, v, f⟩] :=
  ⟨fun c hc => by
    have e : c = ⟨.v t, v, f⟩ := by simpa using hc
    subst e
    exact h.cell _ hc, h.nd, h.out, h.sub⟩
theorem FreshQ.sh {K : PySem.W.Frag} {H G : Hp} {d : D} {v : V} {Q : VK} (h : FreshQ K H G (.sh d) Q) (s : Sub G H) (r : Rp K G d v) : Q v H :=
  h v [] H G Stp.refl (RR.shareI (cs := []) ⟨fun c hc => absurd hc List.not_mem_nil, List.nodup_nil, fun a ha => absurd ha List.not_mem_nil, s⟩ r)
theorem RpL.tl {K : PySem.W.Frag} {G H : Hp} : ∀ {ds : List D} {xs : List V}, RpL K G ds xs → RTL K G H (ds.map .sh) xs []
  | [], xs, h => by
    simp only [RpL] at h
    simp only [List.map, RTL]
    exact ⟨h, trivial⟩
  | d :: ds, xs, h => by
    simp only [RpL] at h
    obtain ⟨x, r, e, h1, h2⟩ := h
    simp only [List.map, RTL, RT]
    exact ⟨x, r, [], [], e, ⟨h1, rfl⟩, RpL.tl h2, rfl⟩
theorem Stp.made {H G : Hp} {p : Addr} {o : HO} (h : H p = none) : Stp H G [] (upd H p o) G [p] :=
  ⟨fun b u e _ => Ext.new h b u e, Ext.refl _, fun a ha => .inr ((List.mem_singleton.mp ha).symm ▸ h), fun b u e => .inl e⟩
theorem sub_new {G H : Hp} {p : Addr} {o : HO} (s : Sub G H) (h : H p = none) : Sub G (upd H p o) := fun a u e => by
  rcases s a u e with q | ⟨l, ob, q⟩
  · exact .inl (Ext.new h a u q)
  · exact .inr ⟨l, ob, Ext.new h a _ q⟩
theorem none_of_sub {G H : Hp} {p : Addr} (s : Sub G H) (h : H p = none) : G p = none := by
  cases e : G p with
  | none => rfl
  | some u =>
    rcases s p u e with q | ⟨l, ob, q⟩
    · rw [q] at h; cases h
    · rw [q] at h; cases h
theorem FreshQ.lst {K : PySem.W.Frag} {H G : Hp} {ds : List D} {xs : List V} {p : Addr} {Q : VK} (h : FreshQ K H G (.lst (ds.map .sh)) Q) (s : Sub G H) (r : RpL K G ds xs) (hp : H p = none) : Q (.ref p) (upd H p (.lst xs)) := by
  refine h (.ref p) [p] _ G (Stp.made hp) ⟨fun c hc => ?_, by simp [fps], fun a ha => ?_, sub_new s hp⟩
  · have e : c = ⟨.v (.lst (ds.map .sh)), some (.ref p), [p]⟩ := by simpa using hc
    subst e
    exact ⟨_, rfl, by simp only [RT]; exact ⟨p, xs, [], rfl, upd_same, r.tl, rfl⟩⟩
  · have e : a = p := by simpa [fps] using ha
    rw [e]
    exact none_of_sub s hp
theorem FreshQ.tup {K : PySem.W.Frag} {H G : Hp} {ds : List D} {xs : List V} {p : Addr} {Q : VK} (h : FreshQ K H G (.tup (ds.map .sh)) Q) (s : Sub G H) (r : RpL K G ds xs) (hp : H p = none) : Q (.ref p) (upd H p (.tup xs)) := by
  refine h (.ref p) [p] _ G (Stp.made hp) ⟨fun c hc => ?_, by simp [fps], fun a ha => ?_, sub_new s hp⟩
  · have e : c = ⟨.v (.tup (ds.map .sh)), some (.ref p), [p]⟩ := by simpa using hc
    subst e
    exact ⟨_, rfl, by simp only [RT]; exact ⟨p, xs, [], rfl, upd_same, r.tl, rfl⟩⟩
  · have e : a = p := by simpa [fps] using ha
    rw [e]
    exact none_of_sub s hp
/-- behind an operation: its fresh result beside the cells -/
theorem PostE.fresh {K : PySem.W.Frag} {H G : Hp} {cs : List Cell} {t : T} {Q : VK} (r : RR K rt G H cs) (p : PostE K rt W H G cs (.ok t (slots cs)) Q) : FreshQ K H G t Q := fun v f H' G' st r' => by
  have r2 : RR K rt G' H' (cs ++ [⟨.v t, some v, f⟩]) := RR.frame (A := cs) (B := []) (by rw [List.append_nil]; exact r) (st.mem (fun x => by simp [fps]) (fun x hx => by simpa [fps] using hx)) r'.rt0
  refine p v f cs H' G' rfl rfl ?_ (r2.perm (List.perm_append_comm (l₂ := ([⟨.v t, some v, f⟩] : List Cell))))
  exact (st.frame (A := fps cs)).mem (fun x => by simp) (fun x hx => by simpa [or_comm] using hx)
def mOp2 (f : D → D → Option T) (ma mb : M D) : M T := fun ρ => (ma ρ).bind fun d1 ρ1 => (mb ρ1).bind fun d2 => M.ofO (f d1 d2)
def mOp1 (f : D → Option T) (ma : M D) : M T := fun ρ => (ma ρ).bind fun d1 => M.ofO (f d1)
def mOpN (f : List D → Option T) (ma : M (List D)) : M T := fun ρ => (ma ρ).bind fun ds => M.ofO (f ds)
theorem op2_core {r : R2} {f : D → D → Option T} {ma mb : M D} {ta tb : TE} {H G : Hp} {cs : List Cell} {Q : VK} (hf : OpT X.K r f)
    (ha : ∀ H G cs Q, RR X.K rt G H cs → PostK X.K rt W kV H G cs (ma (slots cs)) Q → ta (vals cs) H Q) (hb : ∀ H G cs Q, RR X.K rt G H cs → PostK X.K rt W kV H G cs (mb (slots cs)) Q → tb (vals cs) H Q)
    (rr : RR X.K rt G H cs) (p : PostE X.K rt W H G cs (mOp2 f ma mb (slots cs)) Q) : tOp r ta tb (vals cs) H Q := by
  refine ha H G cs _ rr (PostK.seqE p fun d1 x cs1 H1 G1 ev st r1 rp1 p1 => ?_)
  show tb (vals cs) H1 _
  rw [← ev]
  refine hb H1 G1 cs1 _ r1 (PostK.seqE p1 fun d2 y cs2 H2 G2 ev2 st2 r2 rp2 p2 => ?_)
  unfold M.ofO at p2
  cases hft : f d1 d2 with
  | none => rw [hft] at p2; exact p2.elim
  | some t =>
    rw [hft] at p2
    exact hf x y d1 d2 t G2 H2 Q r2.sub (Rp.mono st2.ext d1 x rp1) rp2 hft (PostE.fresh r2 p2)
theorem d_bin {op : Operator} {r : R2} {f : D → D → Option T} {ma mb : M D} (ho : OpR X (binaryOp op) r) (hf : OpT X.K r f) (ha : PEs X rt W a ma) (hb : PEs X rt W b mb) : PEd X rt W (.BinOp a op b pos) (mOp2 f ma mb) := by
  obtain ⟨ta, a1, a2⟩ := ha.ex
  obtain ⟨tb, b1, b2⟩ := hb.ex
  exact ⟨_, pe_op ho a1 b1, fun H G cs Q rr p => op2_core hf a2 b2 rr p⟩
theorem d_cmp {op : CmpOp} {r : R2} {f : D → D → Option T} {ma mb : M D} (ho : OpR X (compareOp op) r) (hf : OpT X.K r f) (ha : PEs X rt W a ma) (hb : PEs X rt W b mb) (hm : behindInMarks op b = false) : PEd X rt W (.Compare a [op] [b] pos) (mOp2 f ma mb) := by
  obtain ⟨ta, a1, a2⟩ := ha.ex
  obtain ⟨tb, b1, b2⟩ := hb.ex
  exact ⟨_, pe_cmpR ho a1 b1 hm, fun H G cs Q rr p => op2_core hf a2 b2 rr p⟩
/-- a comparison's denotation: a bool -/
def mCmp (f : D → D → Option Bool) (ma mb : M D) : M Bool := fun ρ => (ma ρ).bind fun d1 ρ1 => (mb ρ1).bind fun d2 => M.ofO (f d1 d2)
def mB (m : M Bool) : M D := fun ρ => (m ρ).bind fun b => M.pure (.bl b)
def CmT (K : PySem.W.Frag) (r : R2) (f : D → D → Option Bool) : Prop := ∀ x y d1 d2 k G H Q, Sub G H → Rp K G d1 x → Rp K G d2 y → f d1 d2 = some k → Q (.bl k) H → r x y H Q
theorem cmp_core {r : R2} {f : D → D → Option Bool} {ma mb : M D} {ta tb : TE} {H G : Hp} {cs : List Cell} {Q : Bool → Hp → Prop} {Q' : VK} (hf : CmT X.K r f)
    (ha : ∀ H G cs Q, RR X.K rt G H cs → PostK X.K rt W kV H G cs (ma (slots cs)) Q → ta (vals cs) H Q) (hb : ∀ H G cs Q, RR X.K rt G H cs → PostK X.K rt W kV H G cs (mb (slots cs)) Q → tb (vals cs) H Q)
    (rr : RR X.K rt G H cs) (p : PostK X.K rt W kB H G cs (mCmp f ma mb (slots cs)) Q) (hq : ∀ k H, Q k H → Q' (.bl k) H) : tOp r ta tb (vals cs) H Q' := by
  refine ha H G cs _ rr (PostK.seqK p fun d1 x cs1 H1 G1 ev st r1 rp1 p1 => ?_)
  show tb (vals cs) H1 _
  rw [← ev]
  refine hb H1 G1 cs1 _ r1 (PostK.seqK p1 fun d2 y cs2 H2 G2 ev2 st2 r2 rp2 p2 => ?_)
  unfold M.ofO at p2
  cases hft : f d1 d2 with
  | none => rw [hft] at p2; exact p2.elim
  | some t =>
    rw [hft] at p2
    refine hf x y d1 d2 t G2 H2 Q' r2.sub (Rp.mono st2.ext d1 x rp1) rp2 hft (hq _ _ ?_)
    exact p2 t cs2 H2 G2 rfl rfl Stp.refl r2 rfl
theorem s_cmp {op : CmpOp} {r : R2} {f : D → D → Option Bool} {ma mb : M D} (ho : OpR X (compareOp op) r) (hf : CmT X.K r f) (ha : PEs X rt W a ma) (hb : PEs X rt W b mb) (hm : behindInMarks op b = false) : PEs X rt W (.Compare a [op] [b] pos) (mB (mCmp f ma mb)) := by
  obtain ⟨ta, a1, a2⟩ := ha.ex
  obtain ⟨tb, b1, b2⟩ := hb.ex
  refine ⟨_, pe_cmpR ho a1 b1 hm, fun H G cs Q rr p => cmp_core (Q := fun k H => Q (.bl k) H) hf a2 b2 rr ?_ (fun _ _ q => q)⟩
  exact PostK.seqK p fun k k' cs' H' G' ev st r' ek p' => by
    have ek' : k = k' := ek
    subst ek'
    exact p' _ cs' H' G' rfl rfl Stp.refl r' (by show Rp _ _ _ _; simp only [Rp])
theorem t_cmp {op : CmpOp} {r : R2} {f : D → D → Option Bool} {ma mb : M D} (ho : OpR X (compareOp op) r) (hf : CmT X.K r f) (ha : PEs X rt W a ma) (hb : PEs X rt W b mb) (hm : behindInMarks op b = false) : PTd X rt W (.Compare a [op] [b] pos) (mCmp f ma mb) := by
  obtain ⟨ta, a1, a2⟩ := ha.ex
  obtain ⟨tb, b1, b2⟩ := hb.ex
  exact ⟨_, pt_cmpR ho a1 b1 hm, fun H G cs Q rr p => cmp_core hf a2 b2 rr p (fun k H q => ⟨k, rfl, q⟩)⟩
end
end PD

set_option Elab.async false
set_option linter.all false
set_option maxRecDepth 100000
set_option maxHeartbeats 2000000
/-! PD: operations by values. -/
namespace PD
open PySem PySem.Spec PyProof.Rows L2

/-! ### data as PyData; == -/
mutual
def D.py : D → PyData
  | .non => .none
  | .bl b => .bool b
  | .int i => .int i
  | .str x => .str x
  | .lst ds => .list (D.pys ds)
  | .scr ds => .list (D.pys ds)
  | .tup ds => .tuple (D.pys ds)
  | .dct _ _ => .none
  | .ins _ _ _ => .none
  | .exn _ _ _ _ _ => .none
def D.pys : List D → List PyData
  | [] => []
  | d :: ds => d.py :: D.pys ds
end
mutual
/-- no dict, no instance within; at most n deep -/
def D.shal : Nat → D → Bool
  | _, .non => true
  | _, .bl _ => true
  | _, .int _ => true
  | _, .str _ => true
  | 0, _ => false
  | n + 1, .lst ds => D.shals n ds
  | n + 1, .scr ds => D.shals n ds
  | n + 1, .tup ds => D.shals n ds
  | _ + 1, .dct _ _ => false
  | _ + 1, .ins _ _ _ => false
  | _ + 1, .exn _ _ _ _ _ => false
termination_by _ d => sizeOf d
def D.shals : Nat → List D → Bool
  | _, [] => true
  | n, d :: ds => D.shal n d && D.shals n ds
termination_by _ ds => sizeOf ds
end
theorem D.shals_all (n : Nat) : ∀ ds : List D, D.shals n ds = ds.all (D.shal n)
  | [] => by simp [D.shals]
  | d :: ds => by simp [D.shals, D.shals_all n ds]
@[simp] theorem D.shal_non (n : Nat) : D.shal n .non = true := by cases n <;> simp [D.shal]
@[simp] theorem D.shal_bl (n : Nat) (b : Bool) : D.shal n (.bl b) = true := by cases n <;> simp [D.shal]
@[simp] theorem D.shal_int (n : Nat) (i : Int) : D.shal n (.int i) = true := by cases n <;> simp [D.shal]
@[simp] theorem D.shal_str (n : Nat) (x : Str) : D.shal n (.str x) = true := by cases n <;> simp [D.shal]
@[simp] theorem D.shal_lst (n : Nat) (ds : List D) : D.shal (n + 1) (.lst ds) = ds.all (D.shal n) := by simp [D.shal, D.shals_all]
@[simp] theorem D.shal_scr (n : Nat) (ds : List D) : D.shal (n + 1) (.scr ds) = ds.all (D.shal n) := by simp [D.shal, D.shals_all]
@[simp] theorem D.shal_tup (n : Nat) (ds : List D) : D.shal (n + 1) (.tup ds) = ds.all (D.shal n) := by simp [D.shal, D.shals_all]
mutual
/-- == of data -/
def D.eqv : D → D → Bool
  | .non, .non => true
  | .bl a, .bl b => a == b
  | .bl a, .int j => (if a then 1 else 0) == j
  | .int i, .bl b => i == (if b then 1 else 0)
  | .int i, .int j => i == j
  | .str x, .str y => x == y
  | .lst xs, .lst ys => D.eqvs xs ys
  | .scr xs, .lst ys => D.eqvs xs ys
  | .lst xs, .scr ys => D.eqvs xs ys
  | .scr xs, .scr ys => D.eqvs xs ys
  | .tup xs, .tup ys => D.eqvs xs ys
  | _, _ => false
def D.eqvs : List D → List D → Bool
  | [], [] => true
  | x :: xs, y :: ys => D.eqv x y && D.eqvs xs ys
  | _, _ => false
end
section
variable {K : PySem.W.Frag} {G H : Hp}
mutual
theorem Rp.dp (s : Sub G H) : ∀ (n : Nat) (d : D) (v : V), D.shal n d = true → Rp K G d v → Dp K H v d.py ∧ d.py.plain = true ∧ d.py.depth ≤ n
  | n, .non, v, _, h => by
    simp only [Rp] at h
    subst h
    exact ⟨.non, rfl, by simp [D.py, PyData.depth]⟩
  | n, .bl b, v, _, h => by
    simp only [Rp] at h
    subst h
    exact ⟨.bl b, rfl, by simp [D.py, PyData.depth]⟩
  | n, .int i, v, _, h => by
    simp only [Rp] at h
    subst h
    exact ⟨.int i, rfl, by simp [D.py, PyData.depth]⟩
  | n, .str x, v, _, h => by
    simp only [Rp] at h
    subst h
    exact ⟨.str x, rfl, by simp [D.py, PyData.depth]⟩
  | 0, .lst ds, v, e, h => by simp [D.shal] at e
  | 0, .scr ds, v, e, h => by simp [D.shal] at e
  | 0, .tup ds, v, e, h => by simp [D.shal] at e
  | 0, .dct _ ds, v, e, h => by simp [D.shal] at e
  | 0, .ins _ _ ds, v, e, h => by simp [D.shal] at e
  | 0, .exn _ _ _ _ ds, v, e, h => by simp [D.shal] at e
  | n + 1, .exn _ _ _ _ ds, v, e, h => by simp [D.shal] at e
  | n + 1, .dct _ ds, v, e, h => by simp [D.shal] at e
  | n + 1, .ins _ _ ds, v, e, h => by simp [D.shal] at e
  | n + 1, .lst ds, v, e, h => by
    simp only [D.shal] at e
    simp only [Rp] at h
    obtain ⟨a, xs, rfl, h2, h3⟩ := h
    obtain ⟨q1, q2, q3⟩ := RpL.dp s n ds xs e h3
    refine ⟨by simp only [D.py]; exact .lst (.of (s.lst h2)) q1, by simp only [D.py, PyData.plain]; exact q2, by simp only [D.py, PyData.depth]; omega⟩
  | n + 1, .scr ds, v, e, h => by
    simp only [D.shal] at e
    simp only [Rp] at h
    obtain ⟨a, xs, rfl, h2, h3⟩ := h
    obtain ⟨q1, q2, q3⟩ := RpL.dp s n ds xs e h3
    refine ⟨by simp only [D.py]; exact .lst (s.list h2) q1, by simp only [D.py, PyData.plain]; exact q2, by simp only [D.py, PyData.depth]; omega⟩
  | n + 1, .tup ds, v, e, h => by
    simp only [D.shal] at e
    simp only [Rp] at h
    obtain ⟨a, xs, rfl, h2, h3⟩ := h
    obtain ⟨q1, q2, q3⟩ := RpL.dp s n ds xs e h3
    refine ⟨by simp only [D.py]; exact .tup (s.tup h2) q1, by simp only [D.py, PyData.plain]; exact q2, by simp only [D.py, PyData.depth]; omega⟩
theorem RpL.dp (s : Sub G H) : ∀ (n : Nat) (ds : List D) (xs : List V), D.shals n ds = true → RpL K G ds xs → DpAll K H xs (D.pys ds) ∧ PyData.plainAll (D.pys ds) = true ∧ PyData.depthAll (D.pys ds) ≤ n
  | n, [], xs, _, h => by
    simp only [RpL] at h
    subst h
    exact ⟨.nil, rfl, by simp [D.pys, PyData.depthAll]⟩
  | n, d :: ds, xs, e, h => by
    simp only [D.shals, Bool.and_eq_true] at e
    simp only [RpL] at h
    obtain ⟨x, r, rfl, h1, h2⟩ := h
    obtain ⟨q1, q2, q3⟩ := Rp.dp s n d x e.1 h1
    obtain ⟨p1, p2, p3⟩ := RpL.dp s n ds r e.2 h2
    refine ⟨by simp only [D.pys]; exact .cons q1 p1, by simp only [D.pys, PyData.plainAll, q2, p2] <;> rfl, by simp only [D.pys, PyData.depthAll]; omega⟩
end
mutual
theorem eqv_py : ∀ (n m : Nat) (d e : D), D.shal n d = true → D.shal m e = true → PyData.eqv d.py e.py = D.eqv d e
  | n, m, .lst xs, .lst ys, h1, h2 => by
    cases n with
    | zero => simp [D.shal] at h1
    | succ n => cases m with
      | zero => simp [D.shal] at h2
      | succ m =>
        simp only [D.shal] at h1 h2
        simp only [D.py, PyData.eqv, D.eqv]
        exact eqvs_py n m xs ys h1 h2
  | n, m, .lst xs, .scr ys, h1, h2 => by
    cases n with
    | zero => simp [D.shal] at h1
    | succ n => cases m with
      | zero => simp [D.shal] at h2
      | succ m =>
        simp only [D.shal] at h1 h2
        simp only [D.py, PyData.eqv, D.eqv]
        exact eqvs_py n m xs ys h1 h2
  | n, m, .scr xs, .lst ys, h1, h2 => by
    cases n with
    | zero => simp [D.shal] at h1
    | succ n => cases m with
      | zero => simp [D.shal] at h2
      | succ m =>
        simp only [D.shal] at h1 h2
        simp only [D.py, PyData.eqv, D.eqv]
        exact eqvs_py n m xs ys h1 h2
  | n, m, .scr xs, .scr ys, h1, h2 => by
    cases n with
    | zero => simp [D.shal] at h1
    | succ n => cases m with
      | zero => simp [D.shal] at h2
      | succ m =>
        simp only [D.shal] at h1 h2
        simp only [D.py, PyData.eqv, D.eqv]
        exact eqvs_py n m xs ys h1 h2
  | n, m, .tup xs, .tup ys, h1, h2 => by
    cases n with
    | zero => simp [D.shal] at h1
    | succ n => cases m with
      | zero => simp [D.shal] at h2
      | succ m =>
        simp only [D.shal] at h1 h2
        simp only [D.py, PyData.eqv, D.eqv]
        exact eqvs_py n m xs ys h1 h2
  | n, m, .dct _ _, _, h1, h2 => by cases n <;> simp [D.shal] at h1
  | n, m, .ins _ _ _, _, h1, h2 => by cases n <;> simp [D.shal] at h1
  | n, m, .exn _ _ _ _ _, _, h1, h2 => by cases n <;> simp [D.shal] at h1
  | n, m, d, .exn _ _ _ _ _, h1, h2 => by cases m <;> simp [D.shal] at h2
  | n, m, d, .dct _ _, h1, h2 => by cases m <;> simp [D.shal] at h2
  | n, m, d, .ins _ _ _, h1, h2 => by cases m <;> simp [D.shal] at h2
  | n, m, .non, .non, _, _ | n, m, .non, .bl _, _, _ | n, m, .non, .int _, _, _ | n, m, .non, .str _, _, _ | n, m, .non, .lst _, _, _ | n, m, .non, .scr _, _, _ | n, m, .non, .tup _, _, _
  | n, m, .bl _, .non, _, _ | n, m, .bl _, .bl _, _, _ | n, m, .bl _, .int _, _, _ | n, m, .bl _, .str _, _, _ | n, m, .bl _, .lst _, _, _ | n, m, .bl _, .scr _, _, _ | n, m, .bl _, .tup _, _, _
  | n, m, .int _, .non, _, _ | n, m, .int _, .bl _, _, _ | n, m, .int _, .int _, _, _ | n, m, .int _, .str _, _, _ | n, m, .int _, .lst _, _, _ | n, m, .int _, .scr _, _, _ | n, m, .int _, .tup _, _, _
  | n, m, .str _, .non, _, _ | n, m, .str _, .bl _, _, _ | n, m, .str _, .int _, _, _ | n, m, .str _, .str _, _, _ | n, m, .str _, .lst _, _, _ | n, m, .str _, .scr _, _, _ | n, m, .str _, .tup _, _, _
  | n, m, .lst _, .non, _, _ | n, m, .lst _, .bl _, _, _ | n, m, .lst _, .int _, _, _ | n, m, .lst _, .str _, _, _ | n, m, .lst _, .tup _, _, _
  | n, m, .scr _, .non, _, _ | n, m, .scr _, .bl _, _, _ | n, m, .scr _, .int _, _, _ | n, m, .scr _, .str _, _, _ | n, m, .scr _, .tup _, _, _
  | n, m, .tup _, .non, _, _ | n, m, .tup _, .bl _, _, _ | n, m, .tup _, .int _, _, _ | n, m, .tup _, .str _, _, _ | n, m, .tup _, .lst _, _, _ | n, m, .tup _, .scr _, _, _ => by simp [D.py, PyData.eqv, D.eqv]
theorem eqvs_py : ∀ (n m : Nat) (xs ys : List D), D.shals n xs = true → D.shals m ys = true → PyData.eqvAll (D.pys xs) (D.pys ys) = D.eqvs xs ys
  | n, m, [], [], _, _ => by simp [D.pys, PyData.eqvAll, D.eqvs]
  | n, m, [], _ :: _, _, _ => by simp [D.pys, PyData.eqvAll, D.eqvs]
  | n, m, _ :: _, [], _, _ => by simp [D.pys, PyData.eqvAll, D.eqvs]
  | n, m, x :: xs, y :: ys, h1, h2 => by
    simp only [D.shals, Bool.and_eq_true] at h1 h2
    simp only [D.pys, PyData.eqvAll, D.eqvs]
    rw [eqv_py n m x y h1.1 h2.1, eqvs_py n m xs ys h1.2 h2.2]
end
end
/-- == and != of data, whatever the texts -/
def rEqP (K : PySem.W.Frag) : R2 := fun x y H Q => ∃ d e, Dp K H x d ∧ Dp K H y e ∧ d.plain = true ∧ e.plain = true ∧ d.depth ≤ 60 ∧ e.depth ≤ 60 ∧ Q (.bl (PyData.eqv d e)) H
def rNeP (K : PySem.W.Frag) : R2 := fun x y H Q => ∃ d e, Dp K H x d ∧ Dp K H y e ∧ d.plain = true ∧ e.plain = true ∧ d.depth ≤ 60 ∧ e.depth ≤ 60 ∧ Q (.bl (!PyData.eqv d e)) H
section
variable {X : Cx}
theorem op_eqP (hu : X.A.units + 64 < cLine) : OpR X (compareOp .Eq) (rEqP X.K) := by
  intro pins s σ H x y v u Q I rx ry h
  obtain ⟨d, e, dx, dy, h1, h2, h3, h4, q⟩ := h
  obtain ⟨as, r1⟩ := Dp.reads I d x v dx rx
  obtain ⟨bs, r2⟩ := Dp.reads I e y u dy ry
  exact SeqAt.eq_plain r1 r2 h1 h2 (by omega) ⟨.bl _, H, I, rfl, q⟩
theorem op_neP (hu : X.A.units + 64 < cLine) : OpR X (compareOp .NotEq) (rNeP X.K) := by
  intro pins s σ H x y v u Q I rx ry h
  obtain ⟨d, e, dx, dy, h1, h2, h3, h4, q⟩ := h
  obtain ⟨as, r1⟩ := Dp.reads I d x v dx rx
  obtain ⟨bs, r2⟩ := Dp.reads I e y u dy ry
  exact SeqAt.ne_plain r1 r2 h1 h2 (by omega) ⟨.bl _, H, I, rfl, q⟩
end
end PD

set_option Elab.async false
set_option linter.all false
set_option maxRecDepth 100000
set_option maxHeartbeats 2000000
/-! PD: operations by values, their denotations. -/
namespace PD
open PySem PySem.Spec PyProof.Rows L2
section
variable {K : PySem.W.Frag} {G H : Hp}
theorem RpL.app : ∀ {ds es : List D} {xs ys : List V}, RpL K G ds xs → RpL K G es ys → RpL K G (ds ++ es) (xs ++ ys)
  | [], es, xs, ys, h1, h2 => by
    simp only [RpL] at h1
    subst h1
    exact h2
  | d :: ds, es, xs, ys, h1, h2 => by
    simp only [RpL] at h1
    obtain ⟨x, r, rfl, h3, h4⟩ := h1
    simp only [List.cons_append, RpL]
    exact ⟨x, r ++ ys, rfl, h3, RpL.app h4 h2⟩
theorem RpL.get {ds : List D} {xs : List V} (h : RpL K G ds xs) {j : Nat} {d : D} (e : ds[j]? = some d) : ∃ x, xs[j]? = some x ∧ Rp K G d x := by
  induction ds generalizing xs j with
  | nil => cases j <;> simp at e
  | cons a ds ih =>
    simp only [RpL] at h
    obtain ⟨x, r, rfl, h1, h2⟩ := h
    cases j with
    | zero =>
      simp at e
      subst e
      exact ⟨x, rfl, h1⟩
    | succ j => exact ih h2 (by simpa using e)
theorem RpL.take : ∀ {ds : List D} {xs : List V} (n : Nat), RpL K G ds xs → RpL K G (ds.take n) (xs.take n)
  | [], xs, n, h => by
    simp only [RpL] at h
    subst h
    simp [RpL]
  | d :: ds, xs, 0, h => by simp [RpL]
  | d :: ds, xs, n + 1, h => by
    simp only [RpL] at h
    obtain ⟨x, r, rfl, h1, h2⟩ := h
    simp only [List.take_succ_cons, RpL]
    exact ⟨x, _, rfl, h1, RpL.take n h2⟩
theorem RpL.drop : ∀ {ds : List D} {xs : List V} (n : Nat), RpL K G ds xs → RpL K G (ds.drop n) (xs.drop n)
  | [], xs, n, h => by
    simp only [RpL] at h
    subst h
    simp [RpL]
  | d :: ds, xs, 0, h => h
  | d :: ds, xs, n + 1, h => by
    simp only [RpL] at h
    obtain ⟨x, r, rfl, h1, h2⟩ := h
    simp only [List.drop_succ_cons]
    exact RpL.drop n h2
theorem RpL.ints : ∀ {ns : List Int} {xs : List V}, RpL K G (ns.map D.int) xs → xs = ns.map V.int
  | [], xs, h => by simpa only [List.map, RpL] using h
  | n :: ns, xs, h => by
    simp only [List.map, RpL, Rp] at h
    obtain ⟨x, r, rfl, rfl, h2⟩ := h
    rw [RpL.ints h2]
    rfl
theorem RpL.bls : ∀ {ns : List Bool} {xs : List V}, RpL K G (ns.map D.bl) xs → xs = ns.map V.bl
  | [], xs, h => by simpa only [List.map, RpL] using h
  | n :: ns, xs, h => by
    simp only [List.map, RpL, Rp] at h
    obtain ⟨x, r, rfl, rfl, h2⟩ := h
    rw [RpL.bls h2]
    rfl
theorem RpL.strs : ∀ {ns : List Str} {xs : List V}, RpL K G (ns.map D.str) xs → xs = ns.map V.str
  | [], xs, h => by simpa only [List.map, RpL] using h
  | n :: ns, xs, h => by
    simp only [List.map, RpL, Rp] at h
    obtain ⟨x, r, rfl, rfl, h2⟩ := h
    rw [RpL.strs h2]
    rfl
/-- all ints, all texts, all bools of a list of data -/
def D.ints? : List D → Option (List Int)
  | [] => some []
  | .int i :: r => (D.ints? r).map (i :: ·)
  | _ => none
theorem D.ints?_map (ns : List Int) : D.ints? (ns.map D.int) = some ns := by
  induction ns with
  | nil => rfl
  | cons n ns ih => simp [D.ints?, ih]
theorem D.ints?_eq : ∀ {ds : List D} {ns : List Int}, D.ints? ds = some ns → ds = ns.map D.int
  | [], ns, h => by
    simp [D.ints?] at h
    subst h
    rfl
  | d :: r, ns, h => by
    cases d with
    | int i =>
      simp only [D.ints?, Option.map_eq_some_iff] at h
      obtain ⟨m, h1, rfl⟩ := h
      rw [D.ints?_eq h1]
      rfl
    | _ => simp [D.ints?] at h
def D.bls? : List D → Option (List Bool)
  | [] => some []
  | .bl i :: r => (D.bls? r).map (i :: ·)
  | _ => none
theorem D.bls?_map (ns : List Bool) : D.bls? (ns.map D.bl) = some ns := by
  induction ns with
  | nil => rfl
  | cons n ns ih => simp [D.bls?, ih]
theorem D.bls?_eq : ∀ {ds : List D} {ns : List Bool}, D.bls? ds = some ns → ds = ns.map D.bl
  | [], ns, h => by
    simp [D.bls?] at h
    subst h
    rfl
  | d :: r, ns, h => by
    cases d with
    | bl i =>
      simp only [D.bls?, Option.map_eq_some_iff] at h
      obtain ⟨m, h1, rfl⟩ := h
      rw [D.bls?_eq h1]
      rfl
    | _ => simp [D.bls?] at h
/-! ### + - * // % ** -/
def rAddStr : R2 := fun x y H Q => ∃ i j, x = .str i ∧ y = .str j ∧ i.length + j.length ≤ sizeLine ∧ Q (.str (i ++ j)) H
def rAddA (K : PySem.W.Frag) : R2 := fun x y H Q => rI0 (fun i j => .int (i + j)) x y H Q ∨ rAddStr x y H Q ∨ rCat x y H Q ∨ rCatA K x y H Q
def fAdd : D → D → Option T
  | .int i, .int j => some (.sh (.int (i + j)))
  | .str i, .str j => if i.length + j.length ≤ sizeLine then some (.sh (.str (i ++ j))) else none
  | .lst xs, .lst ys => if xs.length + ys.length ≤ sizeLine then some (.lst ((xs ++ ys).map .sh)) else none
  | .tup xs, .tup ys => if xs.length + ys.length ≤ sizeLine then (match xs, ys with | [], _ => some (.sh (.tup ys)) | _, [] => some (.sh (.tup xs)) | _, _ => some (.tup ((xs ++ ys).map .sh))) else none
  | _, _ => none
theorem opT_add : OpT K (rAddA K) fAdd := by
  intro x y d1 d2 t G H Q s h1 h2 ht fq
  unfold fAdd at ht
  split at ht
  · cases ht
    simp only [Rp] at h1 h2
    exact .inl ⟨_, _, h1, h2, fq.sh s (by simp only [Rp])⟩
  · split at ht
    · rename_i hz
      cases ht
      simp only [Rp] at h1 h2
      exact .inr (.inl ⟨_, _, h1, h2, hz, fq.sh s (by simp only [Rp])⟩)
    · cases ht
  · split at ht
    · rename_i hz
      cases ht
      simp only [Rp] at h1 h2
      obtain ⟨a, vs, e1, e2, e3⟩ := h1
      obtain ⟨b, ws, f1, f2, f3⟩ := h2
      exact .inr (.inr (.inl ⟨a, b, vs, ws, e1, f1, s.lst e2, s.lst f2, by rw [← e3.length, ← f3.length]; exact hz, fun p hp => fq.lst s (e3.app f3) hp⟩))
    · cases ht
  · rename_i xs ys
    split at ht
    · rename_i hz
      simp only [Rp] at h1 h2
      obtain ⟨a, vs, e1, e2, e3⟩ := h1
      obtain ⟨b, ws, f1, f2, f3⟩ := h2
      have l1 := e3.length
      have l2 := f3.length
      refine .inr (.inr (.inr ⟨a, b, vs, ws, e1, f1, s.tup e2, s.tup f2, by omega, fun z => ?_, fun z z2 => ?_, fun z z2 p hp => ?_⟩))
      · have e : xs = [] := List.length_eq_zero_iff.mp (by rw [l1, z]; rfl)
        subst e
        cases ht
        exact fq.sh s (by simp only [Rp]; exact ⟨b, ws, rfl, f2, f3⟩)
      · have e : ys = [] := List.length_eq_zero_iff.mp (by rw [l2, z2]; rfl)
        subst e
        cases xs with
        | nil => exact absurd (List.length_eq_zero_iff.mp l1.symm) z
        | cons x xs =>
          cases ht
          exact fq.sh s (by simp only [Rp]; exact ⟨a, vs, rfl, e2, e3⟩)
      · cases xs with
        | nil => exact absurd (List.length_eq_zero_iff.mp l1.symm) z
        | cons x xs =>
          cases ys with
          | nil => exact absurd (List.length_eq_zero_iff.mp l2.symm) z2
          | cons y ys =>
            cases ht
            exact fq.tup s (e3.app f3) hp
    · cases ht
  · cases ht
theorem op_addA {X : Cx} : OpR X (binaryOp .Add) (rAddA X.K) := op_add.or (op_add_str.or (op_cat.or op_catA))
def fSub : D → D → Option T
  | .int i, .int j => some (.sh (.int (i - j)))
  | _, _ => none
theorem opT_sub : OpT K (rI0 fun i j => .int (i - j)) fSub := by
  intro x y d1 d2 t G H Q s h1 h2 ht fq
  unfold fSub at ht
  split at ht
  · cases ht
    simp only [Rp] at h1 h2
    exact ⟨_, _, h1, h2, fq.sh s (by simp only [Rp])⟩
  · cases ht
instance (i j : Int) : Decidable (CMul i j) := by unfold CMul; infer_instance
instance (i j : Int) : Decidable (CDiv i j) := by unfold CDiv; infer_instance
def fMul : D → D → Option T
  | .int i, .int j => if CMul i j then some (.sh (.int (i * j))) else none
  | .lst xs, .int k => if -(2 ^ 63) ≤ k ∧ k < 2 ^ 63 ∧ xs.length * k.toNat ≤ sizeLine then some (.lst ((List.replicate k.toNat xs).flatten.map .sh)) else none
  | _, _ => none
def rMulA : R2 := fun x y H Q => rI CMul (fun i j => .int (i * j)) x y H Q ∨ rRep x y H Q
theorem RpL.rep {ds : List D} {xs : List V} (h : RpL K G ds xs) : ∀ n : Nat, RpL K G (List.replicate n ds).flatten (List.replicate n xs).flatten
  | 0 => by simp [RpL]
  | n + 1 => by
    rw [List.replicate_succ, List.replicate_succ, List.flatten_cons, List.flatten_cons]
    exact h.app (RpL.rep h n)
theorem opT_mul : OpT K rMulA fMul := by
  intro x y d1 d2 t G H Q s h1 h2 ht fq
  unfold fMul at ht
  split at ht
  · split at ht
    · rename_i hz
      cases ht
      simp only [Rp] at h1 h2
      exact .inl ⟨_, _, h1, h2, hz, fq.sh s (by simp only [Rp])⟩
    · cases ht
  · split at ht
    · rename_i hz
      cases ht
      simp only [Rp] at h1 h2
      obtain ⟨a, vs, e1, e2, e3⟩ := h1
      exact .inr ⟨a, _, vs, e1, h2, s.lst e2, hz.1, hz.2.1, by rw [← e3.length]; exact hz.2.2, fun p hp => fq.lst s (e3.rep _) hp⟩
    · cases ht
  · cases ht
theorem op_mulA {X : Cx} : OpR X (binaryOp .Mult) rMulA := op_mul.or op_rep
def fFdiv : D → D → Option T
  | .int i, .int j => if CDiv i j then some (.sh (.int (i / j))) else none
  | _, _ => none
theorem opT_fdiv : OpT K (rI CDiv fun i j => .int (i / j)) fFdiv := by
  intro x y d1 d2 t G H Q s h1 h2 ht fq
  unfold fFdiv at ht
  split at ht
  · split at ht
    · rename_i hz
      cases ht
      simp only [Rp] at h1 h2
      exact ⟨_, _, h1, h2, hz, fq.sh s (by simp only [Rp])⟩
    · cases ht
  · cases ht
def fMod : D → D → Option T
  | .int i, .int j => if 0 < j then some (.sh (.int (i % j))) else none
  | _, _ => none
theorem opT_mod : OpT K (rI (fun _ j => 0 < j) fun i j => .int (i % j)) fMod := by
  intro x y d1 d2 t G H Q s h1 h2 ht fq
  unfold fMod at ht
  split at ht
  · split at ht
    · rename_i hz
      cases ht
      simp only [Rp] at h1 h2
      exact ⟨_, _, h1, h2, hz, fq.sh s (by simp only [Rp])⟩
    · cases ht
  · cases ht
def CPowW (i j : Int) : Prop := 0 ≤ j ∧ (Builtin.Int.intBits i : Int) * j ≤ 2 ^ 27
instance (i j : Int) : Decidable (CPowW i j) := by unfold CPowW; infer_instance
theorem op_powW {X : Cx} : OpR X (binaryOp .Pow) (rI CPowW fun i j => .int (i ^ j.toNat)) := opI fun _ _ _ _ _ _ _ hc q => pow_int hc.1 hc.2 q
def fPow : D → D → Option T
  | .int i, .int j => if CPowW i j then some (.sh (.int (i ^ j.toNat))) else none
  | _, _ => none
theorem opT_pow : OpT K (rI CPowW fun i j => .int (i ^ j.toNat)) fPow := by
  intro x y d1 d2 t G H Q s h1 h2 ht fq
  unfold fPow at ht
  split at ht
  · split at ht
    · rename_i hz
      cases ht
      simp only [Rp] at h1 h2
      exact ⟨_, _, h1, h2, hz, fq.sh s (by simp only [Rp])⟩
    · cases ht
  · cases ht
/-! ### comparisons -/
def fEq (d e : D) : Option Bool := if d.shal 60 = true ∧ e.shal 60 = true then some (d.eqv e) else none
def fNe (d e : D) : Option Bool := if d.shal 60 = true ∧ e.shal 60 = true then some (!d.eqv e) else none
theorem cmT_eq : CmT K (rEqP K) fEq := by
  intro x y d1 d2 k G H Q s h1 h2 ht q
  unfold fEq at ht
  split at ht
  · rename_i hz
    cases ht
    obtain ⟨a1, a2, a3⟩ := Rp.dp s 60 d1 x hz.1 h1
    obtain ⟨b1, b2, b3⟩ := Rp.dp s 60 d2 y hz.2 h2
    exact ⟨_, _, a1, b1, a2, b2, a3, b3, by rw [eqv_py 60 60 d1 d2 hz.1 hz.2]; exact q⟩
  · cases ht
theorem cmT_ne : CmT K (rNeP K) fNe := by
  intro x y d1 d2 k G H Q s h1 h2 ht q
  unfold fNe at ht
  split at ht
  · rename_i hz
    cases ht
    obtain ⟨a1, a2, a3⟩ := Rp.dp s 60 d1 x hz.1 h1
    obtain ⟨b1, b2, b3⟩ := Rp.dp s 60 d2 y hz.2 h2
    exact ⟨_, _, a1, b1, a2, b2, a3, b3, by rw [eqv_py 60 60 d1 d2 hz.1 hz.2]; exact q⟩
  · cases ht
abbrev rStr2 (f : Str → Str → Bool) : R2 := fun x y H Q => ∃ i j, x = .str i ∧ y = .str j ∧ Q (.bl (f i j)) H
def fLt : D → D → Option Bool
  | .int i, .int j => some (decide (i < j))
  | .str i, .str j => some (decide (i.cps.toList < j.cps.toList))
  | _, _ => none
def fLe : D → D → Option Bool
  | .int i, .int j => some (decide (i ≤ j))
  | .str i, .str j => some (!decide (j.cps.toList < i.cps.toList))
  | _, _ => none
def fGt : D → D → Option Bool
  | .int i, .int j => some (decide (j < i))
  | .str i, .str j => some (decide (j.cps.toList < i.cps.toList))
  | _, _ => none
def fGe : D → D → Option Bool
  | .int i, .int j => some (decide (j ≤ i))
  | .str i, .str j => some (!decide (i.cps.toList < j.cps.toList))
  | _, _ => none
def rOrd (f : Int → Int → Bool) (g : Str → Str → Bool) : R2 := fun x y H Q => rI0 (fun i j => .bl (f i j)) x y H Q ∨ rStr2 g x y H Q
theorem cmT_ord {h : D → D → Option Bool} {f : Int → Int → Bool} {g : Str → Str → Bool} (e : ∀ d e, h d e = match d, e with | .int i, .int j => some (f i j) | .str i, .str j => some (g i j) | _, _ => none) : CmT K (rOrd f g) h := by
  intro x y d1 d2 k G H Q s h1 h2 ht q
  rw [e] at ht
  split at ht
  · cases ht
    simp only [Rp] at h1 h2
    exact .inl ⟨_, _, h1, h2, q⟩
  · cases ht
    simp only [Rp] at h1 h2
    exact .inr ⟨_, _, h1, h2, q⟩
  · cases ht
theorem cmT_lt : CmT K (rOrd (fun i j => decide (i < j)) (fun i j => decide (i.cps.toList < j.cps.toList))) fLt := cmT_ord fun d e => by unfold fLt; rfl
theorem cmT_le : CmT K (rOrd (fun i j => decide (i ≤ j)) (fun i j => !decide (j.cps.toList < i.cps.toList))) fLe := cmT_ord fun d e => by unfold fLe; rfl
theorem cmT_gt : CmT K (rOrd (fun i j => decide (j < i)) (fun i j => decide (j.cps.toList < i.cps.toList))) fGt := cmT_ord fun d e => by unfold fGt; rfl
theorem cmT_ge : CmT K (rOrd (fun i j => decide (j ≤ i)) (fun i j => !decide (i.cps.toList < j.cps.toList))) fGe := cmT_ord fun d e => by unfold fGe; rfl
theorem op_ltA {X : Cx} : OpR X (compareOp .Lt) (rOrd (fun i j => decide (i < j)) (fun i j => decide (i.cps.toList < j.cps.toList))) := op_lt.or op_lt_str
theorem op_leA {X : Cx} : OpR X (compareOp .LtE) (rOrd (fun i j => decide (i ≤ j)) (fun i j => !decide (j.cps.toList < i.cps.toList))) := op_le.or op_le_str
theorem op_gtA {X : Cx} : OpR X (compareOp .Gt) (rOrd (fun i j => decide (j < i)) (fun i j => decide (j.cps.toList < i.cps.toList))) := op_gt.or op_gt_str
theorem op_geA {X : Cx} : OpR X (compareOp .GtE) (rOrd (fun i j => decide (j ≤ i)) (fun i j => !decide (i.cps.toList < j.cps.toList))) := op_ge.or op_ge_str
/-! ### is None -/
def D.isN : D → Bool
  | .non => true
  | _ => false
theorem Rp.isN {d : D} {v : V} (h : Rp K G d v) : decide (v = .non) = d.isN := by
  cases d with
  | non => simp only [Rp] at h; subst h; rfl
  | bl b => simp only [Rp] at h; subst h; rfl
  | int b => simp only [Rp] at h; subst h; rfl
  | str b => simp only [Rp] at h; subst h; rfl
  | lst _ => simp only [Rp] at h; obtain ⟨a, xs, rfl, _⟩ := h; rfl
  | scr _ => simp only [Rp] at h; obtain ⟨a, xs, rfl, _⟩ := h; rfl
  | tup _ => simp only [Rp] at h; obtain ⟨a, xs, rfl, _⟩ := h; rfl
  | dct _ _ => simp only [Rp] at h; obtain ⟨a, o, xs, rfl, _⟩ := h; rfl
  | ins _ _ _ => simp only [Rp] at h; obtain ⟨a, dx, xs, rfl, _⟩ := h; rfl
  | exn _ _ _ _ _ => simp only [Rp] at h; obtain ⟨rfl, _⟩ := h; rfl
def fIsN (d e : D) : Option Bool := match e with
  | .non => some d.isN
  | _ => none
def fNotN (d e : D) : Option Bool := match e with
  | .non => some (!d.isN)
  | _ => none
theorem cmT_isN : CmT K (fun x y H Q => y = .non ∧ Q (.bl (decide (x = .non))) H) fIsN := by
  intro x y d1 d2 k G H Q s h1 h2 ht q
  cases d2 with
  | non => cases ht; exact ⟨by simpa only [Rp] using h2, by rw [h1.isN]; exact q⟩
  | _ => cases ht
theorem cmT_notN : CmT K (fun x y H Q => y = .non ∧ Q (.bl (!decide (x = .non))) H) fNotN := by
  intro x y d1 d2 k G H Q s h1 h2 ht q
  cases d2 with
  | non => cases ht; exact ⟨by simpa only [Rp] using h2, by rw [h1.isN]; exact q⟩
  | _ => cases ht
/-! ### in, not in -/
def strIn (i j : Str) : Bool := !(Builtin.Str.occurrences j i 0 j.length 1).isEmpty
/-- what is asked of data in a list -/
def D.mem (d : D) (ds : List D) : Bool := ds.any fun e => e.eqv d
def fIn (d e : D) : Option Bool := match e with
  | .str j => (match d with
    | .str i => some (strIn i j)
    | _ => none)
  | .lst ds => if d.shal 60 = true ∧ ds.all (D.shal 59) = true then some (d.mem ds) else none
  | .scr ds => if d.shal 60 = true ∧ ds.all (D.shal 59) = true then some (d.mem ds) else none
  | .tup ds => if d.shal 60 = true ∧ ds.all (D.shal 59) = true then some (d.mem ds) else none
  | _ => none
def fNotIn (d e : D) : Option Bool := (fIn d e).map (!·)
end
end PD

set_option Elab.async false
set_option linter.all false
set_option maxRecDepth 100000
set_option maxHeartbeats 2000000
/-! PD: in, subscripts, slices, builtins, displays. -/
namespace PD
open PySem PySem.Spec PyProof.Rows L2
/-! ### in, not in -/
def rInA (K : PySem.W.Frag) (neg : Bool) : R2 := fun x y H Q => (∃ d xs p vs, y = .ref p ∧ (SqL K H p vs ∨ SqT K H p vs) ∧ DpAll K H vs xs ∧ Dp K H x d ∧ PyData.plainAll xs = true ∧ d.plain = true ∧ PyData.depthAll xs ≤ 60 ∧ d.depth ≤ 60 ∧
    Q (.bl (if neg then !xs.any (fun y => PyData.eqv y d) else xs.any fun y => PyData.eqv y d)) H) ∨
  ∃ i j, x = .str i ∧ y = .str j ∧ Q (.bl (if neg then !strIn i j else strIn i j)) H
section
variable {X : Cx}
theorem op_inA (hu : X.A.units + 64 < cLine) : OpR X (compareOp .In) (rInA X.K false) := by
  intro pins s σ H x y v u Q I rx ry h
  rcases h with ⟨d, xs, p, vs, rfl, hq, hd, dx, h1, h2, h3, h4, q⟩ | ⟨i, j, rfl, rfl, q⟩
  · obtain ⟨bs, r1⟩ := Dp.reads I d x v dx rx
    rcases hq with hq | hq
    · obtain ⟨as, r2⟩ := Dp.reads I (.list xs) _ u (.lst hq hd) ry
      exact SeqAt.in_list_data r2 r1 h1 h2 (by omega) ⟨.bl _, H, I, rfl, q⟩
    · obtain ⟨as, r2⟩ := Dp.reads I (.tuple xs) _ u (.tup hq hd) ry
      exact SeqAt.in_tuple_data r2 r1 h1 h2 (by omega) ⟨.bl _, H, I, rfl, q⟩
  · exact op_in_str pins s σ H _ _ v u Q I rx ry ⟨i, j, rfl, rfl, q⟩
theorem op_notInA (hu : X.A.units + 64 < cLine) : OpR X (compareOp .NotIn) (rInA X.K true) := by
  intro pins s σ H x y v u Q I rx ry h
  rcases h with ⟨d, xs, p, vs, rfl, hq, hd, dx, h1, h2, h3, h4, q⟩ | ⟨i, j, rfl, rfl, q⟩
  · obtain ⟨bs, r1⟩ := Dp.reads I d x v dx rx
    rcases hq with hq | hq
    · obtain ⟨as, r2⟩ := Dp.reads I (.list xs) _ u (.lst hq hd) ry
      exact SeqAt.notIn_list_data r2 r1 h1 h2 (by omega) ⟨.bl _, H, I, rfl, q⟩
    · obtain ⟨as, r2⟩ := Dp.reads I (.tuple xs) _ u (.tup hq hd) ry
      exact SeqAt.notIn_tuple_data r2 r1 h1 h2 (by omega) ⟨.bl _, H, I, rfl, q⟩
  · exact L2.op_notin_str pins s σ H _ _ v u Q I rx ry ⟨i, j, rfl, rfl, q⟩
end
section
variable {K : PySem.W.Frag} {G H : Hp}
theorem mem_py {d : D} (h : d.shal 60 = true) : ∀ {ds : List D}, ds.all (D.shal 59) = true → (D.pys ds).any (fun y => PyData.eqv y d.py) = d.mem ds
  | [], _ => rfl
  | e :: ds, h2 => by
    rw [List.all_cons, Bool.and_eq_true] at h2
    simp only [D.pys, List.any_cons]
    rw [eqv_py 59 60 e d h2.1 h, mem_py h h2.2]
    rfl
theorem in_core {neg : Bool} {x y : V} {d1 : D} {ds : List D} {Q : VK} {p : Addr} {vs : List V} (s : Sub G H) (h1 : Rp K G d1 x) (hz1 : d1.shal 60 = true) (hz2 : ds.all (D.shal 59) = true)
    (e : y = .ref p) (hq : SqL K H p vs ∨ SqT K H p vs) (hr : RpL K G ds vs) (q : Q (.bl (if neg then !d1.mem ds else d1.mem ds)) H) : rInA K neg x y H Q := by
  obtain ⟨a1, a2, a3⟩ := Rp.dp s 60 d1 x hz1 h1
  obtain ⟨b1, b2, b3⟩ := RpL.dp s 59 ds vs (by rw [D.shals_all]; exact hz2) hr
  exact .inl ⟨_, _, p, vs, e, hq, b1, a1, b2, a2, by omega, a3, by rw [mem_py hz1 hz2]; exact q⟩
theorem cmT_inG {neg : Bool} {x y : V} {d1 d2 : D} {k : Bool} {Q : VK} (s : Sub G H) (h1 : Rp K G d1 x) (h2 : Rp K G d2 y) (ht : fIn d1 d2 = some k) (q : Q (.bl (if neg then !k else k)) H) : rInA K neg x y H Q := by
  unfold fIn at ht
  cases d2 with
  | str j =>
    cases d1 with
    | str i =>
      cases ht
      simp only [Rp] at h1 h2
      exact .inr ⟨i, j, h1, h2, q⟩
    | _ => cases ht
  | lst ds =>
    simp only at ht
    split at ht
    · rename_i hz
      cases ht
      simp only [Rp] at h2
      obtain ⟨p, vs, e, h3, h4⟩ := h2
      exact in_core s h1 hz.1 hz.2 e (.inl (.of (s.lst h3))) h4 q
    · cases ht
  | scr ds =>
    simp only at ht
    split at ht
    · rename_i hz
      cases ht
      simp only [Rp] at h2
      obtain ⟨p, vs, e, h3, h4⟩ := h2
      exact in_core s h1 hz.1 hz.2 e (.inl (s.list h3)) h4 q
    · cases ht
  | tup ds =>
    simp only at ht
    split at ht
    · rename_i hz
      cases ht
      simp only [Rp] at h2
      obtain ⟨p, vs, e, h3, h4⟩ := h2
      exact in_core s h1 hz.1 hz.2 e (.inr (s.tup h3)) h4 q
    · cases ht
  | _ => cases ht
theorem cmT_in : CmT K (rInA K false) fIn := fun x y d1 d2 k G H Q s h1 h2 ht q => cmT_inG s h1 h2 ht q
theorem cmT_notIn : CmT K (rInA K true) fNotIn := fun x y d1 d2 k G H Q s h1 h2 ht q => by
  unfold fNotIn at ht
  rw [Option.map_eq_some_iff] at ht
  obtain ⟨k', e, rfl⟩ := ht
  exact cmT_inG s h1 h2 e q
/-! ### subscripts -/
def fIx : D → D → Option D
  | .lst ds, .int i => atI ds i
  | .scr ds, .int i => atI ds i
  | .tup ds, .int i => atI ds i
  | .str z, .int i => if z.length ≤ sizeLine then (atI z.cps.toList i).map (fun c => .str ⟨#[c]⟩) else none
  | _, _ => none
theorem RpL.at {ds : List D} {xs : List V} (h : RpL K G ds xs) {i : Int} {d : D} (e : atI ds i = some d) : ∃ x, atI xs i = some x ∧ Rp K G d x := by
  unfold atI at e ⊢
  rw [← h.length]
  cases q : ixN ds.length i with
  | none => rw [q] at e; cases e
  | some j => rw [q] at e; exact h.get e
/-- an operation that gives a shared value -/
def OpD (K : PySem.W.Frag) (r : R2) (f : D → D → Option D) : Prop := ∀ x y d1 d2 d G H Q, Sub G H → Rp K G d1 x → Rp K G d2 y → f d1 d2 = some d → (∀ v, Rp K G d v → Q v H) → r x y H Q
theorem opD_ix : OpD K (rIx K) fIx := by
  intro x y d1 d2 d G H Q s h1 h2 ht q
  unfold fIx at ht
  split at ht
  · simp only [Rp] at h1 h2
    obtain ⟨a, vs, e1, e2, e3⟩ := h1
    obtain ⟨z, e4, e5⟩ := e3.at ht
    exact .inl ⟨a, vs, _, z, e1, h2, .of (s.lst e2), e4, q z e5⟩
  · simp only [Rp] at h1 h2
    obtain ⟨a, vs, e1, e2, e3⟩ := h1
    obtain ⟨z, e4, e5⟩ := e3.at ht
    exact .inl ⟨a, vs, _, z, e1, h2, s.list e2, e4, q z e5⟩
  · simp only [Rp] at h1 h2
    obtain ⟨a, vs, e1, e2, e3⟩ := h1
    obtain ⟨z, e4, e5⟩ := e3.at ht
    exact .inr (.inl ⟨a, vs, _, z, e1, h2, s.tup e2, e4, q z e5⟩)
  · split at ht
    · rename_i hz
      rw [Option.map_eq_some_iff] at ht
      obtain ⟨c, e, rfl⟩ := ht
      simp only [Rp] at h1 h2
      exact .inr (.inr ⟨_, _, c, h1, h2, hz, e, q _ (by simp only [Rp])⟩)
    · cases ht
  · cases ht
/-! ### slices -/
def cut {α : Type} (xs : List α) (lo hi : Option Int) : List α := (xs.drop (HT.sIx xs.length 0 lo)).take (HT.sIx xs.length xs.length hi - HT.sIx xs.length 0 lo)
theorem RpL.cut {ds : List D} {xs : List V} (h : RpL K G ds xs) (lo hi : Option Int) : RpL K G (cut ds lo hi) (cutV xs lo hi) := by
  unfold PD.cut cutV
  rw [h.length]
  exact (h.drop _).take _
def fSl (d : D) (lo hi : Option Int) : Option T := match d with
  | .lst ds => some (.lst ((cut ds lo hi).map .sh))
  | .scr ds => some (.lst ((cut ds lo hi).map .sh))
  | .tup ds => if HT.sIx ds.length 0 lo = 0 ∧ HT.sIx ds.length ds.length hi = ds.length then some (.sh (.tup ds)) else some (.tup ((cut ds lo hi).map .sh))
  | .str z => if z.length ≤ sizeLine then some (.sh (.str (cutS z lo hi))) else none
  | _ => none
def rSlX (K : PySem.W.Frag) : V → Option Int → Option Int → Hp → VK → Prop := fun x lo hi H Q => rSlL K x lo hi H Q ∨ rSlA K x lo hi H Q ∨ rSlS x lo hi H Q
theorem sl_X {X : Cx} : SlR X (rSlX X.K) := sl_list.or (sl_tupA.or sl_str)
theorem sl_T {x : V} {d : D} {lo hi : Option Int} {t : T} {Q : VK} (s : Sub G H) (h : Rp K G d x) (ht : fSl d lo hi = some t) (fq : FreshQ K H G t Q) : rSlX K x lo hi H Q := by
  unfold fSl at ht
  cases d with
  | lst ds =>
    cases ht
    simp only [Rp] at h
    obtain ⟨a, vs, e1, e2, e3⟩ := h
    exact .inl ⟨a, vs, e1, .of (s.lst e2), fun p hp => fq.lst s (e3.cut lo hi) hp⟩
  | scr ds =>
    cases ht
    simp only [Rp] at h
    obtain ⟨a, vs, e1, e2, e3⟩ := h
    exact .inl ⟨a, vs, e1, s.list e2, fun p hp => fq.lst s (e3.cut lo hi) hp⟩
  | tup ds =>
    simp only [Rp] at h
    obtain ⟨a, vs, e1, e2, e3⟩ := h
    have hl := e3.length
    simp only at ht
    refine .inr (.inl ⟨a, vs, e1, s.tup e2, fun z => ?_, fun z p hp => ?_⟩)
    · rw [if_pos (by rw [hl]; exact z)] at ht
      cases ht
      exact fq.sh s (by simp only [Rp]; exact ⟨a, vs, rfl, e2, e3⟩)
    · rw [if_neg (by rw [hl]; exact z)] at ht
      cases ht
      exact fq.tup s (e3.cut lo hi) hp
  | str z =>
    simp only at ht
    split at ht
    · rename_i hz
      cases ht
      simp only [Rp] at h
      exact .inr (.inr ⟨z, h, hz, fq.sh s (by simp only [Rp])⟩)
    · cases ht
  | _ => cases ht
/-! ### builtins -/
def rLenA (K : PySem.W.Frag) : List V → Hp → VK → Prop := fun xs H Q => (∃ p ys, xs = [.ref p] ∧ (SqL K H p ys ∨ SqT K H p ys) ∧ Q (.int ys.length) H) ∨ ∃ z, xs = [.str z] ∧ z.length ≤ sizeLine ∧ Q (.int z.length) H
theorem call_lenA {X : Cx} : CallR X (.builtin "len") (rLenA X.K) := call_len_seq.or call_len_str
def fLen : List D → Option T
  | [.lst ds] => some (.sh (.int ds.length))
  | [.scr ds] => some (.sh (.int ds.length))
  | [.tup ds] => some (.sh (.int ds.length))
  | [.str z] => if z.length ≤ sizeLine then some (.sh (.int z.length)) else none
  | _ => none
theorem RpL.one {d : D} {xs : List V} (h : RpL K G [d] xs) : ∃ x, xs = [x] ∧ Rp K G d x := by
  simp only [RpL] at h
  obtain ⟨x, r, rfl, h1, rfl⟩ := h
  exact ⟨x, rfl, h1⟩
theorem RpL.two {d e : D} {xs : List V} (h : RpL K G [d, e] xs) : ∃ x y, xs = [x, y] ∧ Rp K G d x ∧ Rp K G e y := by
  simp only [RpL] at h
  obtain ⟨x, r, rfl, h1, y, r, rfl, h2, rfl⟩ := h
  exact ⟨x, y, rfl, h1, h2⟩
theorem caT_len : CaT K (rLenA K) fLen := by
  intro xs ds t G H Q s h ht fq
  unfold fLen at ht
  split at ht
  · cases ht
    obtain ⟨x, rfl, h0⟩ := h.one
    simp only [Rp] at h0
    obtain ⟨a, vs, rfl, e2, e3⟩ := h0
    exact .inl ⟨a, vs, rfl, .inl (.of (s.lst e2)), by rw [← e3.length]; exact fq.sh s (by simp only [Rp])⟩
  · cases ht
    obtain ⟨x, rfl, h0⟩ := h.one
    simp only [Rp] at h0
    obtain ⟨a, vs, rfl, e2, e3⟩ := h0
    exact .inl ⟨a, vs, rfl, .inl (s.list e2), by rw [← e3.length]; exact fq.sh s (by simp only [Rp])⟩
  · cases ht
    obtain ⟨x, rfl, h0⟩ := h.one
    simp only [Rp] at h0
    obtain ⟨a, vs, rfl, e2, e3⟩ := h0
    exact .inl ⟨a, vs, rfl, .inr (s.tup e2), by rw [← e3.length]; exact fq.sh s (by simp only [Rp])⟩
  · split at ht
    · rename_i hz
      cases ht
      obtain ⟨x, rfl, h0⟩ := h.one
      simp only [Rp] at h0
      subst h0
      exact .inr ⟨_, rfl, hz, fq.sh s (by simp only [Rp])⟩
    · cases ht
  · cases ht
def rListA (K : PySem.W.Frag) : List V → Hp → VK → Prop := fun xs H Q => ∃ p ys, xs = [.ref p] ∧ (SqL K H p ys ∨ SqT K H p ys) ∧ ∀ l, H l = none → Q (.ref l) (upd H l (.lst ys))
def fList : List D → Option T
  | [.lst ds] => some (.lst (ds.map .sh))
  | [.scr ds] => some (.lst (ds.map .sh))
  | [.tup ds] => some (.lst (ds.map .sh))
  | _ => none
theorem caT_list : CaT K (rListA K) fList := by
  intro xs ds t G H Q s h ht fq
  unfold fList at ht
  split at ht
  · cases ht
    obtain ⟨x, rfl, h0⟩ := h.one
    simp only [Rp] at h0
    obtain ⟨a, vs, rfl, e2, e3⟩ := h0
    exact ⟨a, vs, rfl, .inl (.of (s.lst e2)), fun p hp => fq.lst s e3 hp⟩
  · cases ht
    obtain ⟨x, rfl, h0⟩ := h.one
    simp only [Rp] at h0
    obtain ⟨a, vs, rfl, e2, e3⟩ := h0
    exact ⟨a, vs, rfl, .inl (s.list e2), fun p hp => fq.lst s e3 hp⟩
  · cases ht
    obtain ⟨x, rfl, h0⟩ := h.one
    simp only [Rp] at h0
    obtain ⟨a, vs, rfl, e2, e3⟩ := h0
    exact ⟨a, vs, rfl, .inr (s.tup e2), fun p hp => fq.lst s e3 hp⟩
  · cases ht
def rTupleA (K : PySem.W.Frag) : List V → Hp → VK → Prop := fun xs H Q => ∃ p ys, xs = [.ref p] ∧ ((SqL K H p ys ∧ ∀ l, H l = none → Q (.ref l) (upd H l (.tup ys))) ∨ (SqT K H p ys ∧ Q (.ref p) H))
def fTuple : List D → Option T
  | [.lst ds] => some (.tup (ds.map .sh))
  | [.scr ds] => some (.tup (ds.map .sh))
  | [.tup ds] => some (.sh (.tup ds))
  | _ => none
theorem caT_tuple : CaT K (rTupleA K) fTuple := by
  intro xs ds t G H Q s h ht fq
  unfold fTuple at ht
  split at ht
  · cases ht
    obtain ⟨x, rfl, h0⟩ := h.one
    simp only [Rp] at h0
    obtain ⟨a, vs, rfl, e2, e3⟩ := h0
    exact ⟨a, vs, rfl, .inl ⟨.of (s.lst e2), fun p hp => fq.tup s e3 hp⟩⟩
  · cases ht
    obtain ⟨x, rfl, h0⟩ := h.one
    simp only [Rp] at h0
    obtain ⟨a, vs, rfl, e2, e3⟩ := h0
    exact ⟨a, vs, rfl, .inl ⟨s.list e2, fun p hp => fq.tup s e3 hp⟩⟩
  · cases ht
    obtain ⟨x, rfl, h0⟩ := h.one
    simp only [Rp] at h0
    obtain ⟨a, vs, rfl, e2, e3⟩ := h0
    exact ⟨a, vs, rfl, .inr ⟨s.tup e2, fq.sh s (by simp only [Rp]; exact ⟨a, vs, rfl, e2, e3⟩)⟩⟩
  · cases ht
def rInt1 : List V → Hp → VK → Prop := fun xs H Q => (∃ i, xs = [.int i] ∧ Q (.int i) H) ∨ ∃ k, xs = [.bl k] ∧ Q (.int (if k then 1 else 0)) H
def fInt : List D → Option T
  | [.int i] => some (.sh (.int i))
  | [.bl k] => some (.sh (.int (if k then 1 else 0)))
  | _ => none
theorem caT_int : CaT K rInt1 fInt := by
  intro xs ds t G H Q s h ht fq
  unfold fInt at ht
  split at ht
  · cases ht
    obtain ⟨x, rfl, h0⟩ := h.one
    simp only [Rp] at h0
    subst h0
    exact .inl ⟨_, rfl, fq.sh s (by simp only [Rp])⟩
  · cases ht
    obtain ⟨x, rfl, h0⟩ := h.one
    simp only [Rp] at h0
    subst h0
    exact .inr ⟨_, rfl, fq.sh s (by simp only [Rp])⟩
  · cases ht
def rSum1 (K : PySem.W.Frag) : List V → Hp → VK → Prop := rSum K
def D.items? : D → Option (List D)
  | .lst ds => some ds
  | .scr ds => some ds
  | _ => none
theorem Rp.items {d : D} {v : V} {ds : List D} (s : Sub G H) (h : Rp K G d v) (e : d.items? = some ds) : ∃ a xs, v = .ref a ∧ SqL K H a xs ∧ RpL K G ds xs := by
  cases d with
  | lst es => cases e; simp only [Rp] at h; obtain ⟨a, xs, h1, h2, h3⟩ := h; exact ⟨a, xs, h1, .of (s.lst h2), h3⟩
  | scr es => cases e; simp only [Rp] at h; obtain ⟨a, xs, h1, h2, h3⟩ := h; exact ⟨a, xs, h1, s.list h2, h3⟩
  | _ => cases e
def fSum : List D → Option T
  | [d] => (d.items?.bind D.ints?).map fun ns => .sh (.int ns.sum)
  | _ => none
theorem items_ints {d : D} {v : V} {ns : List Int} (s : Sub G H) (h : Rp K G d v) (e : d.items?.bind D.ints? = some ns) : ∃ a, v = .ref a ∧ SqL K H a (ns.map V.int) := by
  rw [Option.bind_eq_some_iff] at e
  obtain ⟨ds, e1, e2⟩ := e
  obtain ⟨a, xs, h1, h2, h3⟩ := h.items s e1
  rw [D.ints?_eq e2] at h3
  exact ⟨a, h1, by rw [← h3.ints]; exact h2⟩
theorem items_bls {d : D} {v : V} {ns : List Bool} (s : Sub G H) (h : Rp K G d v) (e : d.items?.bind D.bls? = some ns) : ∃ a, v = .ref a ∧ SqL K H a (ns.map V.bl) := by
  rw [Option.bind_eq_some_iff] at e
  obtain ⟨ds, e1, e2⟩ := e
  obtain ⟨a, xs, h1, h2, h3⟩ := h.items s e1
  rw [D.bls?_eq e2] at h3
  exact ⟨a, h1, by rw [← h3.bls]; exact h2⟩
theorem caT_sum : CaT K (rSum K) fSum := by
  intro xs ds t G H Q s h ht fq
  unfold fSum at ht
  split at ht
  · rw [Option.map_eq_some_iff] at ht
    obtain ⟨ns, e, rfl⟩ := ht
    obtain ⟨x, rfl, h0⟩ := h.one
    obtain ⟨a, rfl, h2⟩ := items_ints s h0 e
    exact ⟨a, ns, rfl, h2, fq.sh s (by simp only [Rp])⟩
  · cases ht
/-- the greatest, the least of a list -/
def maxL : List Int → Int
  | [] => 0
  | n :: ns => ns.foldl (fun a b => if b > a then b else a) n
def minL : List Int → Int
  | [] => 0
  | n :: ns => ns.foldl (fun a b => if b < a then b else a) n
theorem foldmax : ∀ (ns : List Int) (a m : Int), (m = a ∨ m ∈ ns) → a ≤ m → (∀ y ∈ ns, y ≤ m) → ns.foldl (fun a b => if b > a then b else a) a = m
  | [], a, m, h, h1, _ => by
    rcases h with h | h
    · exact h.symm
    · exact absurd h List.not_mem_nil
  | n :: ns, a, m, h, h1, h2 => by
    rw [List.foldl_cons]
    have hn := h2 n List.mem_cons_self
    by_cases c : n > a
    · rw [if_pos c]
      refine foldmax ns n m ?_ hn fun y hy => h2 y (List.mem_cons_of_mem _ hy)
      rcases h with h | h
      · exact .inl (by omega)
      · rcases List.mem_cons.mp h with h | h
        · exact .inl h
        · exact .inr h
    · rw [if_neg c]
      refine foldmax ns a m ?_ h1 fun y hy => h2 y (List.mem_cons_of_mem _ hy)
      rcases h with h | h
      · exact .inl h
      · rcases List.mem_cons.mp h with h | h
        · exact .inl (by omega)
        · exact .inr h
theorem foldmin : ∀ (ns : List Int) (a m : Int), (m = a ∨ m ∈ ns) → m ≤ a → (∀ y ∈ ns, m ≤ y) → ns.foldl (fun a b => if b < a then b else a) a = m
  | [], a, m, h, h1, _ => by
    rcases h with h | h
    · exact h.symm
    · exact absurd h List.not_mem_nil
  | n :: ns, a, m, h, h1, h2 => by
    rw [List.foldl_cons]
    have hn := h2 n List.mem_cons_self
    by_cases c : n < a
    · rw [if_pos c]
      refine foldmin ns n m ?_ hn fun y hy => h2 y (List.mem_cons_of_mem _ hy)
      rcases h with h | h
      · exact .inl (by omega)
      · rcases List.mem_cons.mp h with h | h
        · exact .inl h
        · exact .inr h
    · rw [if_neg c]
      refine foldmin ns a m ?_ h1 fun y hy => h2 y (List.mem_cons_of_mem _ hy)
      rcases h with h | h
      · exact .inl h
      · rcases List.mem_cons.mp h with h | h
        · exact .inl (by omega)
        · exact .inr h
theorem maxL_eq {ns : List Int} {m : Int} (h : m ∈ ns) (h2 : ∀ y, y ∈ ns → y ≤ m) : maxL ns = m := by
  cases ns with
  | nil => exact absurd h List.not_mem_nil
  | cons n ns => exact foldmax ns n m (List.mem_cons.mp h) (h2 n List.mem_cons_self) fun y hy => h2 y (List.mem_cons_of_mem _ hy)
theorem minL_eq {ns : List Int} {m : Int} (h : m ∈ ns) (h2 : ∀ y, y ∈ ns → m ≤ y) : minL ns = m := by
  cases ns with
  | nil => exact absurd h List.not_mem_nil
  | cons n ns => exact foldmin ns n m (List.mem_cons.mp h) (h2 n List.mem_cons_self) fun y hy => h2 y (List.mem_cons_of_mem _ hy)
def rMax2 : List V → Hp → VK → Prop := fun xs H Q => ∃ i j, xs = [.int i, .int j] ∧ Q (.int (if j > i then j else i)) H
def rMin2 : List V → Hp → VK → Prop := fun xs H Q => ∃ i j, xs = [.int i, .int j] ∧ Q (.int (if j < i then j else i)) H
def rMaxA (K : PySem.W.Frag) : List V → Hp → VK → Prop := fun xs H Q => rMax2 xs H Q ∨ rMax K xs H Q
def rMinA (K : PySem.W.Frag) : List V → Hp → VK → Prop := fun xs H Q => rMin2 xs H Q ∨ rMin K xs H Q
theorem call_maxA {X : Cx} (hc : X.calm = true) : CallR X (.builtin "max") (rMaxA X.K) := (call_max2 hc).or (cr_max hc)
theorem call_minA {X : Cx} (hc : X.calm = true) : CallR X (.builtin "min") (rMinA X.K) := (call_min2 hc).or (cr_min hc)
def fMax : List D → Option T
  | [.int i, .int j] => some (.sh (.int (if j > i then j else i)))
  | [d] => (d.items?.bind D.ints?).bind fun ns => if ns = [] then none else some (.sh (.int (maxL ns)))
  | _ => none
def fMin : List D → Option T
  | [.int i, .int j] => some (.sh (.int (if j < i then j else i)))
  | [d] => (d.items?.bind D.ints?).bind fun ns => if ns = [] then none else some (.sh (.int (minL ns)))
  | _ => none
theorem caT_max : CaT K (rMaxA K) fMax := by
  intro xs ds t G H Q s h ht fq
  unfold fMax at ht
  split at ht
  · cases ht
    obtain ⟨x, y, rfl, h1, h2⟩ := h.two
    simp only [Rp] at h1 h2
    subst h1 h2
    exact .inl ⟨_, _, rfl, fq.sh s (by simp only [Rp])⟩
  · rw [Option.bind_eq_some_iff] at ht
    obtain ⟨ns, e, ht⟩ := ht
    split at ht
    · cases ht
    · rename_i hz
      cases ht
      obtain ⟨x, rfl, h0⟩ := h.one
      obtain ⟨a, rfl, h2⟩ := items_ints s h0 e
      exact .inr ⟨a, ns, rfl, h2, List.length_pos_iff.mpr hz, fun m h3 h4 => fq.sh s (by simp only [Rp]; rw [maxL_eq h3 h4])⟩
  · cases ht
theorem caT_min : CaT K (rMinA K) fMin := by
  intro xs ds t G H Q s h ht fq
  unfold fMin at ht
  split at ht
  · cases ht
    obtain ⟨x, y, rfl, h1, h2⟩ := h.two
    simp only [Rp] at h1 h2
    subst h1 h2
    exact .inl ⟨_, _, rfl, fq.sh s (by simp only [Rp])⟩
  · rw [Option.bind_eq_some_iff] at ht
    obtain ⟨ns, e, ht⟩ := ht
    split at ht
    · cases ht
    · rename_i hz
      cases ht
      obtain ⟨x, rfl, h0⟩ := h.one
      obtain ⟨a, rfl, h2⟩ := items_ints s h0 e
      exact .inr ⟨a, ns, rfl, h2, List.length_pos_iff.mpr hz, fun m h3 h4 => fq.sh s (by simp only [Rp]; rw [minL_eq h3 h4])⟩
  · cases ht
end
end PD

set_option Elab.async false
set_option linter.all false
set_option maxRecDepth 100000
set_option maxHeartbeats 2000000
/-! PD: the forms of expressions. -/
namespace PD
open PySem PySem.Spec PyProof.Rows L2
section
variable {X : Cx} {rt : List V} {W : WX} {e a b c : Expr} {es rest : List Expr} {pos p p2 : Pos}
/-! ### arguments -/
def mNil : M (List D) := M.pure []
def mCons (m : M D) (ms : M (List D)) : M (List D) := fun ρ => (m ρ).bind fun d ρ1 => (ms ρ1).bind fun ds => M.pure (d :: ds)
def D.its? : D → Option (List D)
  | .lst ds => some ds
  | .scr ds => some ds
  | .tup ds => some ds
  | _ => none
def mStar (m : M D) (ms : M (List D)) : M (List D) := fun ρ => (m ρ).bind fun d ρ1 => match d.its? with
  | some ds0 => (ms ρ1).bind fun ds => M.pure (ds0 ++ ds)
  | none => .bad
theorem as_nil : PAs X rt W [] mNil := ⟨_, pa_nil, fun H G cs Q r q => q [] cs H G rfl rfl Stp.refl r (by show RpL _ _ _ _; simp only [RpL])⟩
theorem as_cons {m : M D} {ms : M (List D)} (h : PEs X rt W e m) (hr : PAs X rt W es ms) (hs : starEach (e :: es) X.env = (false, eval e X.env) :: starEach es X.env := by rfl) : PAs X rt W (e :: es) (mCons m ms) := by
  obtain ⟨te, h1, h2⟩ := h.ex
  obtain ⟨tr, h3, h4⟩ := hr.ex
  refine ⟨_, pa_cons h1 h3 hs, fun H G cs Q r q => h2 H G cs _ r (PostK.seqK q fun d x cs1 H1 G1 ev st r1 rp1 q1 => ?_)⟩
  show tr (vals cs) H1 _
  rw [← ev]
  refine h4 H1 G1 cs1 _ r1 (PostK.seqK q1 fun ds xs cs2 H2 G2 ev2 st2 r2 rp2 q2 => ?_)
  have rp2' : RpL X.K G2 ds xs := rp2
  exact q2 (x :: xs) cs2 H2 G2 rfl rfl Stp.refl r2 (by show RpL _ _ _ _; simp only [RpL]; exact ⟨x, xs, rfl, Rp.mono st2.ext d x rp1, rp2'⟩)
theorem Rp.its {K : PySem.W.Frag} {G H : Hp} {d : D} {v : V} {ds : List D} (s : Sub G H) (h : Rp K G d v) (e : d.its? = some ds) : ∃ a xs, v = .ref a ∧ (SqT K H a xs ∨ SqL K H a xs) ∧ RpL K G ds xs := by
  cases d with
  | lst es => cases e; simp only [Rp] at h; obtain ⟨a, xs, h1, h2, h3⟩ := h; exact ⟨a, xs, h1, .inr (.of (s.lst h2)), h3⟩
  | scr es => cases e; simp only [Rp] at h; obtain ⟨a, xs, h1, h2, h3⟩ := h; exact ⟨a, xs, h1, .inr (s.list h2), h3⟩
  | tup es => cases e; simp only [Rp] at h; obtain ⟨a, xs, h1, h2, h3⟩ := h; exact ⟨a, xs, h1, .inl (s.tup h2), h3⟩
  | _ => cases e
theorem as_star {m : M D} {ms : M (List D)} (h : PEs X rt W e m) (hr : PAs X rt W es ms) (hs : starEach (.Starred e p :: es) X.env = (true, eval e X.env) :: starEach es X.env := by rfl) :
    PAs X rt W (.Starred e p :: es) (mStar m ms) := by
  obtain ⟨te, h1, h2⟩ := h.ex
  obtain ⟨tr, h3, h4⟩ := hr.ex
  refine ⟨_, StX.pa_star h1 h3 hs, fun H G cs Q r q => h2 H G cs _ r (PostK.seqK q fun d x cs1 H1 G1 ev st r1 rp1 q1 => ?_)⟩
  cases hi : d.its? with
  | none =>
    rw [hi] at q1
    exact q1.elim
  | some ds0 =>
    obtain ⟨ad, xs0, rfl, hq, hl⟩ := Rp.its r1.sub rp1 hi
    refine ⟨ad, xs0, rfl, hq, ?_⟩
    rw [← ev]
    rw [hi] at q1
    refine h4 H1 G1 cs1 _ r1 (PostK.seqK q1 fun ds xs cs2 H2 G2 ev2 st2 r2 rp2 q2 => ?_)
    have rp2' : RpL X.K G2 ds xs := rp2
    exact q2 (xs0 ++ xs) cs2 H2 G2 rfl rfl Stp.refl r2 (by show RpL _ _ _ _; exact (RpL.mono st2.ext _ _ hl).app rp2')
/-! ### displays -/
def fTupD (ds : List D) : Option T := if ds.length ≤ sizeLine then some (.tup (ds.map .sh)) else none
def fLstD (ds : List D) : Option T := if ds.length ≤ sizeLine then some (.lst (ds.map .sh)) else none
theorem d_tup {m : M (List D)} (h : PAs X rt W es m) {x1} : PEd X rt W (.Tuple es x1 pos) (mOpN fTupD m) := by
  obtain ⟨te, h1, h2⟩ := h.ex
  refine ⟨_, pe_tup h1, fun H G cs Q r q => h2 H G cs _ r (PostK.seqE q fun ds xs cs1 H1 G1 ev st r1 rp1 q1 => ?_)⟩
  have rp : RpL X.K G1 ds xs := rp1
  unfold fTupD at q1
  by_cases hz : ds.length ≤ sizeLine
  · rw [if_pos hz] at q1
    exact ⟨by rw [← rp.length]; exact hz, fun p hp => (PostE.fresh r1 q1).tup r1.sub rp hp⟩
  · rw [if_neg hz] at q1
    exact q1.elim
theorem d_lst {m : M (List D)} (h : PAs X rt W es m) : PEd X rt W (.List es pos) (mOpN fLstD m) := by
  obtain ⟨te, h1, h2⟩ := h.ex
  refine ⟨_, pe_lst h1, fun H G cs Q r q => h2 H G cs _ r (PostK.seqE q fun ds xs cs1 H1 G1 ev st r1 rp1 q1 => ?_)⟩
  have rp : RpL X.K G1 ds xs := rp1
  unfold fLstD at q1
  by_cases hz : ds.length ≤ sizeLine
  · rw [if_pos hz] at q1
    exact ⟨by rw [← rp.length]; exact hz, fun p hp => (PostE.fresh r1 q1).lst r1.sub rp hp⟩
  · rw [if_neg hz] at q1
    exact q1.elim
/-! ### built-ins by name -/
theorem call_core {r : List V → Hp → VK → Prop} {f : List D → Option T} {ma : M (List D)} {ta : TA} {H G : Hp} {cs : List Cell} {Q : VK} (hf : CaT X.K r f)
    (ha : ∀ H G cs Q, RR X.K rt G H cs → PostK X.K rt W kA H G cs (ma (slots cs)) Q → ta (vals cs) H Q) (rr : RR X.K rt G H cs) (q : PostE X.K rt W H G cs (mOpN f ma (slots cs)) Q) : tCB r ta (vals cs) H Q := by
  refine ha H G cs _ rr (PostK.seqE q fun ds xs cs1 H1 G1 ev st r1 rp1 q1 => ?_)
  unfold M.ofO at q1
  cases hft : f ds with
  | none => rw [hft] at q1; exact q1.elim
  | some t =>
    rw [hft] at q1
    exact hf xs ds t G1 H1 Q r1.sub rp1 hft (PostE.fresh r1 q1)
theorem d_callB {id : String} {r : List V → Hp → VK → Prop} {f : List D → Option T} {m : M (List D)} {x : Str} (hc : CallR X (.builtin id) r) (hf : CaT X.K r f) (hg : Gl X x) (hm : X.mg x = none) (hv : bootBuiltins x = some (.builtin id)) (ha : PAs X rt W (e :: es) m) (hn : x ≠ "__name__" := by decide) (hdb : (x == ("__debug__" : Str)) = false := by decide)
    (he : starEach (e :: es) X.env = (false, eval e X.env) :: starEach es X.env := by rfl) (hpl : (backTo pos (starEach es X.env)).any (·.1) = false := by rfl) : PEd X rt W (.Call (.Name x p) (e :: es) [] pos) (mOpN f m) := by
  obtain ⟨ta, h1, h2⟩ := ha.ex
  exact ⟨_, pe_callB hc hg hm hv h1 hn hdb he hpl, fun H G cs Q r q => call_core hf h2 r q⟩
theorem d_callTy {id : String} {r : List V → Hp → VK → Prop} {f : List D → Option T} {m : M (List D)} {x : Str} (hc : CallR X (.type id) r) (hf : CaT X.K r f) (hg : Gl X x) (hm : X.mg x = none) (hv : bootBuiltins x = some (.type id)) (ha : PAs X rt W (e :: es) m) (hn : x ≠ "__name__" := by decide) (hdb : (x == ("__debug__" : Str)) = false := by decide)
    (he : starEach (e :: es) X.env = (false, eval e X.env) :: starEach es X.env := by rfl) (hpl : (backTo pos (starEach es X.env)).any (·.1) = false := by rfl) : PEd X rt W (.Call (.Name x p) (e :: es) [] pos) (mOpN f m) := by
  obtain ⟨ta, h1, h2⟩ := ha.ex
  exact ⟨_, pe_callTy hc hg hm hv h1 hn hdb he hpl, fun H G cs Q r q => call_core hf h2 r q⟩
/-! ### subscripts -/
def mOpD (f : D → D → Option D) (ma mb : M D) : M D := fun ρ => (ma ρ).bind fun d1 ρ1 => (mb ρ1).bind fun d2 => M.ofO (f d1 d2)
theorem opD_core {r : R2} {f : D → D → Option D} {ma mb : M D} {ta tb : TE} {H G : Hp} {cs : List Cell} {Q : VK} (hf : OpD X.K r f)
    (ha : ∀ H G cs Q, RR X.K rt G H cs → PostK X.K rt W kV H G cs (ma (slots cs)) Q → ta (vals cs) H Q) (hb : ∀ H G cs Q, RR X.K rt G H cs → PostK X.K rt W kV H G cs (mb (slots cs)) Q → tb (vals cs) H Q)
    (rr : RR X.K rt G H cs) (q : PostK X.K rt W kV H G cs (mOpD f ma mb (slots cs)) Q) : tOp r ta tb (vals cs) H Q := by
  refine ha H G cs _ rr (PostK.seqK q fun d1 x cs1 H1 G1 ev st r1 rp1 p1 => ?_)
  show tb (vals cs) H1 _
  rw [← ev]
  refine hb H1 G1 cs1 _ r1 (PostK.seqK p1 fun d2 y cs2 H2 G2 ev2 st2 r2 rp2 p2 => ?_)
  unfold M.ofO at p2
  cases hft : f d1 d2 with
  | none => rw [hft] at p2; exact p2.elim
  | some t =>
    rw [hft] at p2
    exact hf x y d1 d2 t G2 H2 Q r2.sub (Rp.mono st2.ext d1 x rp1) rp2 hft fun v hv => p2 v cs2 H2 G2 rfl rfl Stp.refl r2 hv
theorem s_ix {ma mb : M D} (ha : PEs X rt W a ma) (hb : PEs X rt W b mb) (hs : PlainIx b) : PEs X rt W (.Subscript a b pos) (mOpD fIx ma mb) := by
  obtain ⟨ta, a1, a2⟩ := ha.ex
  obtain ⟨tb, b1, b2⟩ := hb.ex
  exact ⟨_, pe_ix ix_seq a1 b1 hs, fun H G cs Q rr q => opD_core opD_ix a2 b2 rr q⟩
/-- an item of what the slot i owns: read without giving the list away -/
def T.item : T → Int → Option D
  | .sh d, i => fIx d (.int i)
  | .lst ts, i => (atI ts i).bind fun t => match t with
    | .sh d => some d
    | _ => none
  | .tup ts, i => (atI ts i).bind fun t => match t with
    | .sh d => some d
    | _ => none
  | _, _ => none
def Sl.t? : Sl → Option T
  | .v t => some t
  | .p _ t => some t
  | .un => none
def mPeek (i : Nat) (mb : M D) : M D := fun ρ => match ρ[i]?.bind Sl.t? with
  | none => .bad
  | some _ => (mb ρ).bind fun d ρ1 => match d with
    | .int k => (match (ρ1[i]?.bind Sl.t?).bind fun t => t.item k with
      | some r => .ok r ρ1
      | none => .bad)
    | _ => .bad
theorem CellR.tree {K : PySem.W.Frag} {G H : Hp} {c : Cell} {t : T} (h : CellR K rt G H c) (e : c.s.t? = some t) : ∃ x, c.o = some x ∧ RT K G H t x c.fp := by
  unfold CellR at h
  cases hs : c.s with
  | un => rw [hs] at e; cases e
  | v t' => rw [hs] at e h; cases e; exact h
  | p k t' => rw [hs] at e h; cases e; obtain ⟨x, h1, _, h2⟩ := h; exact ⟨x, h1, h2⟩
theorem RTL.get {K : PySem.W.Frag} {G H : Hp} : ∀ {ts : List T} {xs : List V} {f : List Addr} {j : Nat} {d : D}, RTL K G H ts xs f → ts[j]? = some (.sh d) → ∃ x, xs[j]? = some x ∧ Rp K G d x
  | [], _, _, j, d, _, e => by simp at e
  | t :: ts, xs, f, 0, d, h, e => by
    simp only [RTL] at h
    obtain ⟨x, r, f1, f2, rfl, h1, h2, _⟩ := h
    simp at e
    subst e
    simp only [RT] at h1
    exact ⟨x, rfl, h1.1⟩
  | t :: ts, xs, f, j + 1, d, h, e => by
    simp only [RTL] at h
    obtain ⟨x, r, f1, f2, rfl, h1, h2, _⟩ := h
    exact RTL.get (j := j) h2 (by simpa using e)
theorem RTL.at {K : PySem.W.Frag} {G H : Hp} {ts : List T} {xs : List V} {f : List Addr} {i : Int} {d : D} (h : RTL K G H ts xs f) (e : atI ts i = some (.sh d)) : ∃ x, atI xs i = some x ∧ Rp K G d x := by
  unfold atI at e ⊢
  rw [← h.length]
  cases q : ixN ts.length i with
  | none => rw [q] at e; cases e
  | some j => rw [q] at e; exact h.get e
theorem item_ok {K : PySem.W.Frag} {G H : Hp} {t : T} {v : V} {f : List Addr} {k : Int} {d : D} {Q : VK} (s : Sub G H) (h : RT K G H t v f) (e : t.item k = some d) (q : ∀ x, Rp K G d x → Q x H) : rIx K v (.int k) H Q := by
  cases t with
  | sh d0 =>
    simp only [RT] at h
    exact opD_ix v (.int k) d0 (.int k) d G H Q s h.1 (by simp only [Rp]) e q
  | lst ts =>
    simp only [RT] at h
    obtain ⟨a, xs, f', rfl, h2, h3, _⟩ := h
    simp only [T.item, Option.bind_eq_some_iff] at e
    obtain ⟨t, e1, e2⟩ := e
    cases t with
    | sh d' =>
      cases e2
      obtain ⟨x, e3, e4⟩ := h3.at e1
      exact .inl ⟨a, xs, k, x, rfl, rfl, .of h2, e3, q x e4⟩
    | _ => cases e2
  | tup ts =>
    simp only [RT] at h
    obtain ⟨a, xs, f', rfl, h2, h3, _⟩ := h
    simp only [T.item, Option.bind_eq_some_iff] at e
    obtain ⟨t, e1, e2⟩ := e
    cases t with
    | sh d' =>
      cases e2
      obtain ⟨x, e3, e4⟩ := h3.at e1
      exact .inr (.inl ⟨a, xs, k, x, rfl, rfl, .of h2, e3, q x e4⟩)
    | _ => cases e2
  | dct ks ts => cases e
  | ins c ns ts => cases e
theorem s_peek (i : Nat) {x : Str} {mb : M D} (hN : X.N[i]? = some x) (hv : Vis X.env.scope x) (hb : PEs X rt W b mb) (hs : PlainIx b) (hd : (x == ("__debug__" : Str)) = false := by decide) (hcd : (x == ("__classdict__" : Str)) = false := by decide) :
    PEs X rt W (.Subscript (.Name x p) b pos) (mPeek i mb) := by
  obtain ⟨tb, b1, b2⟩ := hb.ex
  refine ⟨_, pe_ix ix_seq (pe_var hN hv hd hcd) b1 hs, fun H G cs Q rr q => ?_⟩
  unfold mPeek at q
  cases h0 : (slots cs)[i]?.bind Sl.t? with
  | none => rw [h0] at q; exact q.elim
  | some t0 =>
    rw [h0] at q
    rw [Option.bind_eq_some_iff] at h0
    obtain ⟨sl0, e0, e0'⟩ := h0
    obtain ⟨c0, hc0, rfl⟩ := cell_at e0
    obtain ⟨x0, ex0, _⟩ := (rr.at hc0).tree e0'
    refine ⟨x0, by rw [vals_at hc0, ex0], ?_⟩
    refine b2 H G cs _ rr (PostK.seqK q fun d y cs1 H1 G1 ev st r1 rp1 q1 => ?_)
    have v1 : (vals cs1)[i]? = some (some x0) := by rw [ev, vals_at hc0, ex0]
    cases d with
    | int k =>
      cases h1 : ((slots cs1)[i]?.bind Sl.t?).bind fun t => t.item k with
      | none => simp only [h1] at q1; exact q1.elim
      | some r =>
        simp only [h1] at q1
        rw [Option.bind_eq_some_iff] at h1
        obtain ⟨t, e1, e2⟩ := h1
        rw [Option.bind_eq_some_iff] at e1
        obtain ⟨sl, e3, e4⟩ := e1
        obtain ⟨c, hc, rfl⟩ := cell_at e3
        obtain ⟨x1, ex1, ht⟩ := (r1.at hc).tree e4
        have e5 : x1 = x0 := by
          rw [vals_at hc, ex1] at v1
          exact Option.some.inj (Option.some.inj v1)
        subst e5
        have rp1' : Rp X.K G1 (.int k) y := rp1
        simp only [Rp] at rp1'
        subst rp1'
        exact item_ok r1.sub ht e2 fun x hx => q1 x cs1 H1 G1 rfl rfl Stp.refl r1 hx
    | _ => exact q1.elim
end
end PD

set_option Elab.async false
set_option linter.all false
set_option maxRecDepth 100000
set_option maxHeartbeats 2000000
/-! PD: slices, isinstance, tests, and/or, conditional expressions, borrowing. -/
namespace PD
open PySem PySem.Spec PyProof.Rows L2
section
variable {X : Cx} {rt : List V} {W : WX} {e a b c : Expr} {es rest : List Expr} {pos p p2 : Pos}
/-! ### slices -/
def kO : Knd (Option Int) (Option Int) := ⟨fun _ _ a b => a = b⟩
structure POd (X : Cx) (rt : List V) (W : WX) (e : Option Expr) (m : M (Option Int)) : Prop where
  ex : ∃ te, PO X e te ∧ ∀ H G cs Q, RR X.K rt G H cs → PostK X.K rt W kO H G cs (m (slots cs)) Q → te (vals cs) H Q
def mPart (m : M D) : M (Option Int) := fun ρ => (m ρ).bind fun d => match d with
  | .int i => M.pure (some i)
  | _ => fun _ => .bad
theorem o_none : POd X rt W none (M.pure none) := ⟨_, po_none, fun H G cs Q r q => q none cs H G rfl rfl Stp.refl r rfl⟩
theorem o_some {m : M D} (h : PEs X rt W e m) : POd X rt W (some e) (mPart m) := by
  obtain ⟨te, h1, h2⟩ := h.ex
  refine ⟨_, po_some h1, fun H G cs Q r q => h2 H G cs _ r (PostK.seqK q fun d x cs1 H1 G1 ev st r1 rp1 q1 => ?_)⟩
  have rp : Rp X.K G1 d x := rp1
  cases d with
  | int i =>
    simp only [Rp] at rp
    exact ⟨i, rp, q1 (some i) cs1 H1 G1 rfl rfl Stp.refl r1 rfl⟩
  | _ => exact q1.elim
def mSl (m : M D) (lo hi : M (Option Int)) : M T := fun ρ => (m ρ).bind fun d ρ1 => (lo ρ1).bind fun l ρ2 => (hi ρ2).bind fun h => M.ofO (fSl d l h)
theorem d_slice {lo hi : Option Expr} {m : M D} {ml mh : M (Option Int)} (he : PEs X rt W e m) (hl : POd X rt W lo ml) (hu : POd X rt W hi mh) : PEd X rt W (.Subscript e (.Slice lo hi none p2) pos) (mSl m ml mh) := by
  obtain ⟨te, h1, h2⟩ := he.ex
  obtain ⟨tl, h3, h4⟩ := hl.ex
  obtain ⟨th, h5, h6⟩ := hu.ex
  refine ⟨_, pe_slice sl_X h1 h3 h5, fun H G cs Q r q => h2 H G cs _ r (PostK.seqE q fun d x cs1 H1 G1 ev st r1 rp1 q1 => ?_)⟩
  show tl (vals cs) H1 _
  rw [← ev]
  refine h4 H1 G1 cs1 _ r1 (PostK.seqE q1 fun l l' cs2 H2 G2 ev2 st2 r2 rp2 q2 => ?_)
  have el : l = l' := rp2
  subst el
  rw [← ev2]
  refine h6 H2 G2 cs2 _ r2 (PostK.seqE q2 fun u u' cs3 H3 G3 ev3 st3 r3 rp3 q3 => ?_)
  have eu : u = u' := rp3
  subst eu
  unfold M.ofO at q3
  cases hft : fSl d l u with
  | none => rw [hft] at q3; exact q3.elim
  | some t =>
    rw [hft] at q3
    exact sl_T r3.sub (Rp.mono (st2.ext.trans st3.ext) d x rp1) hft (PostE.fresh r3 q3)
/-! ### -x -/
def fNeg : D → Option D
  | .int i => some (.int (-i))
  | _ => none
def mMap (f : D → Option D) (m : M D) : M D := fun ρ => (m ρ).bind fun d => M.ofO (f d)
theorem s_neg {m : M D} (h : PEs X rt W e m) : PEs X rt W (.UnaryOp .USub e pos) (mMap fNeg m) := by
  obtain ⟨te, h1, h2⟩ := h.ex
  refine ⟨_, pe_un un_neg h1, fun H G cs Q r q => h2 H G cs _ r (PostK.seqK q fun d x cs1 H1 G1 ev st r1 rp1 q1 => ?_)⟩
  have rp : Rp X.K G1 d x := rp1
  cases d with
  | int i =>
    simp only [Rp] at rp
    exact ⟨i, rp, q1 _ cs1 H1 G1 rfl rfl Stp.refl r1 (by show Rp _ _ _ _; simp only [Rp])⟩
  | _ => exact q1.elim
/-! ### tests -/
def D.tru : D → Option Bool
  | .non => some false
  | .bl b => some b
  | .int i => some (i != 0)
  | .str x => if x.length ≤ sizeLine then some ((x.length : Int) != 0) else none
  | .lst ds => some (!ds.isEmpty)
  | .scr ds => some (!ds.isEmpty)
  | .tup ds => some (!ds.isEmpty)
  | _ => none
theorem RpL.isE {K : PySem.W.Frag} {G : Hp} {ds : List D} {xs : List V} (h : RpL K G ds xs) : ds.isEmpty = xs.isEmpty := by
  have := h.length
  cases ds <;> cases xs <;> simp at this <;> rfl
theorem tru_T {K : PySem.W.Frag} {G H : Hp} {d : D} {v : V} {k : Bool} (s : Sub G H) (h : Rp K G d v) (e : d.tru = some k) : TruV K v H k := by
  cases d with
  | non => simp only [Rp] at h; subst h; cases e; rfl
  | bl b => simp only [Rp] at h; subst h; cases e; rfl
  | int i => simp only [Rp] at h; subst h; cases e; rfl
  | str x =>
    simp only [Rp] at h
    subst h
    simp only [D.tru] at e
    split at e
    · rename_i hz
      cases e
      exact ⟨hz, rfl⟩
    · cases e
  | lst ds => simp only [Rp] at h; obtain ⟨a, xs, rfl, h1, h2⟩ := h; cases e; exact .inl ⟨xs, .of (s.lst h1), by rw [h2.isE]⟩
  | scr ds => simp only [Rp] at h; obtain ⟨a, xs, rfl, h1, h2⟩ := h; cases e; exact .inl ⟨xs, s.list h1, by rw [h2.isE]⟩
  | tup ds => simp only [Rp] at h; obtain ⟨a, xs, rfl, h1, h2⟩ := h; cases e; exact .inr (.inl ⟨xs, s.tup h1, by rw [h2.isE]⟩)
  | dct _ _ => cases e
  | ins _ _ _ => cases e
  | exn _ _ _ _ _ => cases e
def mTru (m : M D) : M Bool := fun ρ => (m ρ).bind fun d => M.ofO d.tru
theorem t_val {m : M D} (h : PEs X rt W e m) (he : ∀ whole, isTrue e X.env whole = (do let v ← whole; standAt e.pos; holding [v] (truthy v)) := by intro _; rfl) : PTd X rt W e (mTru m) := by
  obtain ⟨te, h1, h2⟩ := h.ex
  refine ⟨_, pt_truth h1 he, fun H G cs Q r q => h2 H G cs _ r (PostK.seqK q fun d x cs1 H1 G1 ev st r1 rp1 q1 => ?_)⟩
  unfold M.ofO at q1
  cases hft : d.tru with
  | none => rw [hft] at q1; exact q1.elim
  | some k =>
    rw [hft] at q1
    exact ⟨k, tru_T r1.sub rp1 hft, q1 k cs1 H1 G1 rfl rfl Stp.refl r1 rfl⟩
def mNot (m : M Bool) : M Bool := fun ρ => (m ρ).bind fun k => M.pure (!k)
theorem t_not {m : M Bool} (h : PTd X rt W e m) : PTd X rt W (.UnaryOp .Not e pos) (mNot m) := by
  obtain ⟨te, h1, h2⟩ := h.ex
  refine ⟨_, pt_not h1, fun H G cs Q r q => h2 H G cs _ r (PostK.seqK q fun k k' cs1 H1 G1 ev st r1 rp1 q1 => ?_)⟩
  have ek : k = k' := rp1
  subst ek
  exact q1 (!k) cs1 H1 G1 rfl rfl Stp.refl r1 rfl
structure PWd (X : Cx) (rt : List V) (W : WX) (e : Expr) (m : M Bool) : Prop where
  ex : ∃ te, PW X e te ∧ ∀ H G cs Q, RR X.K rt G H cs → PostK X.K rt W kB H G cs (m (slots cs)) Q → te (vals cs) H Q
theorem PWd.t {m : M Bool} (h : PWd X rt W e m) : PTd X rt W e m := by
  obtain ⟨te, h1, h2⟩ := h.ex
  exact ⟨te, h1.pt, h2⟩
def mAnd (ma mb : M Bool) : M Bool := fun ρ => (ma ρ).bind fun k => if k = true then mb else M.pure false
def mOr (ma mb : M Bool) : M Bool := fun ρ => (ma ρ).bind fun k => if k = true then M.pure true else mb
theorem w_and1 {m : M Bool} (h : PTd X rt W a m) : PWd X rt W (.BoolOp .And [a] pos) m := by
  obtain ⟨te, h1, h2⟩ := h.ex
  exact ⟨te, pw_and1 h1, h2⟩
theorem w_or1 {m : M Bool} (h : PTd X rt W a m) : PWd X rt W (.BoolOp .Or [a] pos) m := by
  obtain ⟨te, h1, h2⟩ := h.ex
  exact ⟨te, pw_or1 h1, h2⟩
theorem w_and {ma mb : M Bool} (ha : PTd X rt W a ma) (hb : PWd X rt W (.BoolOp .And (b :: rest) pos) mb) : PWd X rt W (.BoolOp .And (a :: b :: rest) pos) (mAnd ma mb) := by
  obtain ⟨ta, a1, a2⟩ := ha.ex
  obtain ⟨tb, b1, b2⟩ := hb.ex
  refine ⟨_, pw_and a1 b1, fun H G cs Q r q => a2 H G cs _ r (PostK.seqK q fun k k' cs1 H1 G1 ev st r1 rp1 q1 => ?_)⟩
  have ek : k = k' := rp1
  subst ek
  cases k with
  | true =>
    show tb (vals cs) H1 Q
    rw [← ev]
    exact b2 H1 G1 cs1 Q r1 q1
  | false => exact q1 false cs1 H1 G1 rfl rfl Stp.refl r1 rfl
theorem w_or {ma mb : M Bool} (ha : PTd X rt W a ma) (hb : PWd X rt W (.BoolOp .Or (b :: rest) pos) mb) : PWd X rt W (.BoolOp .Or (a :: b :: rest) pos) (mOr ma mb) := by
  obtain ⟨ta, a1, a2⟩ := ha.ex
  obtain ⟨tb, b1, b2⟩ := hb.ex
  refine ⟨_, pw_or a1 b1, fun H G cs Q r q => a2 H G cs _ r (PostK.seqK q fun k k' cs1 H1 G1 ev st r1 rp1 q1 => ?_)⟩
  have ek : k = k' := rp1
  subst ek
  cases k with
  | true => exact q1 true cs1 H1 G1 rfl rfl Stp.refl r1 rfl
  | false =>
    show tb (vals cs) H1 Q
    rw [← ev]
    exact b2 H1 G1 cs1 Q r1 q1
/-! ### and, or, not as values (all but the last a bool) -/
def mAndV (ma mb : M D) : M D := fun ρ => (ma ρ).bind fun d => match d with
  | .bl true => mb
  | .bl false => M.pure (.bl false)
  | _ => fun _ => .bad
def mOrV (ma mb : M D) : M D := fun ρ => (ma ρ).bind fun d => match d with
  | .bl true => M.pure (.bl true)
  | .bl false => mb
  | _ => fun _ => .bad
def fNot : D → Option D
  | .bl b => some (.bl (!b))
  | _ => none
theorem s_one {op} {m : M D} (h : PEs X rt W a m) : PEs X rt W (.BoolOp op [a] pos) m := by
  obtain ⟨te, h1, h2⟩ := h.ex
  exact ⟨te, pe_one h1, h2⟩
theorem s_and {ma mb : M D} (ha : PEs X rt W a ma) (hb : PEs X rt W (.BoolOp .And (b :: rest) pos) mb) : PEs X rt W (.BoolOp .And (a :: b :: rest) pos) (mAndV ma mb) := by
  obtain ⟨ta, a1, a2⟩ := ha.ex
  obtain ⟨tb, b1, b2⟩ := hb.ex
  refine ⟨_, pe_and a1 b1, fun H G cs Q r q => a2 H G cs _ r (PostK.seqK q fun d x cs1 H1 G1 ev st r1 rp1 q1 => ?_)⟩
  have rp : Rp X.K G1 d x := rp1
  cases d with
  | bl k =>
    simp only [Rp] at rp
    refine ⟨k, rp, ?_⟩
    cases k with
    | true =>
      show tb (vals cs) H1 Q
      rw [← ev]
      exact b2 H1 G1 cs1 Q r1 q1
    | false => exact q1 _ cs1 H1 G1 rfl rfl Stp.refl r1 (by show Rp _ _ _ _; simp only [Rp])
  | _ => exact q1.elim
theorem s_or {ma mb : M D} (ha : PEs X rt W a ma) (hb : PEs X rt W (.BoolOp .Or (b :: rest) pos) mb) : PEs X rt W (.BoolOp .Or (a :: b :: rest) pos) (mOrV ma mb) := by
  obtain ⟨ta, a1, a2⟩ := ha.ex
  obtain ⟨tb, b1, b2⟩ := hb.ex
  refine ⟨_, pe_or a1 b1, fun H G cs Q r q => a2 H G cs _ r (PostK.seqK q fun d x cs1 H1 G1 ev st r1 rp1 q1 => ?_)⟩
  have rp : Rp X.K G1 d x := rp1
  cases d with
  | bl k =>
    simp only [Rp] at rp
    refine ⟨k, rp, ?_⟩
    cases k with
    | true => exact q1 _ cs1 H1 G1 rfl rfl Stp.refl r1 (by show Rp _ _ _ _; simp only [Rp])
    | false =>
      show tb (vals cs) H1 Q
      rw [← ev]
      exact b2 H1 G1 cs1 Q r1 q1
  | _ => exact q1.elim
theorem s_not {m : M D} (h : PEs X rt W a m) : PEs X rt W (.UnaryOp .Not a pos) (mMap fNot m) := by
  obtain ⟨te, h1, h2⟩ := h.ex
  refine ⟨_, pe_not h1, fun H G cs Q r q => h2 H G cs _ r (PostK.seqK q fun d x cs1 H1 G1 ev st r1 rp1 q1 => ?_)⟩
  have rp : Rp X.K G1 d x := rp1
  cases d with
  | bl k =>
    simp only [Rp] at rp
    exact ⟨k, rp, q1 _ cs1 H1 G1 rfl rfl Stp.refl r1 (by show Rp _ _ _ _; simp only [Rp])⟩
  | _ => exact q1.elim
def mIf {α : Type} (mt : M Bool) (ma mb : M α) : M α := fun ρ => (mt ρ).bind fun k => if k = true then ma else mb
theorem s_ifExp {mt : M Bool} {ma mb : M D} (hc : PTd X rt W c mt) (ha : PEs X rt W a ma) (hb : PEs X rt W b mb) : PEs X rt W (.IfExp c a b pos) (mIf mt ma mb) := by
  obtain ⟨tc, c1, c2⟩ := hc.ex
  obtain ⟨ta, a1, a2⟩ := ha.ex
  obtain ⟨tb, b1, b2⟩ := hb.ex
  refine ⟨_, pe_ifExp c1 a1 b1, fun H G cs Q r q => c2 H G cs _ r (PostK.seqK q fun k k' cs1 H1 G1 ev st r1 rp1 q1 => ?_)⟩
  have ek : k = k' := rp1
  subst ek
  cases k with
  | true =>
    show ta (vals cs) H1 Q
    rw [← ev]
    exact a2 H1 G1 cs1 Q r1 q1
  | false =>
    show tb (vals cs) H1 Q
    rw [← ev]
    exact b2 H1 G1 cs1 Q r1 q1
/-! ### chains a op b op' c -/
def mChain (f f' : D → D → Option Bool) (ma mb mc : M D) : M Bool := fun ρ => (ma ρ).bind fun d1 ρ1 => (mb ρ1).bind fun d2 ρ2 => match f d1 d2 with
  | some true => (mc ρ2).bind fun d3 => M.ofO (f' d2 d3)
  | some false => .ok false ρ2
  | none => .bad
theorem chain_core {r r' : R2} {f f' : D → D → Option Bool} {ma mb mc : M D} {ta tb tc : TE} {H G : Hp} {cs : List Cell} {Q : Bool → Hp → Prop} {Q' : VK} (hf : CmT X.K r f) (hf' : CmT X.K r' f')
    (ha : ∀ H G cs Q, RR X.K rt G H cs → PostK X.K rt W kV H G cs (ma (slots cs)) Q → ta (vals cs) H Q) (hb : ∀ H G cs Q, RR X.K rt G H cs → PostK X.K rt W kV H G cs (mb (slots cs)) Q → tb (vals cs) H Q)
    (hc : ∀ H G cs Q, RR X.K rt G H cs → PostK X.K rt W kV H G cs (mc (slots cs)) Q → tc (vals cs) H Q)
    (rr : RR X.K rt G H cs) (q : PostK X.K rt W kB H G cs (mChain f f' ma mb mc (slots cs)) Q) (hq : ∀ k H, Q k H → Q' (.bl k) H) : tChain r r' ta tb tc (vals cs) H Q' := by
  refine ha H G cs _ rr (PostK.seqK q fun d1 x cs1 H1 G1 ev st r1 rp1 p1 => ?_)
  show tb (vals cs) H1 _
  rw [← ev]
  refine hb H1 G1 cs1 _ r1 (PostK.seqK p1 fun d2 y cs2 H2 G2 ev2 st2 r2 rp2 p2 => ?_)
  cases hft : f d1 d2 with
  | none => simp only [hft] at p2; exact p2.elim
  | some k =>
    simp only [hft] at p2
    refine hf x y d1 d2 k G2 H2 _ r2.sub (Rp.mono st2.ext d1 x rp1) rp2 hft ⟨k, rfl, ?_⟩
    cases k with
    | false => exact hq _ _ (p2 false cs2 H2 G2 rfl rfl Stp.refl r2 rfl)
    | true =>
      show tc (vals cs1) H2 _
      rw [← ev2]
      refine hc H2 G2 cs2 _ r2 (PostK.seqK p2 fun d3 z cs3 H3 G3 ev3 st3 r3 rp3 p3 => ?_)
      unfold M.ofO at p3
      cases hft' : f' d2 d3 with
      | none => rw [hft'] at p3; exact p3.elim
      | some k' =>
        rw [hft'] at p3
        exact hf' y z d2 d3 k' G3 H3 Q' r3.sub (Rp.mono st3.ext d2 y rp2) rp3 hft' (hq _ _ (p3 k' cs3 H3 G3 rfl rfl Stp.refl r3 rfl))
theorem t_chain {op op' : CmpOp} {r r' : R2} {f f' : D → D → Option Bool} {ma mb mc : M D} (ho : OpR X (compareOp op) r) (ho' : OpR X (compareOp op') r') (hf : CmT X.K r f) (hf' : CmT X.K r' f') (ha : PEs X rt W a ma) (hb : PEs X rt W b mb) (hc : PEs X rt W c mc)
    (hm : lastMarks [op, op'] [b, c] = false := by with_unfolding_all rfl) : PTd X rt W (.Compare a [op, op'] [b, c] pos) (mChain f f' ma mb mc) := by
  obtain ⟨ta, a1, a2⟩ := ha.ex
  obtain ⟨tb, b1, b2⟩ := hb.ex
  obtain ⟨tc, c1, c2⟩ := hc.ex
  exact ⟨_, pt_chain ho ho' a1 b1 c1 hm, fun H G cs Q rr q => chain_core hf hf' a2 b2 c2 rr q (fun k H q => ⟨k, rfl, q⟩)⟩
theorem s_chain {op op' : CmpOp} {r r' : R2} {f f' : D → D → Option Bool} {ma mb mc : M D} (ho : OpR X (compareOp op) r) (ho' : OpR X (compareOp op') r') (hf : CmT X.K r f) (hf' : CmT X.K r' f') (ha : PEs X rt W a ma) (hb : PEs X rt W b mb) (hc : PEs X rt W c mc)
    (hm : lastMarks [op, op'] [b, c] = false := by with_unfolding_all rfl) : PEs X rt W (.Compare a [op, op'] [b, c] pos) (mB (mChain f f' ma mb mc)) := by
  obtain ⟨ta, a1, a2⟩ := ha.ex
  obtain ⟨tb, b1, b2⟩ := hb.ex
  obtain ⟨tc, c1, c2⟩ := hc.ex
  refine ⟨_, pe_chain ho ho' a1 b1 c1 hm, fun H G cs Q rr q => chain_core (Q := fun k H => Q (.bl k) H) hf hf' a2 b2 c2 rr ?_ (fun _ _ q => q)⟩
  exact PostK.seqK q fun k k' cs' H' G' ev st r' ek p' => by
    have ek' : k = k' := ek
    subst ek'
    exact p' _ cs' H' G' rfl rfl Stp.refl r' (by show Rp _ _ _ _; simp only [Rp])
/-! ### a slot hidden, a slot lent -/
def Out.map {α : Type} (f : List Sl → List Sl) : Out α → Out α
  | .ok a ρ => .ok a (f ρ)
  | .err _ _ => .bad
  | .bad => .bad
/-- the slot j is not asked: what it owns stays -/
def mHide {α : Type} (j : Nat) (m : M α) : M α := fun ρ => match ρ[j]? with
  | some s => (m (ρ.set j .un)).map fun ρ' => ρ'.set j s
  | none => .bad
theorem RR.hide {K : PySem.W.Frag} {G H : Hp} {cs : List Cell} {j : Nat} {c : Cell} (h : RR K rt G H cs) (hc : cs[j]? = some c) : RR K rt G H (c :: cs.set j ⟨.un, c.o, []⟩) := by
  have p1 : (c :: cs.set j ⟨.un, c.o, []⟩).Perm (c :: ⟨.un, c.o, []⟩ :: (cs.take j ++ cs.drop (j + 1))) := (perm_set hc _).cons _
  have p2 := h.perm (perm_at hc)
  refine RR.perm (cs := c :: ⟨.un, c.o, []⟩ :: (cs.take j ++ cs.drop (j + 1))) ⟨fun d hd => ?_, ?_, fun a ha => ?_, h.sub⟩ p1.symm
  · rcases List.mem_cons.mp hd with rfl | hd
    · exact p2.cell _ List.mem_cons_self
    · rcases List.mem_cons.mp hd with rfl | hd
      · exact rfl
      · exact p2.cell _ (List.mem_cons_of_mem _ hd)
  · have := p2.nd
    rw [fps_cons] at this ⊢
    rw [fps_cons]
    exact this
  · have := p2.out
    rw [fps_cons, fps_cons] at ha
    exact this a (by rw [fps_cons]; exact ha)
theorem RR.unhide {K : PySem.W.Frag} {G H : Hp} {cs : List Cell} {j : Nat} {c d : Cell} (h : RR K rt G H (c :: cs)) (hd : cs[j]? = some d) : RR K rt G H (cs.set j c) := by
  have p1 : (c :: cs).Perm (d :: c :: (cs.take j ++ cs.drop (j + 1))) := ((perm_at hd).cons c).trans (List.Perm.swap d c _)
  exact ((h.perm p1).tail).perm (perm_set hd c).symm
theorem slots_at {cs : List Cell} {i : Nat} {c : Cell} (h : cs[i]? = some c) : (slots cs)[i]? = some c.s := by
  unfold slots
  rw [List.getElem?_map, h]
  rfl
theorem fps_unhide {cs : List Cell} {j : Nat} {c d : Cell} (hd : cs[j]? = some d) : ∀ a, a ∈ fps (cs.set j c) → a ∈ c.fp ++ fps cs := fun a ha => by
  have e : (fps (cs.set j c)).Perm (c.fp ++ fps (cs.take j ++ cs.drop (j + 1))) := (perm_set hd c).flatMap_right _
  have e2 : (fps cs).Perm (d.fp ++ fps (cs.take j ++ cs.drop (j + 1))) := (perm_at hd).flatMap_right _
  rcases List.mem_append.mp (e.mem_iff.mp ha) with q | q
  · exact List.mem_append_left _ q
  · exact List.mem_append_right _ (e2.mem_iff.mpr (List.mem_append_right _ q))
theorem fps_hide {cs : List Cell} {j : Nat} {c : Cell} (hc : cs[j]? = some c) : ∀ a, a ∈ fps cs ↔ a ∈ c.fp ++ fps (cs.set j ⟨.un, c.o, []⟩) := fun a => by
  have e : (fps (cs.set j ⟨.un, c.o, []⟩)).Perm ([] ++ fps (cs.take j ++ cs.drop (j + 1))) := (perm_set hc ⟨.un, c.o, []⟩).flatMap_right _
  have e2 : (fps cs).Perm (c.fp ++ fps (cs.take j ++ cs.drop (j + 1))) := (perm_at hc).flatMap_right _
  rw [e2.mem_iff, List.mem_append, List.mem_append, e.mem_iff]
  rfl
theorem same_len {cs cs' : List Cell} (h : vals cs' = vals cs) : cs'.length = cs.length := by
  have := congrArg List.length h
  simpa [vals] using this
theorem hideK {α β : Type} {k : Knd α β} {K : PySem.W.Frag} {m : M α} {j : Nat} {H G : Hp} {cs : List Cell} {Q : β → Hp → Prop} {te : L2.St → Hp → (β → Hp → Prop) → Prop} (h2 : ∀ H G cs Q, RR K rt G H cs → PostK K rt W k H G cs (m (slots cs)) Q → te (vals cs) H Q)
    (r : RR K rt G H cs) (q : PostK K rt W k H G cs (mHide j m (slots cs)) Q) : te (vals cs) H Q := by
  unfold mHide at q
  cases hj : (slots cs)[j]? with
  | none => rw [hj] at q; exact q.elim
  | some s =>
    rw [hj] at q
    obtain ⟨c, hc, rfl⟩ := cell_at hj
    have ev0 : vals (cs.set j ⟨.un, c.o, []⟩) = vals cs := vals_set_same hc rfl
    have rh := r.hide hc
    rw [← ev0]
    refine h2 H G _ Q rh.tail ?_
    rw [slots_set]
    cases hm : m ((slots cs).set j .un) with
    | ok a ρ' =>
      rw [hm] at q
      intro b cs' H' G' e1 e2 st r' hk
      have hl : j < cs'.length := by
        rw [same_len e2, List.length_set]
        exact (List.getElem?_eq_some_iff.mp hc).1
      have hd : cs'[j]? = some cs'[j] := List.getElem?_eq_getElem hl
      have rf : RR K rt G' H' (c :: cs') := RR.frame (A := [c]) (B := cs.set j ⟨.un, c.o, []⟩) (B' := cs') rh st r'
      refine q b (cs'.set j c) H' G' (by rw [slots_set, e1]) ?_ ?_ (rf.unhide hd) hk
      · rw [vals_set, e2, ev0]
        have z := vals_at hc
        obtain ⟨hi, e3⟩ := List.getElem?_eq_some_iff.mp z
        rw [← e3, List.set_getElem_self]
      · exact (st.frame (A := c.fp)).mem (fun a => fps_hide hc a) (fun a ha => fps_unhide hd a ha)
    | err x ρ' => rw [hm] at q; exact q.elim
    | bad => rw [hm] at q; exact q.elim
theorem hideE {K : PySem.W.Frag} {m : M T} {j : Nat} {H G : Hp} {cs : List Cell} {Q : VK} {te : TE} (h2 : ∀ H G cs Q, RR K rt G H cs → PostE K rt W H G cs (m (slots cs)) Q → te (vals cs) H Q)
    (r : RR K rt G H cs) (q : PostE K rt W H G cs (mHide j m (slots cs)) Q) : te (vals cs) H Q := by
  unfold mHide at q
  cases hj : (slots cs)[j]? with
  | none => rw [hj] at q; exact q.elim
  | some s =>
    rw [hj] at q
    obtain ⟨c, hc, rfl⟩ := cell_at hj
    have ev0 : vals (cs.set j ⟨.un, c.o, []⟩) = vals cs := vals_set_same hc rfl
    have rh := r.hide hc
    rw [← ev0]
    refine h2 H G _ Q rh.tail ?_
    rw [slots_set]
    cases hm : m ((slots cs).set j .un) with
    | ok a ρ' =>
      rw [hm] at q
      intro v f cs' H' G' e1 e2 st r'
      have hl : j < cs'.length := by
        rw [same_len e2, List.length_set]
        exact (List.getElem?_eq_some_iff.mp hc).1
      have hd : cs'[j]? = some cs'[j] := List.getElem?_eq_getElem hl
      have rf : RR K rt G' H' (c :: ⟨.v a, some v, f⟩ :: cs') := RR.frame (A := [c]) (B := cs.set j ⟨.un, c.o, []⟩) (B' := ⟨.v a, some v, f⟩ :: cs') rh (by rw [fps_cons]; exact st) r'
      have hd2 : (⟨.v a, some v, f⟩ :: cs' : List Cell)[j + 1]? = some cs'[j] := by simpa using hd
      refine q v f (cs'.set j c) H' G' (by rw [slots_set, e1]) ?_ ?_ (rf.unhide hd2)
      · rw [vals_set, e2, ev0]
        have z := vals_at hc
        obtain ⟨hi, e3⟩ := List.getElem?_eq_some_iff.mp z
        rw [← e3, List.set_getElem_self]
      · refine (st.frame (A := c.fp)).mem (fun a => fps_hide hc a) (fun a ha => ?_)
        rcases List.mem_append.mp ha with q | q
        · exact List.mem_append_right _ (List.mem_append_left _ q)
        · rcases List.mem_append.mp (fps_unhide hd a q) with q | q
          · exact List.mem_append_left _ q
          · exact List.mem_append_right _ (List.mem_append_right _ q)
    | err x ρ' => rw [hm] at q; exact q.elim
    | bad => rw [hm] at q; exact q.elim
theorem s_hide {m : M D} (j : Nat) (h : PEs X rt W e m) : PEs X rt W e (mHide j m) := by
  obtain ⟨te, h1, h2⟩ := h.ex
  exact ⟨te, h1, fun H G cs Q r q => hideK h2 r q⟩
theorem d_hide {m : M T} (j : Nat) (h : PEd X rt W e m) : PEd X rt W e (mHide j m) := by
  obtain ⟨te, h1, h2⟩ := h.ex
  exact ⟨te, h1, fun H G cs Q r q => hideE h2 r q⟩
theorem t_hide {m : M Bool} (j : Nat) (h : PTd X rt W e m) : PTd X rt W e (mHide j m) := by
  obtain ⟨te, h1, h2⟩ := h.ex
  exact ⟨te, h1, fun H G cs Q r q => hideK h2 r q⟩
end
end PD

set_option Elab.async false
set_option linter.all false
set_option maxRecDepth 100000
set_option maxHeartbeats 2000000
/-! PD: borrowing, calls of defs. -/
namespace PD
open PySem PySem.Spec PyProof.Rows L2
section
variable {X : Cx} {rt : List V} {W : WX} {e a b c : Expr} {es rest : List Expr} {pos p p2 : Pos}
/-! ### a slot lent for an expression that only reads -/
def Sl.okB : Sl → Bool
  | .un => true
  | .v (.sh _) => true
  | .v t => t.scal
  | .p _ t => t.scal
open Classical in
noncomputable def mBor (i : Nat) (m : M T) : M T := fun ρ => match ρ[i]? with
  | some s => (match s.t? with
    | some t => (match m (ρ.set i (.v (.sh t.d))) with
      | .ok r ρ' => if r.scal = true ∧ ρ' = ρ.set i (.v (.sh t.d)) ∧ (ρ.set i (.v (.sh t.d))).all Sl.okB = true then .ok r ρ else .bad
      | _ => .bad)
    | none => .bad)
  | none => .bad
theorem RR.lend {K : PySem.W.Frag} {G H : Hp} {cs : List Cell} {i : Nat} {c : Cell} {t : T} (h : RR K rt G H cs) (hc : cs[i]? = some c) (hs : c.s.t? = some t) :
    ∃ x, c.o = some x ∧ RR K rt (gv G H c.fp) H (cs.set i ⟨.v (.sh t.d), some x, []⟩) := by
  obtain ⟨x, ex, ht⟩ := (h.at hc).tree hs
  -- first as a plain slot
  have p1 := h.perm (perm_at hc)
  have r1 : RR K rt G H (⟨.v t, some x, c.fp⟩ :: (cs.take i ++ cs.drop (i + 1))) := by
    refine ⟨fun d hd => ?_, ?_, ?_, h.sub⟩
    · rcases List.mem_cons.mp hd with rfl | hd
      · exact ⟨x, rfl, ht⟩
      · exact p1.cell _ (List.mem_cons_of_mem _ hd)
    · have := p1.nd
      rw [fps_cons] at this ⊢
      exact this
    · have := p1.out
      intro a ha
      refine this a ?_
      rw [fps_cons] at ha ⊢
      exact ha
  exact ⟨x, ex, (r1.give).1.perm (perm_set hc _).symm⟩
theorem cells_ext {cs cs' : List Cell} (h1 : slots cs' = slots cs) (h2 : vals cs' = vals cs) {i : Nat} {c : Cell} (hc : cs[i]? = some c) : ∃ f, cs'[i]? = some ⟨c.s, c.o, f⟩ := by
  have e1 := slots_at hc
  rw [← h1] at e1
  obtain ⟨d, hd, es⟩ := cell_at e1
  have e2 := vals_at hc
  rw [← h2, vals_at hd] at e2
  refine ⟨d.fp, ?_⟩
  rw [hd]
  obtain ⟨s, o, f⟩ := d
  cases es
  cases e2
  rfl
/-- the cells of a second list put on the ground of a first: what is shared is taken of the first -/
def mixC : List Cell → List Cell → List Cell
  | c :: cs, d :: ds => (match c.s with
    | .v (.sh _) => c
    | .un => c
    | _ => d) :: mixC cs ds
  | _, _ => []
theorem mix_at : ∀ {cs ds : List Cell} (h1 : slots ds = slots cs) (h2 : vals ds = vals cs), slots (mixC cs ds) = slots cs ∧ vals (mixC cs ds) = vals cs
  | [], [], _, _ => ⟨rfl, rfl⟩
  | [], d :: ds, h, _ => by simp [slots] at h
  | c :: cs, [], h, _ => by simp [slots] at h
  | c :: cs, d :: ds, h1, h2 => by
    simp only [slots, vals, List.map_cons, List.cons.injEq] at h1 h2
    obtain ⟨i1, i2⟩ := mix_at (cs := cs) (ds := ds) h1.2 h2.2
    simp only [slots, vals] at i1 i2
    constructor
    · simp only [slots, mixC, List.map_cons]
      rw [i1]
      congr 1
      split <;> first | rfl | exact h1.1
    · simp only [vals, mixC, List.map_cons]
      rw [i2]
      congr 1
      split <;> first | rfl | exact h2.1
theorem mix_ok {K : PySem.W.Frag} {G G' H H' : Hp} : ∀ {cs ds : List Cell}, slots ds = slots cs → (slots cs).all Sl.okB = true → (∀ c ∈ cs, CellR K rt G H c) → (∀ d ∈ ds, CellR K rt G' H' d) →
    ∀ c ∈ mixC cs ds, CellR K rt G H' c
  | [], _, _, _, _, _ => fun c hc => by cases hc
  | c :: cs, [], h, _, _, _ => by simp [slots] at h
  | c :: cs, d :: ds, h1, hk, hc, hd => fun e he => by
    simp only [slots, List.map_cons, List.cons.injEq] at h1
    simp only [slots, List.map_cons, List.all_cons, Bool.and_eq_true] at hk
    rcases List.mem_cons.mp he with rfl | he
    · have h3 := hc c List.mem_cons_self
      have h4 := hd d List.mem_cons_self
      obtain ⟨cs_, co, cf⟩ := c
      obtain ⟨ds_, do_, df⟩ := d
      have e1 : ds_ = cs_ := h1.1
      subst e1
      cases ds_ with
      | un => exact h3
      | v t =>
        cases t with
        | sh dd =>
          obtain ⟨x, e2, h3⟩ := h3
          simp only [RT] at h3
          exact ⟨x, e2, by simp only [RT]; exact h3⟩
        | lst ts => obtain ⟨x, e2, h4⟩ := h4; exact ⟨x, e2, RT.scal _ _ _ hk.1 h4⟩
        | tup ts => obtain ⟨x, e2, h4⟩ := h4; exact ⟨x, e2, RT.scal _ _ _ hk.1 h4⟩
        | dct ks ts => obtain ⟨x, e2, h4⟩ := h4; exact ⟨x, e2, RT.scal _ _ _ hk.1 h4⟩
        | ins c ns ts => obtain ⟨x, e2, h4⟩ := h4; exact ⟨x, e2, RT.scal _ _ _ hk.1 h4⟩
      | p k t => obtain ⟨x, e2, e3, h4⟩ := h4; exact ⟨x, e2, e3, RT.scal _ _ _ hk.1 h4⟩
    · exact mix_ok h1.2 hk.2 (fun c h => hc c (List.mem_cons_of_mem _ h)) (fun c h => hd c (List.mem_cons_of_mem _ h)) e he
theorem mix_fps {K : PySem.W.Frag} {G H : Hp} : ∀ {cs ds : List Cell}, slots ds = slots cs → (∀ c ∈ cs, CellR K rt G H c) → List.Sublist (fps (mixC cs ds)) (fps ds)
  | [], ds, _, _ => by simp [mixC, fps]
  | c :: cs, [], h, _ => by simp [slots] at h
  | c :: cs, d :: ds, h, hc => by
    simp only [slots, List.map_cons, List.cons.injEq] at h
    have ih := mix_fps (K := K) (G := G) (H := H) (cs := cs) (ds := ds) h.2 fun c h => hc c (List.mem_cons_of_mem _ h)
    simp only [mixC]
    rw [fps_cons, fps_cons]
    have h3 := hc c List.mem_cons_self
    unfold CellR at h3
    split
    · rename_i dd e
      rw [e] at h3
      obtain ⟨x, _, h4⟩ := h3
      simp only [RT] at h4
      rw [h4.2]
      exact (List.nil_append _).symm ▸ ih.trans (List.sublist_append_right _ _)
    · rename_i e
      rw [e] at h3
      rw [h3]
      exact (List.nil_append _).symm ▸ ih.trans (List.sublist_append_right _ _)
    · exact (List.Sublist.refl _).append ih
theorem d_bor {m : M T} (i : Nat) (h : PEd X rt W e m) : PEd X rt W e (mBor i m) := by
  obtain ⟨te, h1, h2⟩ := h.ex
  refine ⟨te, h1, fun H G cs Q r q => ?_⟩
  unfold mBor at q
  cases hi : (slots cs)[i]? with
  | none => rw [hi] at q; exact q.elim
  | some s =>
    rw [hi] at q
    obtain ⟨c, hc, rfl⟩ := cell_at hi
    cases ht : c.s.t? with
    | none => simp only [ht] at q; exact q.elim
    | some t =>
      simp only [ht] at q
      obtain ⟨x, ex, r1⟩ := r.lend hc ht
      have ev0 : vals (cs.set i ⟨.v (.sh t.d), some x, []⟩) = vals cs := vals_set_same hc ex.symm
      have es0 : slots (cs.set i ⟨.v (.sh t.d), some x, []⟩) = (slots cs).set i (.v (.sh t.d)) := slots_set
      rw [← ev0]
      refine h2 H _ _ Q r1 ?_
      rw [es0]
      cases hm : m ((slots cs).set i (.v (.sh t.d))) with
      | err ex ρ' => rw [hm] at q; exact q.elim
      | bad => rw [hm] at q; exact q.elim
      | ok rr ρ' =>
        rw [hm] at q
        by_cases hcond : rr.scal = true ∧ ρ' = (slots cs).set i (.v (.sh t.d)) ∧ ((slots cs).set i (.v (.sh t.d))).all Sl.okB = true
        · simp only [if_pos hcond] at q
          obtain ⟨hs, e', hk⟩ := hcond
          intro v f cs' H' G' e1 e2 st r'
          rw [e', ← es0] at e1
          rw [← es0] at hk
          obtain ⟨cf, hcf⟩ : ∃ cf, cf = c.fp := ⟨_, rfl⟩
          have outc : ∀ a ∈ c.fp, G a = none := fun a ha => r.out a (mem_fps.mpr ⟨c, List.mem_of_getElem? hc, ha⟩)
          have ext0 : Ext G (gv G H c.fp) := gv_ext outc
          -- the lent part stays
          have keepc : ∀ a ∈ c.fp, ∀ o, H a = some o → H' a = some o := fun a ha o ho => st.keep a o ho fun hm => by
            have z := r1.out a hm
            rw [gv_in ha, ho] at z
            cases z
          have extAll : Ext G G' := ext0.trans st.ext
          have hi' : i < cs.length := (List.getElem?_eq_some_iff.mp hc).1
          have hlen : cs'.length = cs.length := by
            have := same_len e2
            rw [List.length_set] at this
            exact this
          have hd : cs'[i]? = some cs'[i] := List.getElem?_eq_getElem (by omega)
          -- the lent cell's place emptied, in both
          have s0 : slots (cs'.set i ⟨.un, some x, []⟩) = slots (cs.set i ⟨.un, some x, []⟩) := by
            rw [slots_set, e1, slots_set, slots_set, List.set_set]
          have v0 : vals (cs'.set i ⟨.un, some x, []⟩) = vals (cs.set i ⟨.un, some x, []⟩) := by
            rw [vals_set, e2, vals_set, vals_set, List.set_set]
          have hk0 : (slots (cs.set i ⟨.un, some x, []⟩)).all Sl.okB = true := by
            rw [slots_set] at hk ⊢
            rw [List.all_eq_true] at hk ⊢
            intro z hz
            rcases List.mem_or_eq_of_mem_set hz with hz | rfl
            · obtain ⟨n, hn⟩ := List.mem_iff_getElem?.mp hz
              by_cases hni : n = i
              · subst hni
                obtain ⟨n2, hn2⟩ := List.mem_iff_getElem?.mp ‹z ∈ ((slots cs).set n Sl.un)›
                by_cases h2 : n2 = n
                · subst h2
                  rw [List.getElem?_set_self (by simpa [slots] using hi')] at hn2
                  cases hn2
                  rfl
                · rw [List.getElem?_set_ne (Ne.symm h2)] at hn2
                  exact hk z (List.mem_of_getElem? (i := n2) (by rw [List.getElem?_set_ne (Ne.symm h2)]; exact hn2))
              · exact hk z (List.mem_of_getElem? (i := n) (by rw [List.getElem?_set_ne (Ne.symm hni)]; exact hn))
            · rfl
          have c0 : ∀ d ∈ cs.set i ⟨.un, some x, []⟩, CellR X.K rt G H d := fun d hd => by
            rcases List.mem_or_eq_of_mem_set hd with hd | rfl
            · exact r.cell d hd
            · exact rfl
          have d0 : ∀ d ∈ cs'.set i ⟨.un, some x, []⟩, CellR X.K rt G' H' d := fun d hd => by
            rcases List.mem_or_eq_of_mem_set hd with hd | rfl
            · exact r'.tail.cell d hd
            · exact rfl
          have okm := mix_ok (K := X.K) (rt := rt) (H' := H') s0 hk0 c0 d0
          have hmix := mix_at s0 v0
          have sfp := mix_fps (K := X.K) (rt := rt) (G := G) (H := H) s0 c0
          have fpi : cs'[i].fp = [] := by
            obtain ⟨ff, hff⟩ := cells_ext e1 e2 (i := i) (c := ⟨.v (.sh t.d), some x, []⟩) (by rw [List.getElem?_set_self hi'])
            rw [hd] at hff
            have z := r'.tail.at hd
            rw [Option.some.inj hff] at z ⊢
            obtain ⟨y, _, z⟩ := z
            simp only [RT] at z
            exact z.2
          have fpd : (fps (cs'.set i ⟨.un, some x, []⟩)).Perm (fps cs') := by
            have p1 : (fps (cs'.set i ⟨.un, some x, []⟩)).Perm ([] ++ fps (cs'.take i ++ cs'.drop (i + 1))) := (perm_set hd _).flatMap_right _
            have p2 : (fps cs').Perm (cs'[i].fp ++ fps (cs'.take i ++ cs'.drop (i + 1))) := (perm_at hd).flatMap_right _
            rw [fpi] at p2
            exact p1.trans p2.symm
          have inm : ∀ a, a ∈ fps (mixC (cs.set i ⟨.un, some x, []⟩) (cs'.set i ⟨.un, some x, []⟩)) → a ∈ fps cs' := fun a ha => fpd.mem_iff.mp (sfp.subset ha)
          have ndr := r'.nd
          rw [fps_cons] at ndr
          obtain ⟨n1, n2, n3⟩ := List.nodup_append.mp ndr
          have outr : ∀ a, a ∈ f ++ fps cs' → G' a = none := fun a ha => r'.out a (by rw [fps_cons]; exact ha)
          have apart : ∀ a ∈ c.fp, a ∉ f ++ fps cs' := fun a ha hm => by
            obtain ⟨o, ho⟩ := (r.at hc).dom a ha
            have z := st.ext a o (by rw [gv_in ha]; exact ho)
            rw [outr a hm] at z
            cases z
          have ndc : c.fp.Nodup := by
            have := (r.perm (perm_at hc)).nd
            rw [fps_cons] at this
            exact (List.nodup_append.mp this).1
          have ndm : (fps (mixC (cs.set i ⟨.un, some x, []⟩) (cs'.set i ⟨.un, some x, []⟩))).Nodup := (fpd.nodup_iff.mpr n2).sublist sfp
          have big : RR X.K rt G H' (c :: ⟨.v rr, some v, f⟩ :: mixC (cs.set i ⟨.un, some x, []⟩) (cs'.set i ⟨.un, some x, []⟩)) := by
            refine ⟨fun d hd => ?_, ?_, fun a ha => ?_, fun a o h => r'.sub a o (extAll a o h)⟩
            · rcases List.mem_cons.mp hd with rfl | hd
              · exact (r.at hc).frame (Ext.refl _) keepc
              · rcases List.mem_cons.mp hd with rfl | hd
                · obtain ⟨y, ey, z⟩ := r'.cell _ List.mem_cons_self
                  exact ⟨y, ey, RT.scal _ _ _ hs z⟩
                · exact okm d hd
            · rw [fps_cons, fps_cons]
              refine List.nodup_append.mpr ⟨ndc, List.nodup_append.mpr ⟨n1, ndm, fun a ha b hb e => n3 a ha b (inm b hb) e⟩, fun a ha b hb e => ?_⟩
              subst e
              refine apart a ha ?_
              rcases List.mem_append.mp hb with q | q
              · exact List.mem_append_left _ q
              · exact List.mem_append_right _ (inm a q)
            · rw [fps_cons, fps_cons] at ha
              rcases List.mem_append.mp ha with q | q
              · exact outc a q
              · have z : G' a = none := by
                  rcases List.mem_append.mp q with q | q
                  · exact outr a (List.mem_append_left _ q)
                  · exact outr a (List.mem_append_right _ (inm a q))
                cases e : G a with
                | none => rfl
                | some o => rw [extAll a o e] at z; cases z
          have lenm : (mixC (cs.set i ⟨.un, some x, []⟩) (cs'.set i ⟨.un, some x, []⟩)).length = cs.length := by
            have := same_len hmix.2
            rw [List.length_set] at this
            exact this
          have hdm : (mixC (cs.set i ⟨.un, some x, []⟩) (cs'.set i ⟨.un, some x, []⟩))[i]? = some ((mixC (cs.set i ⟨.un, some x, []⟩) (cs'.set i ⟨.un, some x, []⟩))[i]'(by omega)) := List.getElem?_eq_getElem (by omega)
          have hdm2 : (⟨.v rr, some v, f⟩ :: mixC (cs.set i ⟨.un, some x, []⟩) (cs'.set i ⟨.un, some x, []⟩) : List Cell)[i + 1]? = some ((mixC (cs.set i ⟨.un, some x, []⟩) (cs'.set i ⟨.un, some x, []⟩))[i]'(by omega)) := by simpa using hdm
          refine q v f ((mixC (cs.set i ⟨.un, some x, []⟩) (cs'.set i ⟨.un, some x, []⟩)).set i c) H' G ?_ ?_ ?_ (big.unhide hdm2)
          · rw [slots_set, hmix.1, slots_set, List.set_set]
            obtain ⟨hh, e3⟩ := List.getElem?_eq_some_iff.mp (slots_at hc)
            rw [← e3, List.set_getElem_self]
          · rw [vals_set, hmix.2, vals_set, List.set_set]
            obtain ⟨hh, e3⟩ := List.getElem?_eq_some_iff.mp (vals_at hc)
            rw [← e3, List.set_getElem_self]
          · refine ⟨fun b o h n => st.keep b o h fun m => n ?_, Ext.refl _, fun a ha => ?_, fun b o h => .inl h⟩
            · obtain ⟨d, hd', hb⟩ := mem_fps.mp m
              rcases List.mem_or_eq_of_mem_set hd' with hd' | rfl
              · exact mem_fps.mpr ⟨d, hd', hb⟩
              · cases hb
            · have inFp : ∀ a, a ∈ f ++ fps cs' → a ∈ fps cs ∨ H a = none := fun a ha => by
                rcases st.own a ha with z | z
                · obtain ⟨d, hd', hb⟩ := mem_fps.mp z
                  rcases List.mem_or_eq_of_mem_set hd' with hd' | rfl
                  · exact .inl (mem_fps.mpr ⟨d, hd', hb⟩)
                  · cases hb
                · exact .inr z
              rcases List.mem_append.mp ha with z | z
              · exact inFp a (List.mem_append_left _ z)
              · rcases List.mem_append.mp (fps_unhide hdm a z) with z | z
                · exact .inl (mem_fps.mpr ⟨c, List.mem_of_getElem? hc, z⟩)
                · exact inFp a (List.mem_append_right _ (inm a z))
        · simp only [if_neg hcond] at q; exact q.elim
end
end PD

set_option Elab.async false
set_option linter.all false
set_option maxRecDepth 100000
set_option maxHeartbeats 2000000
/-! PD: calls of defs. -/
namespace PD
open PySem PySem.Spec PyProof.Rows L2
/-- an exception's wish, of a promise -/
abbrev WE0 (E : XK) : WX := fun cls d _ H => E cls d H
/-- THE PROMISE of a def by its denotation over the arguments' slots -/
def spOf (K : PySem.W.Frag) (F : M T) : Sp := fun vs H Q E => ∃ G cs, RR K [] G H cs ∧ vals cs = vs.map some ∧ (∀ s ∈ slots cs, ∃ t, s = .v t) ∧ PostE K [] (WE0 E) H G cs (F (slots cs)) Q
/-- an argument: a shared value, or the slot i that is lent with what it owns -/
inductive AV where
  | d (d : D)
  | own (i : Nat)
def kQ (σ : L2.St) : Knd (List AV) (List V) := ⟨fun K G as xs => Paired (fun (a : AV) (x : V) => match a with
  | .d d => Rp K G d x
  | .own i => σ[i]? = some (some x)) as xs⟩
structure PQd (X : Cx) (rt : List V) (W : WX) (es : List Expr) (m : M (List AV)) : Prop where
  ex : ∃ te, PA X es te ∧ ∀ H G cs Q, RR X.K rt G H cs → PostK X.K rt W (kQ (vals cs)) H G cs (m (slots cs)) Q → te (vals cs) H Q
def qNil : M (List AV) := M.pure []
def qCons (m : M D) (ms : M (List AV)) : M (List AV) := fun ρ => (m ρ).bind fun d ρ1 => (ms ρ1).bind fun ds => M.pure (.d d :: ds)
def qOwn (i : Nat) (ms : M (List AV)) : M (List AV) := fun ρ => match ρ[i]?.bind Sl.t? with
  | some _ => (ms ρ).bind fun ds => M.pure (.own i :: ds)
  | none => .bad
section
variable {X : Cx} {rt : List V} {W : WX} {e a b c : Expr} {es rest : List Expr} {pos p p2 : Pos}
theorem q_nil : PQd X rt W [] qNil := ⟨_, pa_nil, fun H G cs Q r q => q [] cs H G rfl rfl Stp.refl r .nil⟩
theorem q_cons {m : M D} {ms : M (List AV)} (h : PEs X rt W e m) (hr : PQd X rt W es ms) (hs : starEach (e :: es) X.env = (false, eval e X.env) :: starEach es X.env := by rfl) : PQd X rt W (e :: es) (qCons m ms) := by
  obtain ⟨te, h1, h2⟩ := h.ex
  obtain ⟨tr, h3, h4⟩ := hr.ex
  refine ⟨_, pa_cons h1 h3 hs, fun H G cs Q r q => h2 H G cs _ r (PostK.seqK q fun d x cs1 H1 G1 ev st r1 rp1 q1 => ?_)⟩
  show tr (vals cs) H1 _
  rw [← ev] at q1 ⊢
  refine h4 H1 G1 cs1 _ r1 (PostK.seqK q1 fun ds xs cs2 H2 G2 ev2 st2 r2 rp2 q2 => ?_)
  exact q2 (x :: xs) cs2 H2 G2 rfl rfl Stp.refl r2 (.cons (Rp.mono st2.ext d x rp1) rp2)
theorem q_own (i : Nat) {x : Str} {ms : M (List AV)} (hN : X.N[i]? = some x) (hv : Vis X.env.scope x) (hr : PQd X rt W es ms) (hs : starEach (.Name x p :: es) X.env = (false, eval (.Name x p) X.env) :: starEach es X.env := by rfl)
    (hd : (x == ("__debug__" : Str)) = false := by decide) (hcd : (x == ("__classdict__" : Str)) = false := by decide) : PQd X rt W (.Name x p :: es) (qOwn i ms) := by
  obtain ⟨tr, h3, h4⟩ := hr.ex
  refine ⟨_, pa_cons (pe_var hN hv hd hcd) h3 hs, fun H G cs Q r q => ?_⟩
  unfold qOwn at q
  cases hi : (slots cs)[i]?.bind Sl.t? with
  | none => rw [hi] at q; exact q.elim
  | some t =>
    rw [hi] at q
    rw [Option.bind_eq_some_iff] at hi
    obtain ⟨s, e1, e2⟩ := hi
    obtain ⟨c, hc, rfl⟩ := cell_at e1
    obtain ⟨x, ex, _⟩ := (r.at hc).tree e2
    have hx : (vals cs)[i]? = some (some x) := by rw [vals_at hc, ex]
    refine ⟨x, hx, ?_⟩
    refine h4 H G cs _ r (PostK.seqK q fun ds xs cs2 H2 G2 ev2 st2 r2 rp2 q2 => ?_)
    exact q2 (x :: xs) cs2 H2 G2 rfl rfl Stp.refl r2 (.cons hx rp2)
end
/-! ### the arguments' slots taken out, put back -/
def takeO : List AV → List Sl → Option (List Sl × List Sl)
  | [], ρ => some ([], ρ)
  | .d d :: r, ρ => (takeO r ρ).map fun z => (.v (.sh d) :: z.1, z.2)
  | .own i :: r, ρ => (match ρ[i]?.bind Sl.t? with
    | some t => (takeO r (ρ.set i .un)).map fun z => (.v t :: z.1, z.2)
    | none => none)
def Sl.re (s : Sl) (t : T) : Sl := match s with
  | .p k _ => .p k t
  | _ => .v t
/-- ρ0: the slots ahead of the call; as: the arguments behind it; ρ: the others behind it -/
def putO : List AV → List Sl → List Sl → List Sl → Option (List Sl)
  | [], _, [], ρ => some ρ
  | .d _ :: r, ρ0, _ :: as, ρ => putO r ρ0 as ρ
  | .own i :: r, ρ0, .v t :: as, ρ => (match ρ0[i]? with
    | some s => putO r ρ0 as (ρ.set i (s.re t))
    | none => none)
  | _, _, _, _ => none
def Out.putO {α : Type} (as : List AV) (ρ0 ρr : List Sl) : Out α → Out α
  | .ok a ρ => (match PD.putO as ρ0 ρ ρr with
    | some ρ' => .ok a ρ'
    | none => .bad)
  | .err x ρ => (match PD.putO as ρ0 ρ ρr with
    | some ρ' => .err x ρ'
    | none => .bad)
  | .bad => .bad
def callO (F : M T) (as : List AV) : M T := fun ρ1 => match takeO as ρ1 with
  | some z => Out.putO as ρ1 z.2 (F z.1)
  | none => .bad
/-- the call of a def: its own arguments, then its defaults -/
def mCall (F : M T) (ms : M (List AV)) (dfl : List D) : M T := fun ρ => (ms ρ).bind fun as => callO F (as ++ dfl.map .d)
section
variable {K : PySem.W.Frag} {rt : List V} {W : WX} {G H G' H' : Hp}
theorem CellR.rt0 {c : Cell} (h : CellR K [] G H c) : CellR K rt G H c := by
  unfold CellR at h ⊢
  cases hs : c.s with
  | un => rw [hs] at h; exact h
  | v t => rw [hs] at h; exact h
  | p k t =>
    rw [hs] at h
    obtain ⟨x, _, h2, _⟩ := h
    simp at h2
theorem RR.rt1 {cs : List Cell} (h : RR K [] G H cs) : RR K rt G H cs := ⟨fun c hc => (h.cell c hc).rt0, h.nd, h.out, h.sub⟩
theorem RR.vs {cs : List Cell} (h : RR K rt G H cs) (hv : ∀ s ∈ slots cs, ∃ t, s = .v t) : RR K [] G H cs := by
  refine ⟨fun c hc => ?_, h.nd, h.out, h.sub⟩
  obtain ⟨t, e⟩ := hv c.s (List.mem_map_of_mem hc)
  have z := h.cell c hc
  unfold CellR at z ⊢
  rw [e] at z ⊢
  exact z
theorem take_ok : ∀ (as : List AV) (xs : List V) (cs : List Cell) (a r : List Sl), RR K rt G H cs → (kQ (vals cs)).rel K G as xs → takeO as (slots cs) = some (a, r) →
    ∃ A R, slots A = a ∧ vals A = xs.map some ∧ slots R = r ∧ vals R = vals cs ∧ RR K rt G H (A ++ R) ∧ (∀ x, x ∈ fps cs ↔ x ∈ fps (A ++ R)) ∧ ∀ s ∈ slots A, ∃ t, s = .v t
  | [], xs, cs, a, r, hr, hp, e => by
    cases hp
    cases e
    exact ⟨[], cs, rfl, rfl, rfl, rfl, hr, fun x => Iff.rfl, fun s hs => by cases hs⟩
  | .d d :: as, _, cs, a, r, hr, hp, e => by
    cases hp with
    | @cons _ x _ xs h1 h2 =>
      simp only [takeO, Option.map_eq_some_iff] at e
      obtain ⟨z, e1, e2⟩ := e
      cases e2
      obtain ⟨A, R, i1, i2, i3, i4, i5, i6, i7⟩ := take_ok as xs cs z.1 z.2 hr h2 e1
      refine ⟨⟨.v (.sh d), some x, []⟩ :: A, R, by simp [slots, ← i1], by simp only [vals, List.map_cons] at i2 ⊢; rw [i2], i3, i4, i5.shareI h1, fun y => ?_, fun s hs => ?_⟩
      · rw [i6 y, List.cons_append, fps_cons]
        rfl
      · rcases List.mem_cons.mp hs with rfl | hs
        · exact ⟨_, rfl⟩
        · exact i7 s hs
  | .own i :: as, _, cs, a, r, hr, hp, e => by
    cases hp with
    | @cons _ x _ xs h1 h2 =>
      cases hi : (slots cs)[i]?.bind Sl.t? with
      | none => simp only [takeO, hi] at e; cases e
      | some t =>
        simp only [takeO, hi, Option.map_eq_some_iff] at e
        obtain ⟨z, e1, e2⟩ := e
        cases e2
        rw [Option.bind_eq_some_iff] at hi
        obtain ⟨s, e3, e4⟩ := hi
        obtain ⟨c, hc, rfl⟩ := cell_at e3
        obtain ⟨y, ey, ht⟩ := (hr.at hc).tree e4
        have exy : y = x := by
          have h1' : (vals cs)[i]? = some (some x) := h1
          rw [vals_at hc, ey] at h1'
          exact Option.some.inj (Option.some.inj h1')
        subst exy
        have v0 : vals (cs.set i ⟨.un, c.o, []⟩) = vals cs := vals_set_same hc rfl
        have rh := hr.hide hc
        obtain ⟨A, R, i1, i2, i3, i4, i5, i6, i7⟩ := take_ok as xs (cs.set i ⟨.un, c.o, []⟩) z.1 z.2 rh.tail (by rw [v0]; exact h2) (by rw [slots_set]; exact e1)
        have rc : RR K rt G H (⟨.v t, some y, c.fp⟩ :: cs.set i ⟨.un, c.o, []⟩) := by
          refine ⟨fun d hd => ?_, by have := rh.nd; rw [fps_cons] at this ⊢; exact this, fun a ha => rh.out a (by rw [fps_cons] at ha ⊢; exact ha), rh.sub⟩
          rcases List.mem_cons.mp hd with rfl | hd
          · exact ⟨y, rfl, ht⟩
          · exact rh.cell d (List.mem_cons_of_mem _ hd)
        have rf : RR K rt G H (⟨.v t, some y, c.fp⟩ :: (A ++ R)) := RR.frame (A := [⟨.v t, some y, c.fp⟩]) (B := cs.set i ⟨.un, c.o, []⟩) (B' := A ++ R) rc (Stp.refl.mem (fun x => Iff.rfl) (fun x hx => (i6 x).mpr hx)) i5
        refine ⟨⟨.v t, some y, c.fp⟩ :: A, R, by simp [slots, ← i1], by simp only [vals, List.map_cons] at i2 ⊢; rw [i2], i3, i4.trans v0, rf, fun w => ?_, fun s hs => ?_⟩
        · rw [fps_hide hc w, List.cons_append, fps_cons, List.mem_append, List.mem_append, i6 w]
        · rcases List.mem_cons.mp hs with rfl | hs
          · exact ⟨_, rfl⟩
          · exact i7 s hs
theorem put_ok (Z : List Cell) (ρ0 : List Sl) : ∀ (as : List AV) (xs : List V) (A R : List Cell) (ρ' : List Sl), vals A = xs.map some → (kQ (vals R)).rel K G as xs →
    (∀ (i k : Nat) (t : T), ρ0[i]? = some (Sl.p k t) → ∃ x, (vals R)[i]? = some (some x) ∧ rt[k]? = some x) → putO as ρ0 (slots A) (slots R) = some ρ' → RR K rt G' H' (Z ++ (A ++ R)) →
    ∃ cs, slots cs = ρ' ∧ vals cs = vals R ∧ RR K rt G' H' (Z ++ cs) ∧ ∀ x, x ∈ fps cs → x ∈ fps (A ++ R)
  | [], _, A, R, ρ', hv, hp, h0, e, hr => by
    cases hp
    cases A with
    | nil =>
      cases e
      exact ⟨R, rfl, rfl, hr, fun x hx => hx⟩
    | cons c A => cases e
  | .d d :: as, _, A, R, ρ', hv, hp, h0, e, hr => by
    cases hp with
    | @cons _ x _ xs h1 h2 =>
      cases A with
      | nil => cases e
      | cons c A =>
        have e' : putO as ρ0 (slots A) (slots R) = some ρ' := by
          cases hs : c.s <;> simpa only [slots, List.map_cons, hs, putO] using e
        have hr' : RR K rt G' H' (Z ++ (A ++ R)) := (hr.perm (cs' := c :: (Z ++ (A ++ R))) (by rw [List.cons_append]; exact List.perm_middle)).tail
        obtain ⟨cs, i1, i2, i3, i4⟩ := put_ok Z ρ0 as xs A R ρ' (by simp only [vals, List.map_cons, List.cons.injEq] at hv ⊢; exact hv.2) h2 h0 e' hr'
        exact ⟨cs, i1, i2, i3, fun y hy => by rw [List.cons_append, fps_cons]; exact List.mem_append_right _ (i4 y hy)⟩
  | .own i :: as, _, A, R, ρ', hv, hp, h0, e, hr => by
    cases hp with
    | @cons _ x _ xs h1 h2 =>
      cases A with
      | nil => cases e
      | cons c A =>
        obtain ⟨s, o, f⟩ := c
        simp only [vals, List.map_cons, List.cons.injEq] at hv
        obtain ⟨ho, hv⟩ := hv
        subst ho
        cases s with
        | un => cases e
        | p k t => cases e
        | v t =>
          cases hs : ρ0[i]? with
          | none => simp only [slots, List.map_cons, putO, hs] at e; cases e
          | some s =>
            simp only [slots, List.map_cons, putO, hs] at e
            have h1' : (vals R)[i]? = some (some x) := h1
            have hR : ∃ d, R[i]? = some d ∧ d.o = some x := by
              unfold vals at h1'
              rw [List.getElem?_map] at h1'
              cases q : R[i]? with
              | none => rw [q] at h1'; cases h1'
              | some d => rw [q] at h1'; exact ⟨d, rfl, Option.some.inj h1'⟩
            obtain ⟨d, hd, hdo⟩ := hR
            have hr1 : RR K rt G' H' (⟨s.re t, some x, f⟩ :: (Z ++ A ++ R)) := by
              have hp := hr.perm (cs' := ⟨.v t, some x, f⟩ :: (Z ++ A ++ R)) (by rw [List.cons_append, List.append_assoc]; exact List.perm_middle)
              refine ⟨fun d hd => ?_, by have := hp.nd; rw [fps_cons] at this ⊢; exact this, fun a ha => hp.out a (by rw [fps_cons] at ha ⊢; exact ha), hp.sub⟩
              rcases List.mem_cons.mp hd with rfl | hd
              · obtain ⟨y, ey, hy⟩ := hp.cell _ List.mem_cons_self
                cases s with
                | un => exact ⟨y, ey, hy⟩
                | v t' => exact ⟨y, ey, hy⟩
                | p k t' =>
                  obtain ⟨z, e1, e2⟩ := h0 i k t' hs
                  rw [h1'] at e1
                  have e3 : x = z := Option.some.inj (Option.some.inj e1)
                  have e4 : x = y := Option.some.inj ey
                  exact ⟨y, ey, by rw [e2, ← e3, e4], hy⟩
              · exact hp.cell d (List.mem_cons_of_mem _ hd)
            have hidx : (Z ++ A ++ R)[(Z ++ A).length + i]? = some d := by
              rw [List.getElem?_append_right (by omega)]
              simpa using hd
            have hr2 := hr1.unhide hidx
            have eset : (Z ++ A ++ R).set ((Z ++ A).length + i) ⟨s.re t, some x, f⟩ = Z ++ (A ++ R.set i ⟨s.re t, some x, f⟩) := by
              rw [List.set_append_right _ _ (by omega)]
              simp
            rw [eset] at hr2
            have vR : vals (R.set i ⟨s.re t, some x, f⟩) = vals R := vals_set_same hd (by rw [hdo])
            obtain ⟨cs, i1, i2, i3, i4⟩ := put_ok Z ρ0 as xs A (R.set i ⟨s.re t, some x, f⟩) ρ' hv (by rw [vR]; exact h2) (by rw [vR]; exact h0) (by rw [slots_set]; exact e) hr2
            refine ⟨cs, i1, i2.trans vR, i3, fun y hy => ?_⟩
            have z := i4 y hy
            rw [fps_append] at z
            rw [List.cons_append, fps_cons, fps_append]
            rcases List.mem_append.mp z with z | z
            · exact List.mem_append_right _ (List.mem_append_left _ z)
            · rcases List.mem_append.mp (fps_unhide hd y z) with z | z
              · exact List.mem_append_left _ z
              · exact List.mem_append_right _ (List.mem_append_right _ z)
/-- the promise at the call -/
theorem call_ok {F : M T} {as : List AV} {xs : List V} {cs : List Cell} {Q : VK} (hr : RR K rt G H cs) (hp : (kQ (vals cs)).rel K G as xs) (q : PostE K rt W H G cs (callO F as (slots cs)) Q) :
    spOf K F xs H Q (fun cls d H' => W cls d (vals cs) H') := by
  unfold callO at q
  cases ht : takeO as (slots cs) with
  | none => rw [ht] at q; exact q.elim
  | some z =>
    rw [ht] at q
    simp only at q
    obtain ⟨A, R, i1, i2, i3, i4, i5, i6, i7⟩ := take_ok as xs cs z.1 z.2 hr hp ht
    refine ⟨G, A, i5.left.vs i7, i2, i7, ?_⟩
    rw [i1]
    have h0 : ∀ (i k : Nat) (t : T), (slots cs)[i]? = some (Sl.p k t) → ∃ x, (vals R)[i]? = some (some x) ∧ rt[k]? = some x := fun i k t e => by
      obtain ⟨c, hc, es⟩ := cell_at e
      have z := hr.at hc
      unfold CellR at z
      rw [es] at z
      obtain ⟨x, e1, e2, _⟩ := z
      exact ⟨x, by rw [i4, vals_at hc, e1], e2⟩
    have hp' : (kQ (vals R)).rel K G as xs := by rw [i4]; exact hp
    cases hF : F z.1 with
    | bad => rw [hF] at q; exact q.elim
    | ok t ρa =>
      rw [hF] at q
      simp only [Out.putO] at q
      intro v f cs' H' G' e1 e2 st r'
      cases hput : putO as (slots cs) ρa z.2 with
      | none => rw [hput] at q; exact q.elim
      | some ρ' =>
        rw [hput] at q
        have big : RR K rt G' H' ((⟨.v t, some v, f⟩ :: cs') ++ R) := RR.frameR (A := A) (B := R) (B' := ⟨.v t, some v, f⟩ :: cs') i5 (by rw [fps_cons]; exact st) r'.rt1
        rw [← e1, ← i3] at hput
        obtain ⟨cs'', j1, j2, j3, j4⟩ := put_ok [⟨.v t, some v, f⟩] (slots cs) as xs cs' R ρ' (e2.trans i2) hp' h0 hput big
        refine q v f cs'' H' G' j1 (j2.trans i4) ?_ j3
        refine (st.frameR (A := fps R)).mem (fun x => by rw [i6 x, fps_append]) (fun x hx => ?_)
        rcases List.mem_append.mp hx with hx | hx
        · exact List.mem_append_left _ (List.mem_append_left _ hx)
        · have z := j4 x hx
          rw [fps_append] at z
          rcases List.mem_append.mp z with z | z
          · exact List.mem_append_left _ (List.mem_append_right _ z)
          · exact List.mem_append_right _ z
    | err ex ρa =>
      rw [hF] at q
      simp only [Out.putO] at q
      intro cls d cs' H' G' e1 e2 st r' hx
      cases hput : putO as (slots cs) ρa z.2 with
      | none => rw [hput] at q; exact q.elim
      | some ρ' =>
        rw [hput] at q
        have big : RR K rt G' H' (cs' ++ R) := RR.frameR (A := A) (B := R) (B' := cs') i5 st r'.rt1
        rw [← e1, ← i3] at hput
        obtain ⟨cs'', j1, j2, j3, j4⟩ := put_ok [] (slots cs) as xs cs' R ρ' (e2.trans i2) hp' h0 hput big
        show W cls d (vals cs) H'
        refine q cls d cs'' H' G' j1 (j2.trans i4) ?_ j3 hx
        refine (st.frameR (A := fps R)).mem (fun x => by rw [i6 x, fps_append]) (fun x hx => ?_)
        have z := j4 x hx
        rw [fps_append] at z
        exact z
end
/-- values of the defaults, whatever the heap -/
def Dfl (K : PySem.W.Frag) (ds : List D) (vs : List V) : Prop := ∀ G, RpL K G ds vs
theorem Dfl.nil {K : PySem.W.Frag} : Dfl K [] [] := fun _ => by simp only [RpL]
theorem kQ_app {K : PySem.W.Frag} {G : Hp} {σ : L2.St} {as : List AV} {xs : List V} {ds : List D} {vs : List V} (h : (kQ σ).rel K G as xs) (hd : RpL K G ds vs) : (kQ σ).rel K G (as ++ ds.map .d) (xs ++ vs) := by
  induction as generalizing xs with
  | nil =>
    cases h
    induction ds generalizing vs with
    | nil =>
      simp only [RpL] at hd
      subst hd
      exact .nil
    | cons d ds ih =>
      simp only [RpL] at hd
      obtain ⟨x, r, rfl, h1, h2⟩ := hd
      exact .cons h1 (ih h2)
  | cons a as ih =>
    cases h with
    | cons h1 h2 => exact .cons h1 (ih h2)
section
variable {X : Cx} {rt : List V} {W : WX} {e a b c : Expr} {es rest : List Expr} {pos p p2 : Pos}
theorem d_call {k : Nat} {f : Addr} {fd : FuncData} {ps : List Str} {F : M T} {dvs : List V} {dds : List D} {ds : List Value} {x : Str} {ms : M (List AV)} (tk : L2.Takes X W) (Fn : FnOk X.prog X.w X.K X.mg X.base (L2.CX X.prog X.w) k f fd ps (spOf X.K F)) (hr : Room k X.A) (hg : Gl X x) (hm : X.mg x = some (.ref f)) (hk : PySem.W.keepIn X.K (.ref f) = true)
    (hb : Binds X.K fd ps ds) (hd : Vals dvs ds) (hdd : Dfl X.K dds dvs) (ha : PQd X rt W (e :: es) ms) (hdb : (x == ("__debug__" : Str)) = false := by decide) (he : starEach (e :: es) X.env = (false, eval e X.env) :: starEach es X.env := by rfl) (hpl : (backTo pos (starEach es X.env)).any (·.1) = false := by rfl) :
    PEd X rt W (.Call (.Name x p) (e :: es) [] pos) (mCall F ms dds) := by
  obtain ⟨ta, h1, h2⟩ := ha.ex
  refine ⟨_, pe_callSD (E := fun σ => WE W σ) Fn hr hg hm hk hb hd (fun σ => L2.passAt tk σ) h1 hdb he hpl, fun H G cs Q r q => h2 H G cs _ r (PostK.seqE q fun as xs cs1 H1 G1 ev st r1 rp1 q1 => ?_)⟩
  rw [← ev] at rp1 ⊢
  exact call_ok r1 (kQ_app rp1 (hdd G1)) q1
end
end PD

set_option Elab.async false
set_option linter.all false
set_option maxRecDepth 100000
set_option maxHeartbeats 2000000
/-! PD: statements; a def keeps the promise of its denotation. -/
namespace PD
open PySem PySem.Spec PyProof.Rows L2
section
variable (K : PySem.W.Frag) (rt : List V) (W : WX)
def PostSt (H G : Hp) (cs : List Cell) (o : SOut) (D : Ends) : Prop := match o with
  | .nx ρ' => ∀ cs' H' G', slots cs' = ρ' → Stp H G (fps cs) H' G' (fps cs') → RR K rt G' H' cs' → D.nx (vals cs') H'
  | .bk ρ' => ∀ cs' H' G', slots cs' = ρ' → Stp H G (fps cs) H' G' (fps cs') → RR K rt G' H' cs' → D.bk (vals cs') H'
  | .ct ρ' => ∀ cs' H' G', slots cs' = ρ' → Stp H G (fps cs) H' G' (fps cs') → RR K rt G' H' cs' → D.ct (vals cs') H'
  | .rt t ρ' => ∀ v f cs' H' G', slots cs' = ρ' → Stp H G (fps cs) H' G' (f ++ fps cs') → RR K rt G' H' (⟨.v t, some v, f⟩ :: cs') → D.rt v H'
  | .err x ρ' => ∀ cls d cs' H' G', slots cs' = ρ' → Stp H G (fps cs) H' G' (fps cs') → RR K rt G' H' cs' → XR K G' H' x cls d → W cls d (vals cs') H'
  | .bad => False
end
structure PSd (X : Cx) (rt : List V) (W : WX) (s : Stmt) (m : MS) : Prop where
  ex : ∃ ts, PS X s ts ∧ ∀ H G cs D, RR X.K rt G H cs → PostSt X.K rt W H G cs (m (slots cs)) D → ts D (vals cs) H
structure PSsd (X : Cx) (rt : List V) (W : WX) (s : List Stmt) (m : MS) : Prop where
  ex : ∃ ts, PSs X s ts ∧ ∀ H G cs D, RR X.K rt G H cs → PostSt X.K rt W H G cs (m (slots cs)) D → ts D (vals cs) H
section
variable {K : PySem.W.Frag} {rt : List V} {W : WX} {H G H1 G1 : Hp} {cs cs1 : List Cell} {D : Ends} {α β : Type} {k : Knd α β}
theorem PostSt.step {o : SOut} (s : Stp H G (fps cs) H1 G1 (fps cs1)) (h : PostSt K rt W H G cs o D) : PostSt K rt W H1 G1 cs1 o D := by
  cases o with
  | nx ρ' => exact fun cs' H' G' h1 h3 h4 => h cs' H' G' h1 (s.trans h3) h4
  | bk ρ' => exact fun cs' H' G' h1 h3 h4 => h cs' H' G' h1 (s.trans h3) h4
  | ct ρ' => exact fun cs' H' G' h1 h3 h4 => h cs' H' G' h1 (s.trans h3) h4
  | rt t ρ' => exact fun v f cs' H' G' h1 h3 h4 => h v f cs' H' G' h1 (s.trans h3) h4
  | err x ρ' => exact fun cls d cs' H' G' h1 h3 h4 h5 => h cls d cs' H' G' h1 (s.trans h3) h4 h5
  | bad => exact h
theorem PostK.seqS {o : Out α} {f : α → MS} {Q1 : β → Hp → Prop} (h : PostSt K rt W H G cs (o.bindS f) D)
    (kk : ∀ a b cs' H' G', vals cs' = vals cs → Stp H G (fps cs) H' G' (fps cs') → RR K rt G' H' cs' → k.rel K G' a b → PostSt K rt W H' G' cs' (f a (slots cs')) D → Q1 b H') : PostK K rt W k H G cs o Q1 := by
  cases o with
  | ok a ρ' => exact fun b cs' H' G' h1 h2 h3 h4 h5 => kk a b cs' H' G' h2 h3 h4 h5 (by
      have h' : PostSt K rt W H G cs (f a ρ') D := h
      rw [← h1] at h'
      exact h'.step h3)
  | err x ρ' =>
    intro cls d cs' H' G' h1 h2 h3 h4 h5
    have h' : PostSt K rt W H G cs (.err x ρ') D := h
    rw [← h2]
    exact h' cls d cs' H' G' h1 h3 h4 h5
  | bad => exact h
theorem PostE.seqS {o : Out T} {f : T → MS} {Q1 : VK} (h : PostSt K rt W H G cs (o.bindS f) D)
    (kk : ∀ t v ft cs' H' G', vals cs' = vals cs → Stp H G (fps cs) H' G' (ft ++ fps cs') → RR K rt G' H' (⟨.v t, some v, ft⟩ :: cs') → PostSt K rt W H G cs (f t (slots cs')) D → Q1 v H') : PostE K rt W H G cs o Q1 := by
  cases o with
  | ok a ρ' => exact fun v ft cs' H' G' h1 h2 h3 h4 => kk a v ft cs' H' G' h2 h3 h4 (by
      have h' : PostSt K rt W H G cs (f a ρ') D := h
      rw [← h1] at h'
      exact h')
  | err x ρ' =>
    intro cls d cs' H' G' h1 h2 h3 h4 h5
    have h' : PostSt K rt W H G cs (.err x ρ') D := h
    rw [← h2]
    exact h' cls d cs' H' G' h1 h3 h4 h5
  | bad => exact h
/-- a result is dropped -/
theorem Stp.drop {F f F' : List Addr} {H' G' : Hp} (s : Stp H G F H' G' (f ++ F')) : Stp H G F H' G' F' := s.mem (fun _ => Iff.rfl) fun _ h => List.mem_append_right _ h
end
/-! ### blocks and small statements -/
def mSeq (m1 m2 : MS) : MS := fun ρ => match m1 ρ with
  | .nx ρ1 => m2 ρ1
  | o => o
def mSkip : MS := fun ρ => .nx ρ
section
variable {X : Cx} {rt : List V} {W : WX} {e a b c : Expr} {s : Stmt} {ss : List Stmt} {pos p p2 pos' : Pos}
theorem ss_nil : PSsd X rt W [] mSkip := ⟨_, pss_nil, fun H G cs D r q => q cs H G rfl Stp.refl r⟩
theorem ss_cons {m1 m2 : MS} (h1 : PSd X rt W s m1) (h2 : PSsd X rt W ss m2) : PSsd X rt W (s :: ss) (mSeq m1 m2) := by
  obtain ⟨t1, a1, a2⟩ := h1.ex
  obtain ⟨t2, b1, b2⟩ := h2.ex
  refine ⟨_, pss_cons a1 b1, fun H G cs D r q => ?_⟩
  refine a2 H G cs { D with nx := t2 D } r ?_
  unfold mSeq at q
  cases hm : m1 (slots cs) with
  | nx ρ' =>
    rw [hm] at q
    intro cs' H' G' e1 st r'
    refine b2 H' G' cs' D r' ?_
    rw [e1]
    exact PostSt.step st q
  | bk ρ' => rw [hm] at q; exact q
  | ct ρ' => rw [hm] at q; exact q
  | rt t ρ' => rw [hm] at q; exact q
  | err x ρ' => rw [hm] at q; exact q
  | bad => rw [hm] at q; exact q
theorem ss_one {m1 : MS} (h1 : PSd X rt W s m1) : PSsd X rt W [s] m1 := by
  obtain ⟨t1, a1, a2⟩ := h1.ex
  exact ⟨_, pss_one a1, a2⟩
theorem st_pass : PSd X rt W (.Pass pos) mSkip := ⟨_, ps_pass, fun H G cs D r q => q cs H G rfl Stp.refl r⟩
theorem st_break : PSd X rt W (.Break pos) (fun ρ => .bk ρ) := ⟨_, ps_break, fun H G cs D r q => q cs H G rfl Stp.refl r⟩
theorem st_continue : PSd X rt W (.Continue pos) (fun ρ => .ct ρ) := ⟨_, ps_continue, fun H G cs D r q => q cs H G rfl Stp.refl r⟩
def mExpr (m : M T) : MS := fun ρ => (m ρ).bindS fun _ => mSkip
theorem st_expr {m : M T} (h : PEd X rt W e m) (hs : swapsWith e none pos.line X.env = pure false := by rfl) : PSd X rt W (.Expr e pos) (mExpr m) := by
  obtain ⟨te, h1, h2⟩ := h.ex
  refine ⟨_, ps_expr h1 hs, fun H G cs D r q => h2 H G cs _ r (PostE.seqS q fun t v f cs' H' G' ev st r' q' => ?_)⟩
  show D.nx (vals cs) H'
  rw [← ev]
  exact q' cs' H' G' rfl st.drop r'.tail
def mRet (m : M T) : MS := fun ρ => (m ρ).bindS fun t ρ' => .rt t ρ'
theorem st_ret {m : M T} (h : PEd X rt W e m) : PSd X rt W (.Return (some e) pos) (mRet m) := by
  obtain ⟨te, h1, h2⟩ := h.ex
  exact ⟨_, ps_ret h1, fun H G cs D r q => h2 H G cs _ r (PostE.seqS q fun t v f cs' H' G' ev st r' q' => q' v f cs' H' G' rfl st r')⟩
theorem st_retN : PSd X rt W (.Return none pos) (fun ρ => .rt (.sh .non) ρ) := ⟨_, ps_retN, fun H G cs D r q => q .non [] cs H G rfl Stp.refl (r.shareI (by simp only [Rp]))⟩
def mIfS (mt : M Bool) (m1 m2 : MS) : MS := fun ρ => (mt ρ).bindS fun k => if k = true then m1 else m2
theorem st_if {mt : M Bool} {m1 m2 : MS} {s1 s2 : List Stmt} (hc : PTd X rt W c mt) (ha : PSsd X rt W s1 m1) (hb : PSsd X rt W s2 m2) : PSd X rt W (.If c s1 s2 pos) (mIfS mt m1 m2) := by
  obtain ⟨tc, c1, c2⟩ := hc.ex
  obtain ⟨ta, a1, a2⟩ := ha.ex
  obtain ⟨tb, b1, b2⟩ := hb.ex
  refine ⟨_, ps_if c1 a1 b1, fun H G cs D r q => c2 H G cs _ r (PostK.seqS q fun k k' cs1 H1 G1 ev st r1 rp1 q1 => ?_)⟩
  have ek : k = k' := rp1
  subst ek
  cases k with
  | true =>
    show ta D (vals cs) H1
    rw [← ev]
    exact a2 H1 G1 cs1 D r1 q1
  | false =>
    show tb D (vals cs) H1
    rw [← ev]
    exact b2 H1 G1 cs1 D r1 q1
/-! ### x = e -/
def setV (i : Nat) (t : T) (ρ : List Sl) : Option (List Sl) := match ρ[i]? with
  | some (.p _ _) => none
  | some _ => some (ρ.set i (.v t))
  | none => none
def nxO : Option (List Sl) → SOut
  | some ρ => .nx ρ
  | none => .bad
def mSet (i : Nat) (m : M T) : MS := fun ρ => (m ρ).bindS fun t ρ' => nxO (setV i t ρ')
theorem setV_ok {K : PySem.W.Frag} {G H : Hp} {t : T} {v : V} {f : List Addr} {cs : List Cell} {i : Nat} {ρ' : List Sl} (h : RR K rt G H (⟨.v t, some v, f⟩ :: cs)) (e : setV i t (slots cs) = some ρ') :
    slots (cs.set i ⟨.v t, some v, f⟩) = ρ' ∧ vals (cs.set i ⟨.v t, some v, f⟩) = (vals cs).set i (some v) ∧ RR K rt G H (cs.set i ⟨.v t, some v, f⟩) ∧ ∀ a, a ∈ fps (cs.set i ⟨.v t, some v, f⟩) → a ∈ f ++ fps cs := by
  unfold setV at e
  cases hi : (slots cs)[i]? with
  | none => rw [hi] at e; cases e
  | some s =>
    obtain ⟨d, hd, es⟩ := cell_at hi
    have e' : ρ' = (slots cs).set i (.v t) := by
      rw [hi] at e
      cases s with
      | p k t => cases e
      | un => exact (Option.some.inj e).symm
      | v t' => exact (Option.some.inj e).symm
    exact ⟨by rw [slots_set, e'], vals_set, h.unhide hd, fun a ha => fps_unhide hd a ha⟩
theorem st_set {i : Nat} {x : Str} {m : M T} (hN : X.N.Nodup) (hi : X.N[i]? = some x) (hx : Loc X.env.scope x) (h : PEd X rt W e m) (hs : swapsWith e (some (.Name x pos')) pos.line X.env = pure false := by rfl) (hf : X.fn x = true ∨ X.env.scope.names.lookup x = some .local := by first | exact .inl rfl | exact .inr rfl | assumption) :
    PSd X rt W (.Assign [.Name x pos'] e pos) (mSet i m) := by
  obtain ⟨te, h1, h2⟩ := h.ex
  refine ⟨_, ps_set hN hi hx h1 hs hf, fun H G cs D r q => h2 H G cs _ r (PostE.seqS q fun t v f cs' H' G' ev st r' q' => ?_)⟩
  cases hsv : setV i t (slots cs') with
  | none => rw [hsv] at q'; exact q'.elim
  | some ρ' =>
    rw [hsv] at q'
    obtain ⟨j1, j2, j3, j4⟩ := setV_ok r' hsv
    have z := q' _ H' G' j1 (st.mem (fun _ => Iff.rfl) (fun a ha => j4 a ha)) j3
    rw [j2, ev] at z
    exact z
/-! ### targets -/
structure PGd (X : Cx) (rt : List V) (tg : Expr) (g : D → List Sl → Option (List Sl)) : Prop where
  ex : ∃ t, PG X tg t ∧ ∀ H G cs d v Q ρ', RR X.K rt G H cs → Rp X.K G d v → g d (slots cs) = some ρ' → (∀ cs', slots cs' = ρ' → RR X.K rt G H cs' → (∀ a, a ∈ fps cs' → a ∈ fps cs) → Q (vals cs') H) → t v (vals cs) H Q
structure PGsd (X : Cx) (rt : List V) (tgs : List Expr) (g : List D → List Sl → Option (List Sl)) : Prop where
  ex : ∃ t, PGs X tgs t ∧ ∀ H G cs ds vs Q ρ', RR X.K rt G H cs → RpL X.K G ds vs → g ds (slots cs) = some ρ' → (∀ cs', slots cs' = ρ' → RR X.K rt G H cs' → (∀ a, a ∈ fps cs' → a ∈ fps cs) → Q (vals cs') H) → t vs (vals cs) H Q
def tgN (i : Nat) : D → List Sl → Option (List Sl) := fun d ρ => setV i (.sh d) ρ
def tgT (g : List D → List Sl → Option (List Sl)) (n : Nat) : D → List Sl → Option (List Sl) := fun d ρ => match d with
  | .tup ds => if ds.length = n then g ds ρ else none
  | _ => none
def tgNil : List D → List Sl → Option (List Sl) := fun ds ρ => match ds with
  | [] => some ρ
  | _ => none
def tgCons (g : D → List Sl → Option (List Sl)) (gs : List D → List Sl → Option (List Sl)) : List D → List Sl → Option (List Sl) := fun ds ρ => match ds with
  | d :: r => (g d ρ).bind fun ρ1 => gs r ρ1
  | _ => none
theorem tg_name {i : Nat} {x : Str} (hN : X.N.Nodup) (hi : X.N[i]? = some x) (hx : Loc X.env.scope x) (hf : X.fn x = true ∨ X.env.scope.names.lookup x = some .local := by first | exact .inl rfl | exact .inr rfl | assumption) : PGd X rt (.Name x p) (tgN i) := by
  refine ⟨_, pg_name hN hi hx hf, fun H G cs d v Q ρ' r rp e q => ?_⟩
  obtain ⟨j1, j2, j3, j4⟩ := setV_ok (r.shareI rp) e
  have z := q _ j1 j3 (fun a ha => by simpa using j4 a ha)
  rw [j2] at z
  exact z
theorem tg_nil : PGsd X rt [] tgNil := by
  refine ⟨_, pgs_nil, fun H G cs ds vs Q ρ' r rp e q => ?_⟩
  unfold tgNil at e
  cases ds with
  | nil =>
    simp only [RpL] at rp
    cases e
    exact ⟨rp, q cs rfl r fun a h => h⟩
  | cons d ds => cases e
theorem tg_cons {es : List Expr} {g : D → List Sl → Option (List Sl)} {gs : List D → List Sl → Option (List Sl)} (h1 : PGd X rt e g) (h2 : PGsd X rt es gs) (hs : (assignEach (e :: es) X.env).map (·.2) = assign e X.env :: (assignEach es X.env).map (·.2) := by rfl) :
    PGsd X rt (e :: es) (tgCons g gs) := by
  obtain ⟨t1, a1, a2⟩ := h1.ex
  obtain ⟨t2, b1, b2⟩ := h2.ex
  refine ⟨_, pgs_cons a1 b1 hs, fun H G cs ds vs Q ρ' r rp e q => ?_⟩
  cases ds with
  | nil => cases e
  | cons d ds =>
    simp only [RpL] at rp
    obtain ⟨x, rr, rfl, h3, h4⟩ := rp
    simp only [tgCons, Option.bind_eq_some_iff] at e
    obtain ⟨ρ1, e1, e2⟩ := e
    refine ⟨x, rr, rfl, a2 H G cs d x _ ρ1 r h3 e1 fun cs1 j1 j2 j3 => ?_⟩
    refine b2 H G cs1 ds rr _ ρ' j2 h4 (by rw [j1]; exact e2) fun cs2 k1 k2 k3 => q cs2 k1 k2 fun a ha => j3 a (k3 a ha)
theorem tg_tup {es : List Expr} {k n : Nat} {gs : List D → List Sl → Option (List Sl)} (hc : X.calm = true) (h : PGsd X rt es gs) (hn : (assignEach es X.env).length = n := by rfl) (hst : (assignEach es X.env).findIdx? (·.1) = none := by rfl) : PGd X rt (.Tuple es k p) (tgT gs n) := by
  obtain ⟨t2, b1, b2⟩ := h.ex
  refine ⟨_, pg_tup hc b1 hn hst, fun H G cs d v Q ρ' r rp e q => ?_⟩
  cases d with
  | tup ds =>
    simp only [tgT] at e
    split at e
    · rename_i hl
      simp only [Rp] at rp
      obtain ⟨ad, xs, rfl, h2, h3⟩ := rp
      exact ⟨ad, xs, rfl, r.sub.tup h2, by rw [← h3.length]; exact hl, b2 H G cs ds xs Q ρ' r h3 e q⟩
    · cases e
  | _ => cases e
/-- target = e, e shared -/
def mAsg (g : D → List Sl → Option (List Sl)) (m : M D) : MS := fun ρ => (m ρ).bindS fun d ρ' => nxO (g d ρ')
theorem st_asg {tg : Expr} {g : D → List Sl → Option (List Sl)} {m : M D} (h : PEs X rt W e m) (hg : PGd X rt tg g) (hs : swapsWithSole [tg] e pos.line X.env = pure false := by rfl) (hw : swappedStores [tg] e X.env = pure none := by rfl)
    (h1 : (assignEach [tg] X.env).map (·.2) = [assign tg X.env] := by rfl) : PSd X rt W (.Assign [tg] e pos) (mAsg g m) := by
  obtain ⟨te, a1, a2⟩ := h.ex
  obtain ⟨tg', b1, b2⟩ := hg.ex
  refine ⟨_, ps_asg a1 b1 hs hw h1, fun H G cs D r q => a2 H G cs _ r (PostK.seqS q fun d v cs1 H1 G1 ev st r1 rp1 q1 => ?_)⟩
  show tg' v (vals cs) H1 _
  rw [← ev]
  cases hgd : g d (slots cs1) with
  | none => rw [hgd] at q1; exact q1.elim
  | some ρ' =>
    rw [hgd] at q1
    exact b2 H1 G1 cs1 d v _ ρ' r1 rp1 hgd fun cs2 j1 j2 j3 => q1 cs2 H1 G1 j1 (Stp.refl.mem (fun _ => Iff.rfl) j3) j2
/-- x op= e, both shared -/
def mAug (i : Nat) (f : D → D → Option T) (m : M D) : MS := fun ρ => match ρ[i]? with
  | some (.v (.sh d0)) => (m ρ).bindS fun d ρ' => match f d0 d with
    | some t => nxO (setV i t ρ')
    | none => .bad
  | _ => .bad
theorem st_aug {i : Nat} {x : Str} {op : Operator} {r : R2} {f : D → D → Option T} {m : M D} (ho : OpR X (inplaceOp op) r) (hf : OpT X.K r f) (hN : X.N.Nodup) (hi : X.N[i]? = some x) (hx : Loc X.env.scope x) (h : PEs X rt W e m)
    (hfn : X.fn x = true ∨ X.env.scope.names.lookup x = some .local := by first | exact .inl rfl | exact .inr rfl | assumption) : PSd X rt W (.AugAssign (.Name x pos') op e pos) (mAug i f m) := by
  obtain ⟨te, a1, a2⟩ := h.ex
  refine ⟨_, ps_aug hN hi hx a1 ho hfn, fun H G cs D rr q => ?_⟩
  unfold mAug at q
  cases hsl : (slots cs)[i]? with
  | none => rw [hsl] at q; exact q.elim
  | some s =>
    rw [hsl] at q
    obtain ⟨c, hc, es⟩ := cell_at hsl
    cases s with
    | un => exact q.elim
    | p k t => exact q.elim
    | v t =>
      cases t with
      | sh d0 =>
        have z := rr.at hc
        unfold CellR at z
        rw [es] at z
        obtain ⟨y, ey, hy⟩ := z
        simp only [RT] at hy
        refine ⟨y, by rw [vals_at hc, ey], ?_⟩
        refine a2 H G cs _ rr (PostK.seqS q fun d v cs1 H1 G1 ev st r1 rp1 q1 => ?_)
        cases hft : f d0 d with
        | none => simp only [hft] at q1; exact q1.elim
        | some t =>
          simp only [hft] at q1
          refine hf y v d0 d t G1 H1 _ r1.sub (Rp.mono st.ext d0 y hy.1) rp1 hft fun u fu H2 G2 st2 r2 => ?_
          have r3 : RR X.K rt G2 H2 (cs1 ++ [⟨.v t, some u, fu⟩]) := RR.frame (A := cs1) (B := []) (by rw [List.append_nil]; exact r1) (st2.mem (fun x => by simp [fps]) (fun x hx => by simpa [fps] using hx)) r2.rt0
          have r4 : RR X.K rt G2 H2 (⟨.v t, some u, fu⟩ :: cs1) := r3.perm (List.perm_append_comm (l₂ := ([⟨.v t, some u, fu⟩] : List Cell)))
          have st4 : Stp H1 G1 (fps cs1) H2 G2 (fu ++ fps cs1) := (st2.frame (A := fps cs1)).mem (fun x => by simp) (fun x hx => by simpa [or_comm] using hx)
          cases hsv : setV i t (slots cs1) with
          | none => rw [hsv] at q1; exact q1.elim
          | some ρ' =>
            rw [hsv] at q1
            obtain ⟨j1, j2, j3, j4⟩ := setV_ok r4 hsv
            have z := q1 _ H2 G2 j1 (st4.mem (fun _ => Iff.rfl) (fun a ha => j4 a ha)) j3
            rw [j2, ev] at z
            exact z
      | _ => exact q.elim
end
end PD

set_option Elab.async false
set_option linter.all false
set_option maxRecDepth 100000
set_option maxHeartbeats 2000000
/-! PD: a def keeps the promise of its denotation; lists changed in place; for. -/
namespace PD
open PySem PySem.Spec PyProof.Rows L2
/-! ### a def -/
def startS : Nat → List Bool → List Sl → Option (List Sl)
  | _, [], [] => some []
  | k, true :: os, .v t :: ρ => (startS (k + 1) os ρ).map (.p k t :: ·)
  | k, false :: os, .v (.sh d) :: ρ => (startS (k + 1) os ρ).map (.v (.sh d) :: ·)
  | _, _, _ => none
def finS : Nat → List Bool → List Sl → List Sl → Option (List Sl)
  | _, [], [], _ => some []
  | k, true :: os, _ :: ρ, .p k' t :: ρ' => if k' = k then (finS (k + 1) os ρ ρ').map (.v t :: ·) else none
  | k, false :: os, s :: ρ, _ :: ρ' => (finS (k + 1) os ρ ρ').map (s :: ·)
  | _, _, _, _ => none
/-- a def's denotation over its arguments' slots: own: which parameters are lent; n: the number of its names -/
def runF (own : List Bool) (n : Nat) (m : MS) : M T := fun ρ => match startS 0 own ρ with
  | some ρ1 => (match m (ρ1 ++ List.replicate (n - own.length) .un) with
    | .rt t ρ' => (match finS 0 own ρ ρ' with
      | some ρ2 => .ok t ρ2
      | none => .bad)
    | .nx ρ' => (match finS 0 own ρ ρ' with
      | some ρ2 => .ok (.sh .non) ρ2
      | none => .bad)
    | .err x ρ' => (match finS 0 own ρ ρ' with
      | some ρ2 => .err x ρ2
      | none => .bad)
    | _ => .bad)
  | none => .bad
section
variable {K : PySem.W.Frag} {rt : List V} {G H G' H' : Hp}
theorem startS_len : ∀ {k : Nat} {own : List Bool} {ρ ρ1 : List Sl}, startS k own ρ = some ρ1 → ρ.length = own.length ∧ ρ1.length = own.length
  | k, [], [], ρ1, e => by cases e; exact ⟨rfl, rfl⟩
  | k, [], _ :: _, ρ1, e => by cases e
  | k, true :: os, [], ρ1, e => by cases e
  | k, false :: os, [], ρ1, e => by cases e
  | k, true :: os, .un :: ρ, ρ1, e => by cases e
  | k, true :: os, .p _ _ :: ρ, ρ1, e => by cases e
  | k, true :: os, .v t :: ρ, ρ1, e => by
    simp only [startS, Option.map_eq_some_iff] at e
    obtain ⟨z, e1, rfl⟩ := e
    obtain ⟨h1, h2⟩ := startS_len e1
    simp [h1, h2]
  | k, false :: os, .un :: ρ, ρ1, e => by cases e
  | k, false :: os, .p _ _ :: ρ, ρ1, e => by cases e
  | k, false :: os, .v (.sh d) :: ρ, ρ1, e => by
    simp only [startS, Option.map_eq_some_iff] at e
    obtain ⟨z, e1, rfl⟩ := e
    obtain ⟨h1, h2⟩ := startS_len e1
    simp [h1, h2]
  | k, false :: os, .v (.lst _) :: ρ, ρ1, e => by cases e
  | k, false :: os, .v (.tup _) :: ρ, ρ1, e => by cases e
  | k, false :: os, .v (.dct _ _) :: ρ, ρ1, e => by cases e
  | k, false :: os, .v (.ins _ _ _) :: ρ, ρ1, e => by cases e
/-- the cells at the start -/
theorem start_cells : ∀ (k : Nat) (own : List Bool) (cs : List Cell) (ρ1 : List Sl) (vs : List V), startS k own (slots cs) = some ρ1 → vals cs = (rt.drop k).map some → (∀ c ∈ cs, CellR K [] G H c) →
    ∃ cs1, slots cs1 = ρ1 ∧ vals cs1 = vals cs ∧ fps cs1 = fps cs ∧ ∀ c ∈ cs1, CellR K rt G H c
  | k, [], [], ρ1, vs, e, _, _ => by cases e; exact ⟨[], rfl, rfl, rfl, fun c hc => by cases hc⟩
  | k, [], _ :: _, ρ1, vs, e, _, _ => by cases e
  | k, true :: os, [], ρ1, vs, e, _, _ => by cases e
  | k, false :: os, [], ρ1, vs, e, _, _ => by cases e
  | k, o :: os, c :: cs, ρ1, vs, e, hv, hc => by
    obtain ⟨s, ov, f⟩ := c
    simp only [vals, List.map_cons] at hv
    cases hrt : rt.drop k with
    | nil => rw [hrt] at hv; cases hv
    | cons x r =>
      rw [hrt] at hv
      simp only [List.map_cons, List.cons.injEq] at hv
      obtain ⟨hx, hv⟩ := hv
      have hk : rt[k]? = some x := by
        have := congrArg (·[0]?) hrt
        simpa using this
      have hr : rt.drop (k + 1) = r := by
        have := congrArg List.tail hrt
        simpa using this
      cases o with
      | true =>
        cases s with
        | un => cases e
        | p _ _ => cases e
        | v t =>
          simp only [slots, List.map_cons, startS, Option.map_eq_some_iff] at e
          obtain ⟨z, e1, rfl⟩ := e
          obtain ⟨cs1, i1, i2, i3, i4⟩ := start_cells (k + 1) os cs z vs e1 (by rw [hr]; exact hv) fun c h => hc c (List.mem_cons_of_mem _ h)
          refine ⟨⟨.p k t, ov, f⟩ :: cs1, by simp [slots, ← i1], by simp only [vals, List.map_cons] at i2 ⊢; rw [i2], by rw [fps_cons, fps_cons, i3], fun c h => ?_⟩
          rcases List.mem_cons.mp h with rfl | h
          · obtain ⟨y, ey, hy⟩ := hc _ List.mem_cons_self
            have ey' : ov = some y := ey
            subst ey'
            exact ⟨y, rfl, by rw [hk, Option.some.inj hx], hy⟩
          · exact i4 c h
      | false =>
        cases s with
        | un => cases e
        | p _ _ => cases e
        | v t =>
          cases t with
          | sh d =>
            simp only [slots, List.map_cons, startS, Option.map_eq_some_iff] at e
            obtain ⟨z, e1, rfl⟩ := e
            obtain ⟨cs1, i1, i2, i3, i4⟩ := start_cells (k + 1) os cs z vs e1 (by rw [hr]; exact hv) fun c h => hc c (List.mem_cons_of_mem _ h)
            refine ⟨⟨.v (.sh d), ov, f⟩ :: cs1, by simp [slots, ← i1], by simp only [vals, List.map_cons] at i2 ⊢; rw [i2], by rw [fps_cons, fps_cons, i3], fun c h => ?_⟩
            rcases List.mem_cons.mp h with rfl | h
            · exact (hc _ List.mem_cons_self)
            · exact i4 c h
          | _ => cases e
/-- the arguments' cells at the end -/
theorem fin_cells : ∀ (k : Nat) (own : List Bool) (cs cs' : List Cell) (ρ2 : List Sl), finS k own (slots cs) (slots cs') = some ρ2 → vals cs = (rt.drop k).map some →
    (∀ (j : Nat) (c : Cell), own[j]? = some false → cs[j]? = some c → CellR K [] G' H' c ∧ c.fp = []) → (∀ c ∈ cs', CellR K rt G' H' c) →
    ∃ cs2, slots cs2 = ρ2 ∧ vals cs2 = vals cs ∧ List.Sublist (fps cs2) (fps cs') ∧ ∀ c ∈ cs2, CellR K [] G' H' c
  | k, [], [], cs', ρ2, e, _, _, _ => by cases e; exact ⟨[], rfl, rfl, List.nil_sublist _, fun c hc => by cases hc⟩
  | k, [], _ :: _, cs', ρ2, e, _, _, _ => by cases e
  | k, true :: os, [], cs', ρ2, e, _, _, _ => by cases e
  | k, false :: os, [], cs', ρ2, e, _, _, _ => by cases e
  | k, true :: os, _ :: _, [], ρ2, e, _, _, _ => by cases e
  | k, false :: os, _ :: _, [], ρ2, e, _, _, _ => by cases e
  | k, o :: os, c :: cs, d :: cs', ρ2, e, hv, hs, hc => by
    simp only [vals, List.map_cons] at hv
    cases hrt : rt.drop k with
    | nil => rw [hrt] at hv; cases hv
    | cons x r =>
      rw [hrt] at hv
      simp only [List.map_cons, List.cons.injEq] at hv
      obtain ⟨hx, hv⟩ := hv
      have hk : rt[k]? = some x := by
        have := congrArg (·[0]?) hrt
        simpa using this
      have hr : rt.drop (k + 1) = r := by
        have := congrArg List.tail hrt
        simpa using this
      have ih := fun z e1 => fin_cells (k + 1) os cs cs' z e1 (by rw [hr]; exact hv) (fun j c h1 h2 => hs (j + 1) c (by simpa using h1) (by simpa using h2)) fun c h => hc c (List.mem_cons_of_mem _ h)
      cases o with
      | true =>
        obtain ⟨ds, dv, df⟩ := d
        cases ds with
        | un => cases e
        | v _ => cases e
        | p k' t =>
          simp only [slots, List.map_cons, finS] at e
          split at e
          · rename_i hkk
            subst hkk
            simp only [Option.map_eq_some_iff] at e
            obtain ⟨z, e1, rfl⟩ := e
            obtain ⟨cs2, i1, i2, i3, i4⟩ := ih z e1
            obtain ⟨y, ey, ey2, hy⟩ := hc _ List.mem_cons_self
            have exy : x = y := by
              rw [hk] at ey2
              exact Option.some.inj ey2
            subst exy
            refine ⟨⟨.v t, some x, df⟩ :: cs2, by simp [slots, ← i1], by simp only [vals, List.map_cons] at i2 ⊢; rw [i2, hx], ?_, fun c h => ?_⟩
            · rw [fps_cons, fps_cons]
              exact (List.Sublist.refl _).append i3
            · rcases List.mem_cons.mp h with rfl | h
              · exact ⟨x, rfl, hy⟩
              · exact i4 c h
          · cases e
      | false =>
        have e' : ∃ z, finS (k + 1) os (slots cs) (slots cs') = some z ∧ c.s :: z = ρ2 := by
          cases hd : d.s <;> (simp only [slots, List.map_cons, hd, finS, Option.map_eq_some_iff] at e; exact e)
        obtain ⟨z, e1, rfl⟩ := e'
        obtain ⟨cs2, i1, i2, i3, i4⟩ := ih z e1
        obtain ⟨hc0, hf0⟩ := hs 0 c (by simp) (by simp)
        refine ⟨c :: cs2, by simp [slots, ← i1], by simp only [vals, List.map_cons] at i2 ⊢; rw [i2], ?_, fun c' h => ?_⟩
        · rw [fps_cons, fps_cons, hf0]
          exact (List.nil_append _).symm ▸ i3.trans (List.sublist_append_right _ _)
        · rcases List.mem_cons.mp h with rfl | h
          · exact hc0
          · exact i4 c' h
theorem start_false : ∀ {k : Nat} {own : List Bool} {cs : List Cell} {ρ1 : List Sl} {j : Nat} {c : Cell}, startS k own (slots cs) = some ρ1 → own[j]? = some false → cs[j]? = some c → ∃ d, c.s = .v (.sh d)
  | k, [], [], ρ1, j, c, e, h1, h2 => by simp at h1
  | k, [], _ :: _, ρ1, j, c, e, h1, h2 => by cases e
  | k, true :: os, [], ρ1, j, c, e, h1, h2 => by cases e
  | k, false :: os, [], ρ1, j, c, e, h1, h2 => by cases e
  | k, o :: os, d :: cs, ρ1, 0, c, e, h1, h2 => by
    simp at h1 h2
    subst h1 h2
    obtain ⟨s, ov, f⟩ := d
    cases s with
    | un => cases e
    | p _ _ => cases e
    | v t =>
      cases t with
      | sh d => exact ⟨d, rfl⟩
      | _ => cases e
  | k, o :: os, d :: cs, ρ1, j + 1, c, e, h1, h2 => by
    have : ∃ z, startS (k + 1) os (slots cs) = some z := by
      obtain ⟨s, ov, f⟩ := d
      cases o with
      | true =>
        cases s with
        | un => cases e
        | p _ _ => cases e
        | v t =>
          simp only [slots, List.map_cons, startS, Option.map_eq_some_iff] at e
          obtain ⟨z, e1, _⟩ := e
          exact ⟨z, e1⟩
      | false =>
        cases s with
        | un => cases e
        | p _ _ => cases e
        | v t =>
          cases t with
          | sh d =>
            simp only [slots, List.map_cons, startS, Option.map_eq_some_iff] at e
            obtain ⟨z, e1, _⟩ := e
            exact ⟨z, e1⟩
          | _ => cases e
    obtain ⟨z, e1⟩ := this
    exact start_false e1 (by simpa using h1) (by simpa using h2)
end
section
variable {P : Program} {w : World} {K : PySem.W.Frag} {mg : Str → Option Value} {base : Heap} {x qual : Str} {params : Arguments} {body : List Stmt} {scope : Scope} {dvs : List V} {kws : List (Str × V)} {f : Addr} {fd : FuncData}
theorem runF_len {own : List Bool} {n : Nat} {m : MS} {ρ : List Sl} (h : ρ.length ≠ own.length) : runF own n m ρ = .bad := by
  unfold runF
  cases e : startS 0 own ρ with
  | none => rfl
  | some ρ1 => exact absurd (startS_len e).1 h
theorem runF_vlen {n : Nat} {own : List Bool} {m : MS} {vs : List V} {H : Hp} {Q : VK} {E : XK} (h : spOf K (runF own n m) vs H Q E) : vs.length = own.length := by
  obtain ⟨G, cs, r, hv, _, q⟩ := h
  by_cases z : (slots cs).length = own.length
  · have e1 : (slots cs).length = vs.length := by
      have := congrArg List.length hv
      simpa [slots, vals] using this
    omega
  · rw [runF_len z] at q
    exact q.elim
theorem runF_core {X : Cx} {N : List Str} {own : List Bool} {m : MS} {vs : List V} {H : Hp} {Q : VK} {E : XK} (hb : PSsd X vs (WE0 E) body m) (h : spOf X.K (runF own N.length m) vs H Q E) :
    ∃ t, PSs X body t ∧ t { nx := fun _ H' => Q .non H', rt := Q } (L2.start N vs) H := by
  obtain ⟨G, cs, r, hv, ht, q⟩ := h
  obtain ⟨t, h1, h2⟩ := hb.ex
  refine ⟨t, h1, ?_⟩
  unfold runF at q
  cases hst : startS 0 own (slots cs) with
  | none => rw [hst] at q; exact q.elim
  | some ρ1 =>
    simp only [hst] at q
    obtain ⟨l1, l2⟩ := startS_len hst
    have lv : vs.length = own.length := by
      have := congrArg List.length hv
      rw [← l1]
      simpa [slots, vals] using this.symm
    obtain ⟨cs1, i1, i2, i3, i4⟩ := start_cells (rt := vs) 0 own cs ρ1 vs hst (by simpa using hv) r.cell
    have rs : RR X.K vs G H (cs1 ++ List.replicate (N.length - own.length) ⟨.un, none, []⟩) := by
      have fr : fps (List.replicate (N.length - own.length) (⟨.un, none, []⟩ : Cell)) = [] := by
        rw [List.eq_nil_iff_forall_not_mem]
        intro a ha
        obtain ⟨c, hc, ha⟩ := mem_fps.mp ha
        rw [(List.mem_replicate.mp hc).2] at ha
        cases ha
      refine ⟨fun c hc => ?_, by rw [fps_append, fr, List.append_nil, i3]; exact r.nd, fun a ha => r.out a (by rw [fps_append, fr, List.append_nil, i3] at ha; exact ha), r.sub⟩
      rcases List.mem_append.mp hc with hc | hc
      · exact i4 c hc
      · rw [(List.mem_replicate.mp hc).2]; exact rfl
    have fs : fps (cs1 ++ List.replicate (N.length - own.length) ⟨.un, none, []⟩) = fps cs := by
      rw [fps_append, i3]
      have fr : fps (List.replicate (N.length - own.length) (⟨.un, none, []⟩ : Cell)) = [] := by
        rw [List.eq_nil_iff_forall_not_mem]
        intro a ha
        obtain ⟨c, hc, ha⟩ := mem_fps.mp ha
        rw [(List.mem_replicate.mp hc).2] at ha
        cases ha
      rw [fr, List.append_nil]
    have vst : vals (cs1 ++ List.replicate (N.length - own.length) ⟨.un, none, []⟩) = L2.start N vs := by
      unfold L2.start
      have e1 : vals (cs1 ++ List.replicate (N.length - own.length) (⟨.un, none, []⟩ : Cell)) = vals cs1 ++ List.replicate (N.length - own.length) none := by simp [vals]
      rw [e1, i2, hv, lv]
    have sst : slots (cs1 ++ List.replicate (N.length - own.length) ⟨.un, none, []⟩) = ρ1 ++ List.replicate (N.length - own.length) .un := by
      have e1 : slots (cs1 ++ List.replicate (N.length - own.length) (⟨.un, none, []⟩ : Cell)) = slots cs1 ++ List.replicate (N.length - own.length) .un := by simp [slots]
      rw [e1, i1]
    rw [← vst]
    refine h2 H G _ _ rs ?_
    rw [sst]
    -- what is common to the ends
    have fin : ∀ (ρ' ρ2 : List Sl) (Z : List Cell) (cs' : List Cell) (H' G' : Hp), finS 0 own (slots cs) ρ' = some ρ2 → slots cs' = ρ' → Stp H G (fps cs) H' G' (fps Z ++ fps cs') → RR X.K vs G' H' (Z ++ cs') → (∀ c ∈ Z, CellR X.K [] G' H' c) →
        ∃ cs2, slots cs2 = ρ2 ∧ vals cs2 = vals cs ∧ Stp H G (fps cs) H' G' (fps Z ++ fps cs2) ∧ RR X.K [] G' H' (Z ++ cs2) := by
      intro ρ' ρ2 Z cs' H' G' hf e1 st r' hZ
      subst e1
      obtain ⟨cs2, j1, j2, j3, j4⟩ := fin_cells (K := X.K) (rt := vs) (G' := G') (H' := H') 0 own cs cs' ρ2 hf (by simpa using hv) (fun j c ho hc => by
        obtain ⟨d, ed⟩ := start_false hst ho hc
        have z := r.at hc
        obtain ⟨s0, o0, f0⟩ := c
        have ed' : s0 = .v (.sh d) := ed
        subst ed'
        obtain ⟨y, ey, hy⟩ := z
        simp only [RT] at hy
        exact ⟨⟨y, ey, by simp only [RT]; exact ⟨Rp.mono st.ext d y hy.1, hy.2⟩⟩, hy.2⟩) r'.right.cell
      have n := r'.nd
      rw [fps_append] at n
      obtain ⟨n1, n2, n3⟩ := List.nodup_append.mp n
      refine ⟨cs2, j1, j2, st.mem (fun _ => Iff.rfl) (fun a ha => ?_), ⟨fun c hc => ?_, ?_, fun a ha => ?_, r'.sub⟩⟩
      · rcases List.mem_append.mp ha with ha | ha
        · exact List.mem_append_left _ ha
        · exact List.mem_append_right _ (j3.subset ha)
      · rcases List.mem_append.mp hc with hc | hc
        · exact hZ c hc
        · exact j4 c hc
      · rw [fps_append]
        exact List.nodup_append.mpr ⟨n1, n2.sublist j3, fun a ha b hb e => n3 a ha b (j3.subset hb) e⟩
      · rw [fps_append] at ha
        refine r'.out a ?_
        rw [fps_append]
        rcases List.mem_append.mp ha with ha | ha
        · exact List.mem_append_left _ ha
        · exact List.mem_append_right _ (j3.subset ha)
    cases hm : m (ρ1 ++ List.replicate (N.length - own.length) .un) with
    | nx ρ' =>
      simp only [hm] at q
      cases hf : finS 0 own (slots cs) ρ' with
      | none => simp only [hf] at q; exact q.elim
      | some ρ2 =>
        simp only [hf] at q
        intro cs' H' G' e1 st r'
        rw [fs] at st
        obtain ⟨cs2, j1, j2, j3, j4⟩ := fin ρ' ρ2 [] cs' H' G' hf e1 st r' (fun c hc => by cases hc)
        exact q .non [] cs2 H' G' j1 j2 j3 (j4.shareI (by simp only [Rp]))
    | rt t ρ' =>
      simp only [hm] at q
      cases hf : finS 0 own (slots cs) ρ' with
      | none => simp only [hf] at q; exact q.elim
      | some ρ2 =>
        simp only [hf] at q
        intro v fv cs' H' G' e1 st r'
        rw [fs] at st
        have fz : fps [(⟨.v t, some v, fv⟩ : Cell)] = fv := by simp [fps]
        obtain ⟨cs2, j1, j2, j3, j4⟩ := fin ρ' ρ2 [⟨.v t, some v, fv⟩] cs' H' G' hf e1 (by rw [fz]; exact st) r' (fun c hc => by
          have e : c = ⟨.v t, some v, fv⟩ := by simpa using hc
          subst e
          exact r'.cell _ List.mem_cons_self)
        exact q v fv cs2 H' G' j1 j2 (by rw [fz] at j3; exact j3) j4
    | err ex ρ' =>
      simp only [hm] at q
      cases hf : finS 0 own (slots cs) ρ' with
      | none => simp only [hf] at q; exact q.elim
      | some ρ2 =>
        simp only [hf] at q
        intro cls d cs' H' G' e1 st r' hx
        rw [fs] at st
        obtain ⟨cs2, j1, j2, j3, j4⟩ := fin ρ' ρ2 [] cs' H' G' hf e1 st r' (fun c hc => by cases hc)
        exact q cls d cs2 H' G' j1 j2 j3 j4 hx
    | bk ρ' => simp only [hm] at q; exact q.elim
    | ct ρ' => simp only [hm] at q; exact q.elim
    | bad => simp only [hm] at q; exact q.elim
theorem okF {N ps : List Str} {k : Nat} {own : List Bool} {m : MS} (F : FunD K x qual params body scope dvs kws f fd) (S : FnScope N ps scope) (hown : own.length = ps.length)
    (hbody : ∀ (cdv : Value) (A : Around) (outer : List Env) (s : Shared) (H : Hp) (E : XK) (rt : List V), Room k (A.deeper (envOfC qual scope s.heap.objs.size f cdv)) →
      PSsd (cxOf (L2.CX P w) P w K mg base N qual scope f cdv A outer s H E) rt (WE0 E) body m) : FnOk P w K mg base (L2.CX P w) (k + 1) f fd ps (spOf K (runF own N.length m)) :=
  F.ok S (fun vs H Q E h => (runF_vlen h).trans hown) fun cdv A outer s H vs Q E hr h => runF_core (hbody cdv A outer s H E vs hr) h
end
end PD

set_option Elab.async false
set_option linter.all false
set_option maxRecDepth 100000
set_option maxHeartbeats 2000000
/-! PD: lists changed in place; for, while. -/
namespace PD
open PySem PySem.Spec PyProof.Rows L2
section
variable {K : PySem.W.Frag} {rt : List V} {G H G' H' : Hp}
theorem Stp.mut {F F' : List Addr} {a : Addr} {o : HO} (ha : a ∈ F) (hF : ∀ x, x ∈ F' → x ∈ F) : Stp H G F (upd H a o) G F' :=
  ⟨fun b u e n => by rw [upd_ne (fun z => n (by rw [z]; exact ha))]; exact e, Ext.refl _, fun x hx => .inl (hF x hx), fun b u e => .inl e⟩
theorem sub_mut {a : Addr} {o : HO} (s : Sub G H) (h : G a = none) : Sub G (upd H a o) := fun b u e => by
  have n : b ≠ a := fun z => by rw [z, h] at e; cases e
  rw [upd_ne n]
  exact s b u e
theorem RTL.app : ∀ {ts us : List T} {xs ys : List V} {f1 f2 : List Addr}, RTL K G H ts xs f1 → RTL K G H us ys f2 → RTL K G H (ts ++ us) (xs ++ ys) (f1 ++ f2)
  | [], us, xs, ys, f1, f2, h1, h2 => by
    simp only [RTL] at h1
    obtain ⟨rfl, rfl⟩ := h1
    exact h2
  | t :: ts, us, xs, ys, f1, f2, h1, h2 => by
    simp only [RTL] at h1
    obtain ⟨x, r, a1, a2, rfl, h3, h4, rfl⟩ := h1
    simp only [List.cons_append, RTL]
    exact ⟨x, r ++ ys, a1, a2 ++ f2, rfl, h3, RTL.app h4 h2, by rw [List.append_assoc]⟩
theorem RTL.one {t : T} {x : V} {f : List Addr} (h : RT K G H t x f) : RTL K G H [t] [x] f := by
  simp only [RTL]
  exact ⟨x, [], f, [], rfl, h, ⟨rfl, rfl⟩, by simp⟩
theorem RTL.set : ∀ {ts : List T} {xs : List V} {f : List Addr} (j : Nat) {t : T} {x : V} {ft : List Addr}, RTL K G H ts xs f → RT K G H t x ft → j < ts.length →
    ∃ f', RTL K G H (ts.set j t) (xs.set j x) f' ∧ ∃ f1 f2 fo, f = f1 ++ (fo ++ f2) ∧ f' = f1 ++ (ft ++ f2)
  | [], _, _, j, _, _, _, _, _, hj => by simp at hj
  | u :: ts, xs, f, 0, t, x, ft, h, ht, _ => by
    simp only [RTL] at h
    obtain ⟨y, r, f1, f2, rfl, h1, h2, rfl⟩ := h
    exact ⟨ft ++ f2, by simp only [List.set_cons_zero, RTL]; exact ⟨x, r, ft, f2, rfl, ht, h2, rfl⟩, [], f2, f1, by simp, by simp⟩
  | u :: ts, xs, f, j + 1, t, x, ft, h, ht, hj => by
    simp only [RTL] at h
    obtain ⟨y, r, f1, f2, rfl, h1, h2, rfl⟩ := h
    obtain ⟨f', h3, g1, g2, go, e1, e2⟩ := RTL.set j h2 ht (by simpa using hj)
    exact ⟨f1 ++ f', by simp only [List.set_cons_succ, RTL]; exact ⟨y, r.set j x, f1, f', rfl, h1, h3, rfl⟩, f1 ++ g1, g2, go, by rw [e1, List.append_assoc], by rw [e2, List.append_assoc]⟩
/-- the root of an owned slot is changed: B are the cells that are used up (the slot's own among them) -/
theorem RR.change {B R : List Cell} {c' : Cell} {a : Addr} {o : HO} (h : RR K rt G H (B ++ R)) (ha : a ∈ fps B) (hF : ∀ x, x ∈ c'.fp → x ∈ fps B) (nd : c'.fp.Nodup) (hc : CellR K rt G (upd H a o) c') :
    RR K rt G (upd H a o) (c' :: R) := by
  have hga : G a = none := h.out a (by rw [fps_append]; exact List.mem_append_left _ ha)
  refine RR.frameR (A := B) (B := R) (B' := [c']) h (Stp.mut ha (fun x hx => hF x (by simpa [fps] using hx))) ⟨fun d hd => ?_, by simpa [fps] using nd, fun x hx => ?_, sub_mut h.sub hga⟩
  · have e : d = c' := by simpa using hd
    rw [e]
    exact hc
  · exact h.out x (by rw [fps_append]; exact List.mem_append_left _ (hF x (by simpa [fps] using hx)))
theorem CellR.re {s : Sl} {t t' : T} {x : V} {f f' : List Addr} (h : CellR K rt G H ⟨s, some x, f⟩) (e : s.t? = some t) (h' : RT K G' H' t' x f') : CellR K rt G' H' ⟨s.re t', some x, f'⟩ := by
  cases s with
  | un => cases e
  | v u => exact ⟨x, rfl, h'⟩
  | p k u =>
    obtain ⟨y, ey, ek, _⟩ := h
    have exy : x = y := Option.some.inj ey
    subst exy
    exact ⟨x, rfl, ek, h'⟩
end
section
variable {X : Cx} {rt : List V} {W : WX} {e a b c : Expr} {s : Stmt} {ss : List Stmt} {pos p p2 pos' apos : Pos}
/-! ### x.append(e) -/
def mApp (i : Nat) (m : M T) : MS := fun ρ => match ρ[i]?.bind Sl.t? with
  | some (.lst _) => (m ρ).bindS fun t ρ' => (match ρ'[i]? with
    | some s => (match s.t? with
      | some (.lst ts) => if ts.length < sizeLine then .nx (ρ'.set i (s.re (.lst (ts ++ [t])))) else .bad
      | _ => .bad)
    | none => .bad)
  | _ => .bad
theorem st_app {i : Nat} {x : Str} {m : M T} (hN : X.N[i]? = some x) (hv : Vis X.env.scope x) (h : PEd X rt W e m) (hst : starEach [e] X.env = (false, eval e X.env) :: starEach [] X.env := by rfl)
    (hs : swapsWith (.Call (.Attribute (.Name x p) "append" apos) [e] [] p2) none pos.line X.env = pure false := by rfl)
    (hd : (x == ("__debug__" : Str)) = false := by decide) (hcd : (x == ("__classdict__" : Str)) = false := by decide)
    (hbm : ∀ {te : TE}, PE X e te → ∃ ts, PE X (.Call (.Attribute (.Name x p) "append" apos) [e] [] p2) ts ∧ ts = tBM X.K "list" rAppend (tVar i) (tCons te tNil)) :
    PSd X rt W (.Expr (.Call (.Attribute (.Name x p) "append" apos) [e] [] p2) pos) (mApp i m) := by
  obtain ⟨te, h1, h2⟩ := h.ex
  obtain ⟨ts, h3, rfl⟩ := hbm h1
  refine ⟨_, ps_expr h3 hs, fun H G cs D r q => ?_⟩
  unfold mApp at q
  split at q
  · rename_i ts0 h0
    rw [Option.bind_eq_some_iff] at h0
    obtain ⟨sl0, e0, e0'⟩ := h0
    obtain ⟨c0, hc0, rfl⟩ := cell_at e0
    obtain ⟨x0, ex0, ht0⟩ := (r.at hc0).tree e0'
    simp only [RT] at ht0
    obtain ⟨a0, xs0, f0, rfl, ha0, _, _⟩ := ht0
    refine ⟨.ref a0, by rw [vals_at hc0, ex0], .inl ⟨rfl, xs0, .of ha0⟩, ?_⟩
    show te (vals cs) H _
    refine h2 H G cs _ r (PostE.seqS q fun t v ft cs1 H1 G1 ev st r1 q1 => ?_)
    cases hsl : (slots cs1)[i]? with
    | none => simp only [hsl] at q1; exact q1.elim
    | some sl =>
      simp only [hsl] at q1
      obtain ⟨c, hc, rfl⟩ := cell_at hsl
      split at q1
      · rename_i ts1 hts
        obtain ⟨x1, ex1, ht1⟩ := (r1.tail.at hc).tree hts
        have e5 : x1 = .ref a0 := by
          have v1 : (vals cs1)[i]? = some (some (.ref a0)) := by rw [ev, vals_at hc0, ex0]
          rw [vals_at hc, ex1] at v1
          exact Option.some.inj (Option.some.inj v1)
        subst e5
        have ht1' := ht1
        simp only [RT] at ht1
        obtain ⟨a1, xs1, f1, e6, ha1, hl1, ef⟩ := ht1
        cases e6
        split at q1
        · rename_i hz
          obtain ⟨cs_, co, cf⟩ := c
          have eco : co = some (.ref a0) := ex1
          subst eco
          have ef' : cf = a0 :: f1 := ef
          subst ef'
          refine ⟨a0, xs1, v, rfl, rfl, ha1, by rw [← hl1.length]; exact hz, ?_⟩
          -- the new cell
          have pm : (⟨.v t, some v, ft⟩ :: cs1).Perm ([⟨cs_, some (.ref a0), a0 :: f1⟩, ⟨.v t, some v, ft⟩] ++ (cs1.take i ++ cs1.drop (i + 1))) := ((perm_at hc).cons _).trans (List.Perm.swap _ _ _)
          have rp := r1.perm pm
          have nd := rp.nd
          rw [fps_append, fps_cons, fps_cons, fps_nil, List.append_nil] at nd
          obtain ⟨nd1, _, _⟩ := List.nodup_append.mp nd
          have hna : a0 ∉ f1 ++ ft := fun m => (List.nodup_cons.mp nd1).1 m
          obtain ⟨y, ey, hyt⟩ := rp.cell ⟨.v t, some v, ft⟩ (by simp)
          cases ey
          have fr : ∀ b ∈ f1 ++ ft, ∀ u, H1 b = some u → upd H1 a0 (.lst (xs1 ++ [v])) b = some u := fun b hb u hu => by
            rw [upd_ne (fun z => hna (by rw [← z]; exact hb))]; exact hu
          have hnew : RT X.K G1 (upd H1 a0 (.lst (xs1 ++ [v]))) (.lst (ts1 ++ [t])) (.ref a0) (a0 :: (f1 ++ ft)) := by
            simp only [RT]
            exact ⟨a0, xs1 ++ [v], f1 ++ ft, rfl, upd_same, (RTL.frame (Ext.refl _) ts1 xs1 f1 (fun b hb => fr b (List.mem_append_left _ hb)) hl1).app (RTL.one (RT.frame (Ext.refl _) t v ft (fun b hb => fr b (List.mem_append_right _ hb)) hyt)), rfl⟩
          have hcell : CellR X.K rt G1 H1 ⟨cs_, some (.ref a0), a0 :: f1⟩ := rp.cell _ (by simp)
          have rnew := RR.change (B := [⟨cs_, some (.ref a0), a0 :: f1⟩, ⟨.v t, some v, ft⟩]) (R := cs1.take i ++ cs1.drop (i + 1)) (c' := ⟨cs_.re (.lst (ts1 ++ [t])), some (.ref a0), a0 :: (f1 ++ ft)⟩) (a := a0) (o := .lst (xs1 ++ [v])) rp
            (by rw [fps_cons]; simp) (fun x hx => by rw [fps_cons, fps_cons, fps_nil, List.append_nil]; simpa using hx) nd1 (hcell.re hts hnew)
          have rset := rnew.perm (perm_set hc _).symm
          have z := q1 _ (upd H1 a0 (.lst (xs1 ++ [v]))) G1 slots_set ?_ rset
          · show D.nx (vals cs) _
            rw [vals_set_same (c' := ⟨cs_.re (.lst (ts1 ++ [t])), some (.ref a0), a0 :: (f1 ++ ft)⟩) hc rfl, ev] at z
            exact z
          · have m1 : ∀ x, x ∈ fps (cs1.set i ⟨cs_.re (.lst (ts1 ++ [t])), some (.ref a0), a0 :: (f1 ++ ft)⟩) → x ∈ ft ++ fps cs1 := fun x hx => by
              have e1 : (fps (cs1.set i ⟨cs_.re (.lst (ts1 ++ [t])), some (.ref a0), a0 :: (f1 ++ ft)⟩)).Perm ((a0 :: (f1 ++ ft)) ++ fps (cs1.take i ++ cs1.drop (i + 1))) := (perm_set hc _).flatMap_right _
              have e2 : (fps cs1).Perm ((a0 :: f1) ++ fps (cs1.take i ++ cs1.drop (i + 1))) := (perm_at hc).flatMap_right _
              have z := e1.mem_iff.mp hx
              rw [List.mem_append, e2.mem_iff]
              simp only [List.mem_append, List.mem_cons] at z ⊢
              rcases z with (z | z | z) | z
              · exact .inr (.inl (.inl z))
              · exact .inr (.inl (.inr z))
              · exact .inl z
              · exact .inr (.inr z)
            have ain : a0 ∈ ft ++ fps cs1 := List.mem_append_right _ (mem_fps.mpr ⟨_, List.mem_of_getElem? hc, List.mem_cons_self⟩)
            exact st.trans (Stp.mut ain m1)
        · exact q1.elim
      · exact q1.elim
  · exact q.elim
/-! ### x[i] = e -/
def mSetIx (i : Nat) (mi me : M D) : MS := fun ρ => (me ρ).bindS fun d ρ1 => match ρ1[i]?.bind Sl.t? with
  | some (.lst _) => (mi ρ1).bindS fun k ρ2 => (match k with
    | .int k => (match ρ2[i]? with
      | some s => (match s.t? with
        | some (.lst ts) => (match ixN ts.length k with
          | some j => .nx (ρ2.set i (s.re (.lst (ts.set j (.sh d)))))
          | none => .bad)
        | _ => .bad)
      | none => .bad)
    | _ => .bad)
  | _ => .bad
theorem ixN_lt {n : Nat} {k : Int} {j : Nat} (h : ixN n k = some j) : j < n := (ixN_seq h).2.1
theorem st_setIx {i : Nat} {x : Str} {mi me : M D} (hN : X.N[i]? = some x) (hv : Vis X.env.scope x) (hi : PEs X rt W b mi) (he : PEs X rt W e me)
    (hd : (x == ("__debug__" : Str)) = false := by decide) (hcd : (x == ("__classdict__" : Str)) = false := by decide)
    (ha : ∀ v, assign (.Subscript (.Name x p) b p2) X.env v = (do
      let ov ← holding [v] (eval (.Name x p) X.env)
      let iv ← holding [v, ov] (eval b X.env)
      standAt p2
      holding [v, ov, iv] (setItem ov iv v)
      release [v, ov, iv] []) := by intro _; rfl)
    (hs : swapsWithSole [(.Subscript (.Name x p) b p2)] e pos.line X.env = pure false := by rfl) (hw : swappedStores [(.Subscript (.Name x p) b p2)] e X.env = pure none := by rfl)
    (h1 : (assignEach [(.Subscript (.Name x p) b p2)] X.env).map (·.2) = [assign (.Subscript (.Name x p) b p2) X.env] := by rfl) : PSd X rt W (.Assign [.Subscript (.Name x p) b p2] e pos) (mSetIx i mi me) := by
  obtain ⟨te, a1, a2⟩ := he.ex
  obtain ⟨ti, b1, b2⟩ := hi.ex
  refine ⟨_, ps_asg a1 (pg_sub (pe_var hN hv hd hcd) b1 set_list ha) hs hw h1, fun H G cs D r q => a2 H G cs _ r (PostK.seqS q fun d v cs1 H1 G1 ev st r1 rp1 q1 => ?_)⟩
  split at q1
  · rename_i ts0 h0
    rw [Option.bind_eq_some_iff] at h0
    obtain ⟨sl0, e0, e0'⟩ := h0
    obtain ⟨c0, hc0, rfl⟩ := cell_at e0
    obtain ⟨x0, ex0, ht0⟩ := (r1.at hc0).tree e0'
    simp only [RT] at ht0
    obtain ⟨a0, xs0, f0, rfl, _, _, _⟩ := ht0
    have v0 : (vals cs)[i]? = some (some (.ref a0)) := by rw [← ev, vals_at hc0, ex0]
    refine ⟨.ref a0, v0, ?_⟩
    show ti (vals cs) H1 _
    rw [← ev]
    refine b2 H1 G1 cs1 _ r1 (PostK.seqS q1 fun kd y cs2 H2 G2 ev2 st2 r2 rp2 q2 => ?_)
    cases kd with
    | int k =>
      have rp2' : Rp X.K G2 (.int k) y := rp2
      simp only [Rp] at rp2'
      subst rp2'
      cases hsl : (slots cs2)[i]? with
      | none => simp only [hsl] at q2; exact q2.elim
      | some sl =>
        simp only [hsl] at q2
        obtain ⟨c, hc, rfl⟩ := cell_at hsl
        split at q2
        · rename_i ts1 hts
          obtain ⟨x1, ex1, ht1⟩ := (r2.at hc).tree hts
          have e5 : x1 = .ref a0 := by
            have v1 : (vals cs2)[i]? = some (some (.ref a0)) := by rw [ev2, ev, v0]
            rw [vals_at hc, ex1] at v1
            exact Option.some.inj (Option.some.inj v1)
          subst e5
          simp only [RT] at ht1
          obtain ⟨a1, xs1, f1, e6, ha1, hl1, ef⟩ := ht1
          cases e6
          split at q2
          · rename_i j hj
            obtain ⟨cs_, co, cf⟩ := c
            have eco : co = some (.ref a0) := ex1
            subst eco
            have ef' : cf = a0 :: f1 := ef
            subst ef'
            refine ⟨a0, xs1, k, j, rfl, rfl, ha1, by rw [← hl1.length]; exact hj, ?_⟩
            have rp := r2.perm ((perm_at hc).trans (List.Perm.of_eq (show _ = [⟨cs_, some (.ref a0), a0 :: f1⟩] ++ (cs2.take i ++ cs2.drop (i + 1)) from rfl)))
            have nd := rp.nd
            rw [fps_append, fps_cons, fps_nil, List.append_nil] at nd
            obtain ⟨nd1, _, _⟩ := List.nodup_append.mp nd
            have hna : a0 ∉ f1 := (List.nodup_cons.mp nd1).1
            have hrd : Rp X.K G2 d v := Rp.mono st2.ext d v rp1
            obtain ⟨f', hl2, g1, g2, go, eg1, eg2⟩ := RTL.set (t := .sh d) (x := v) (ft := []) j hl1 (by simp only [RT]; exact ⟨hrd, trivial⟩) (ixN_lt hj)
            have hsub : ∀ x, x ∈ f' → x ∈ f1 := fun x hx => by
              rw [eg2] at hx
              rw [eg1]
              simp only [List.mem_append, List.not_mem_nil, false_or] at hx ⊢
              rcases hx with hx | hx
              · exact .inl hx
              · exact .inr (.inr hx)
            have hnd' : (a0 :: f').Nodup := by
              rw [List.nodup_cons] at nd1 ⊢
              refine ⟨fun m => hna (hsub _ m), ?_⟩
              have n1 := nd1.2
              rw [eg1] at n1
              rw [eg2]
              simp only [List.nil_append]
              exact n1.sublist ((List.Sublist.refl _).append (List.sublist_append_right _ _))
            have hnew : RT X.K G2 (upd H2 a0 (.lst (xs1.set j v))) (.lst (ts1.set j (.sh d))) (.ref a0) (a0 :: f') := by
              simp only [RT]
              exact ⟨a0, xs1.set j v, f', rfl, upd_same, RTL.frame (Ext.refl _) _ _ f' (fun b hb u hu => by rw [upd_ne (fun z => hna (by rw [← z]; exact hsub b hb))]; exact hu) hl2, rfl⟩
            have hcell : CellR X.K rt G2 H2 ⟨cs_, some (.ref a0), a0 :: f1⟩ := rp.cell _ (by simp)
            have rnew := RR.change (B := [⟨cs_, some (.ref a0), a0 :: f1⟩]) (R := cs2.take i ++ cs2.drop (i + 1)) (c' := ⟨cs_.re (.lst (ts1.set j (.sh d))), some (.ref a0), a0 :: f'⟩) (a := a0) (o := .lst (xs1.set j v)) rp
              (by rw [fps_cons]; simp) (fun x hx => by
                rw [fps_cons, fps_nil, List.append_nil]
                rcases List.mem_cons.mp hx with rfl | hx
                · exact List.mem_cons_self
                · exact List.mem_cons_of_mem _ (hsub x hx)) hnd' (hcell.re hts hnew)
            have rset := rnew.perm (perm_set hc _).symm
            have z := q2 _ (upd H2 a0 (.lst (xs1.set j v))) G2 slots_set ?_ rset
            · show D.nx (vals cs1) _
              rw [vals_set_same (c' := ⟨cs_.re (.lst (ts1.set j (.sh d))), some (.ref a0), a0 :: f'⟩) hc rfl, ev2] at z
              exact z
            · have m1 : ∀ x, x ∈ fps (cs2.set i ⟨cs_.re (.lst (ts1.set j (.sh d))), some (.ref a0), a0 :: f'⟩) → x ∈ fps cs2 := fun x hx => by
                have e1 : (fps (cs2.set i ⟨cs_.re (.lst (ts1.set j (.sh d))), some (.ref a0), a0 :: f'⟩)).Perm ((a0 :: f') ++ fps (cs2.take i ++ cs2.drop (i + 1))) := (perm_set hc _).flatMap_right _
                have e2 : (fps cs2).Perm ((a0 :: f1) ++ fps (cs2.take i ++ cs2.drop (i + 1))) := (perm_at hc).flatMap_right _
                have z := e1.mem_iff.mp hx
                rw [e2.mem_iff]
                simp only [List.mem_append, List.mem_cons] at z ⊢
                rcases z with (z | z) | z
                · exact .inl (.inl z)
                · exact .inl (.inr (hsub x z))
                · exact .inr z
              exact Stp.mut (mem_fps.mpr ⟨_, List.mem_of_getElem? hc, List.mem_cons_self⟩) m1
          · exact q2.elim
        · exact q2.elim
    | _ => exact q2.elim
  · exact q1.elim
/-! ### what a for walks -/
/-- the iterator yields data, in order -/
def ItOk (K : PySem.W.Frag) (J : It) (G : Hp) (ds : List D) : Prop := ∀ (i : Nat) (H1 G1 : Hp), Ext G G1 → Sub G1 H1 →
  (i = ds.length → J.stop i H1) ∧ ∀ d, ds[i]? = some d → J.go i H1 ∧ ∀ x H2, J.yld i H1 x H2 → ∃ G2, Stp H1 G1 [] H2 G2 [] ∧ Sub G2 H2 ∧ Rp K G2 d x
structure PId (X : Cx) (rt : List V) (W : WX) (tg iter : Expr) (m : M (List D)) : Prop where
  ex : ∃ wi, PI X tg iter wi ∧ ∀ H G cs (R : It → Hp → Prop), RR X.K rt G H cs → (match m (slots cs) with
    | .ok ds ρ' => ∀ J cs' H' G', slots cs' = ρ' → vals cs' = vals cs → Stp H G (fps cs) H' G' (fps cs') → RR X.K rt G' H' cs' → ItOk X.K J G' ds → R J H'
    | .err x ρ' => ErrQ X.K rt W H G cs x ρ'
    | .bad => False) → wi (vals cs) H R
def mFor (g : D → List Sl → Option (List Sl)) (body : MS) : List D → MS
  | [], ρ => .nx ρ
  | d :: ds, ρ => match g d ρ with
    | none => .bad
    | some ρ1 => match body ρ1 with
      | .nx ρ2 => mFor g body ds ρ2
      | .ct ρ2 => mFor g body ds ρ2
      | .bk ρ2 => .nx ρ2
      | o => o
def mForS (g : D → List Sl → Option (List Sl)) (mi : M (List D)) (body : MS) : MS := fun ρ => (mi ρ).bindS fun ds => mFor g body ds
theorem st_for {tg iter : Expr} {g : D → List Sl → Option (List Sl)} {mi : M (List D)} {m : MS} (hp : PassesOwn (model X.prog X.w) X.A X.env X.xe) (hc : X.calm = true) (hi : PId X rt W tg iter mi) (hg : PGd X rt tg g) (hb : PSsd X rt W ss m)
    (hs : ∀ x, foldedSetIterable iter X.env x = pure x := by intro _; rfl) : PSd X rt W (.For tg iter ss [] pos) (mForS g mi m) := by
  obtain ⟨wi, i1, i2⟩ := hi.ex
  obtain ⟨tg', g1, g2⟩ := hg.ex
  obtain ⟨tb, b1, b2⟩ := hb.ex
  refine ⟨_, ps_for hp hc i1 g1 b1 hs, fun H G cs D r q => i2 H G cs _ r ?_⟩
  unfold mForS at q
  cases hmi : mi (slots cs) with
  | err x ρ' =>
    rw [hmi] at q
    intro cls d cs' H' G' h1 h2 h3 h4 h5
    have h' : PostSt X.K rt W H G cs (.err x ρ') D := q
    rw [← h2]
    exact h' cls d cs' H' G' h1 h3 h4 h5
  | bad => rw [hmi] at q; exact q
  | ok ds ρ' =>
    rw [hmi] at q
    intro J cs1 H1 G1 e1 ev st r1 hJ
    have q0 : PostSt X.K rt W H G cs (mFor g m ds ρ') D := q
    have q1 : PostSt X.K rt W H1 G1 cs1 (mFor g m ds (slots cs1)) D := by rw [e1]; exact q0.step st
    refine ⟨fun i mm σ H2 => mm = ds.length - i ∧ i ≤ ds.length ∧ ∃ G2 cs2, vals cs2 = σ ∧ Ext G1 G2 ∧ RR X.K rt G2 H2 cs2 ∧ PostSt X.K rt W H2 G2 cs2 (mFor g m (ds.drop i) (slots cs2)) D, ⟨ds.length, rfl, Nat.zero_le _, G1, cs1, ev, Ext.refl _, r1, q1⟩, ?_⟩
    rintro i mm σ H2 ⟨rfl, hi, G2, cs2, rfl, ex2, r2, q2⟩
    obtain ⟨k1, k2⟩ := hJ i H2 G2 ex2 r2.sub
    by_cases hlt : i < ds.length
    · have hd : ds[i]? = some ds[i] := List.getElem?_eq_getElem hlt
      obtain ⟨go, yl⟩ := k2 _ hd
      have edrop : ds.drop i = ds[i] :: ds.drop (i + 1) := (List.getElem_cons_drop (h := hlt)).symm
      rw [edrop] at q2
      refine .inr ⟨go, fun σ' H' => ∃ G2' cs2', vals cs2' = σ' ∧ Ext G1 G2' ∧ RR X.K rt G2' H' cs2' ∧ PostSt X.K rt W H' G2' cs2' (mFor g m (ds.drop (i + 1)) (slots cs2')) D,
        fun σ' H' ⟨G', cs', h1, h2, h3, h4⟩ => ⟨ds.length - (i + 1), by omega, rfl, hlt, G', cs', h1, h2, h3, h4⟩, fun x H3 y => ?_⟩
      obtain ⟨G3, st3, sub3, rp3⟩ := yl x H3 y
      -- the cells on the new heap
      have r3 : RR X.K rt G3 H3 cs2 := by
        have z : RR X.K rt G3 H3 (cs2 ++ []) := RR.frame (A := cs2) (B := []) (B' := []) (by rw [List.append_nil]; exact r2) st3 ⟨fun c hc => by (cases hc), List.nodup_nil, fun a ha => (by cases ha), sub3⟩
        rw [List.append_nil] at z
        exact z
      have st3' : Stp H2 G2 (fps cs2) H3 G3 (fps cs2) := (st3.frame (A := fps cs2)).mem (fun x => by simp) (fun x hx => by simpa using hx)
      have q3 := q2.step st3'
      simp only [mFor] at q3
      cases hgd : g ds[i] (slots cs2) with
      | none => simp only [hgd] at q3; exact q3.elim
      | some ρ1 =>
        simp only [hgd] at q3
        refine g2 H3 G3 cs2 ds[i] x _ ρ1 r3 rp3 hgd fun cs4 j1 j2 j3 => ?_
        have q4 := q3.step (cs1 := cs4) (Stp.refl.mem (fun _ => Iff.rfl) j3)
        rw [← j1] at q4
        refine b2 H3 G3 cs4 _ j2 ?_
        have ex4 : Ext G1 G3 := ex2.trans st3.ext
        cases hm : m (slots cs4) with
        | nx ρ2 =>
          simp only [hm] at q4
          intro cs5 H5 G5 k1 k2 k3
          exact ⟨G5, cs5, rfl, ex4.trans k2.ext, k3, by rw [k1]; exact q4.step k2⟩
        | ct ρ2 =>
          simp only [hm] at q4
          intro cs5 H5 G5 k1 k2 k3
          exact ⟨G5, cs5, rfl, ex4.trans k2.ext, k3, by rw [k1]; exact q4.step k2⟩
        | bk ρ2 => simp only [hm] at q4; exact q4
        | rt t ρ2 => simp only [hm] at q4; exact q4
        | err x ρ2 => simp only [hm] at q4; exact q4
        | bad => simp only [hm] at q4; exact q4
    · have e : i = ds.length := by omega
      subst e
      refine .inl ⟨k1 rfl, ?_⟩
      rw [List.drop_length] at q2
      exact q2 cs2 H2 G2 rfl Stp.refl r2
/-- over a list or a tuple that is shared -/
def mItems (m : M D) : M (List D) := fun ρ => (m ρ).bind fun d => M.ofO d.items?
def mItemsT (m : M D) : M (List D) := fun ρ => (m ρ).bind fun d => match d with
  | .tup ds => M.pure ds
  | _ => fun _ => .bad
theorem i_core {te : TE} {m : M D} {H G : Hp} {cs : List Cell} {α : Type} {f : D → M α} {P : Out α → Prop} {k : V → Hp → Prop} (h2 : ∀ H G cs Q, RR X.K rt G H cs → PostK X.K rt W kV H G cs (m (slots cs)) Q → te (vals cs) H Q) (r : RR X.K rt G H cs)
    (q : P ((m (slots cs)).bind f)) (he : ∀ x ρ', P (.err x ρ') → ErrQ X.K rt W H G cs x ρ') (hb : ¬ P .bad)
    (kk : ∀ d v cs' H' G', vals cs' = vals cs → Stp H G (fps cs) H' G' (fps cs') → RR X.K rt G' H' cs' → Rp X.K G' d v → P (f d (slots cs')) → k v H') : te (vals cs) H k := by
  refine h2 H G cs k r ?_
  cases hm : m (slots cs) with
  | ok d ρ' =>
    rw [hm] at q
    intro v cs' H' G' h1 h3 h4 h5 h6
    refine kk d v cs' H' G' h3 h4 h5 h6 ?_
    rw [h1]
    exact q
  | err x ρ' => rw [hm] at q; exact he x ρ' q
  | bad => rw [hm] at q; exact absurd q hb
theorem it_list {K : PySem.W.Frag} {G : Hp} {ds : List D} {xs : List V} {ad : Addr} (h1 : SqL K G ad xs) (h2 : RpL K G ds xs) : ItOk K (Itl K ad) G ds := fun i H1 G1 ex sb => by
  have l := h2.length
  have hq : SqL K H1 ad xs := sb.list (ex.sql h1)
  refine ⟨fun e => ⟨xs, hq, by omega⟩, fun d hd => ?_⟩
  obtain ⟨x, hx, hr⟩ := (RpL.mono ex _ _ h2).get hd
  exact ⟨⟨xs, x, hq, hx⟩, fun y H2 ⟨e, hy⟩ => by
    subst e
    have z := hy xs hq
    rw [hx] at z
    cases z
    exact ⟨G1, Stp.refl, sb, hr⟩⟩
theorem it_tup {K : PySem.W.Frag} {G : Hp} {ds : List D} {xs : List V} {ad : Addr} (h1 : SqT K G ad xs) (h2 : RpL K G ds xs) : ItOk K (Itt K ad) G ds := fun i H1 G1 ex sb => by
  have l := h2.length
  have hq : SqT K H1 ad xs := sb.tup (ex.sqt h1)
  refine ⟨fun e => ⟨xs, hq, by omega⟩, fun d hd => ?_⟩
  obtain ⟨x, hx, hr⟩ := (RpL.mono ex _ _ h2).get hd
  exact ⟨⟨xs, x, hq, hx⟩, fun y H2 ⟨e, hy⟩ => by
    subst e
    have z := hy xs hq
    rw [hx] at z
    cases z
    exact ⟨G1, Stp.refl, sb, hr⟩⟩
theorem i_list {tg l : Expr} {m : M D} (h : PEs X rt W l m) : PId X rt W tg l (mItems m) := by
  obtain ⟨te, h1, h2⟩ := h.ex
  refine ⟨_, pi_list h1, fun H G cs R r q => ?_⟩
  refine i_core (P := fun o => match o with
    | .ok ds ρ' => ∀ J cs' H' G', slots cs' = ρ' → vals cs' = vals cs → Stp H G (fps cs) H' G' (fps cs') → RR X.K rt G' H' cs' → ItOk X.K J G' ds → R J H'
    | .err x ρ' => ErrQ X.K rt W H G cs x ρ'
    | .bad => False) h2 r q (fun x ρ' z => z) (fun z => z) fun d v cs1 H1 G1 ev st r1 rp1 q1 => ?_
  unfold M.ofO at q1
  cases hit : d.items? with
  | none => rw [hit] at q1; exact q1.elim
  | some ds =>
    rw [hit] at q1
    cases d with
    | lst es =>
      cases hit
      simp only [Rp] at rp1
      obtain ⟨ad, xs, rfl, h3, h4⟩ := rp1
      exact ⟨ad, rfl, ⟨xs, .of (r1.sub.lst h3)⟩, q1 _ cs1 H1 G1 rfl ev st r1 (it_list (.of h3) h4)⟩
    | scr es =>
      cases hit
      simp only [Rp] at rp1
      obtain ⟨ad, xs, rfl, h3, h4⟩ := rp1
      exact ⟨ad, rfl, ⟨xs, r1.sub.list h3⟩, q1 _ cs1 H1 G1 rfl ev st r1 (it_list h3 h4)⟩
    | _ => cases hit
theorem i_tup {tg l : Expr} {m : M D} (h : PEs X rt W l m) : PId X rt W tg l (mItemsT m) := by
  obtain ⟨te, h1, h2⟩ := h.ex
  refine ⟨_, pi_tup h1, fun H G cs R r q => ?_⟩
  refine i_core (P := fun o => match o with
    | .ok ds ρ' => ∀ J cs' H' G', slots cs' = ρ' → vals cs' = vals cs → Stp H G (fps cs) H' G' (fps cs') → RR X.K rt G' H' cs' → ItOk X.K J G' ds → R J H'
    | .err x ρ' => ErrQ X.K rt W H G cs x ρ'
    | .bad => False) h2 r q (fun x ρ' z => z) (fun z => z) fun d v cs1 H1 G1 ev st r1 rp1 q1 => ?_
  cases d with
  | tup es =>
    simp only [Rp] at rp1
    obtain ⟨ad, xs, rfl, h3, h4⟩ := rp1
    exact ⟨ad, rfl, ⟨xs, r1.sub.tup h3⟩, q1 _ cs1 H1 G1 rfl ev st r1 (it_tup h3 h4)⟩
  | _ => exact q1.elim
/-- range(n), range(a, b) -/
def rngD (lo : Int) (n : Nat) : List D := (List.range n).map fun (i : Nat) => D.int (lo + i)
def fRng1 : List D → Option (List D)
  | [.int j] => if -(2 ^ 62) ≤ j ∧ j < 2 ^ 62 then some (rngD 0 j.toNat) else none
  | _ => none
def fRng2 : List D → Option (List D)
  | [.int i, .int j] => if -(2 ^ 62) ≤ i ∧ i < 2 ^ 62 ∧ -(2 ^ 62) ≤ j ∧ j < 2 ^ 62 then some (rngD i (j - i).toNat) else none
  | _ => none
def mRng (f : List D → Option (List D)) (ms : M (List D)) : M (List D) := fun ρ => (ms ρ).bind fun ds => M.ofO (f ds)
theorem it_rng {K : PySem.W.Frag} {G : Hp} {lo : Int} {n : Nat} : ItOk K (Itr lo n) G (rngD lo n) := fun i H1 G1 ex sb => by
  have l : (rngD lo n).length = n := by simp [rngD]
  refine ⟨fun e => by show n ≤ i; omega, fun d hd => ?_⟩
  have hi : i < n := by
    have := (List.getElem?_eq_some_iff.mp hd).1
    omega
  refine ⟨hi, fun y H2 ⟨e, hy⟩ => ?_⟩
  subst e
  subst hy
  refine ⟨G1, Stp.refl, sb, ?_⟩
  unfold rngD at hd
  rw [List.getElem?_map, List.getElem?_range hi] at hd
  cases hd
  simp only [Rp]
theorem a_core {ta : TA} {m : M (List D)} {H G : Hp} {cs : List Cell} {α : Type} {f : List D → M α} {P : Out α → Prop} {k : List V → Hp → Prop} (h2 : ∀ H G cs Q, RR X.K rt G H cs → PostK X.K rt W kA H G cs (m (slots cs)) Q → ta (vals cs) H Q) (r : RR X.K rt G H cs)
    (q : P ((m (slots cs)).bind f)) (he : ∀ x ρ', P (.err x ρ') → ErrQ X.K rt W H G cs x ρ') (hb : ¬ P .bad)
    (kk : ∀ d v cs' H' G', vals cs' = vals cs → Stp H G (fps cs) H' G' (fps cs') → RR X.K rt G' H' cs' → RpL X.K G' d v → P (f d (slots cs')) → k v H') : ta (vals cs) H k := by
  refine h2 H G cs k r ?_
  cases hm : m (slots cs) with
  | ok d ρ' =>
    rw [hm] at q
    intro v cs' H' G' h1 h3 h4 h5 h6
    refine kk d v cs' H' G' h3 h4 h5 h6 ?_
    rw [h1]
    exact q
  | err x ρ' => rw [hm] at q; exact he x ρ' q
  | bad => rw [hm] at q; exact absurd q hb
theorem i_rng1 {tg : Expr} {ms : M (List D)} (hg : Gl X "range") (hm : X.mg "range" = none) (h : PAs X rt W [a] ms) (hs : starEach [a] X.env = [(false, eval a X.env)] := by rfl) : PId X rt W tg (.Call (.Name "range" p) [a] [] pos) (mRng fRng1 ms) := by
  obtain ⟨te, h1, h2⟩ := h.ex
  refine ⟨_, pi_range1 hg hm h1 hs, fun H G cs R r q => ?_⟩
  refine a_core (P := fun o => match o with
    | .ok ds ρ' => ∀ J cs' H' G', slots cs' = ρ' → vals cs' = vals cs → Stp H G (fps cs) H' G' (fps cs') → RR X.K rt G' H' cs' → ItOk X.K J G' ds → R J H'
    | .err x ρ' => ErrQ X.K rt W H G cs x ρ'
    | .bad => False) h2 r q (fun x ρ' z => z) (fun z => z) fun ds vs cs1 H1 G1 ev st r1 rp1 q1 => ?_
  unfold M.ofO at q1
  cases hit : fRng1 ds with
  | none => rw [hit] at q1; exact q1.elim
  | some ds' =>
    rw [hit] at q1
    unfold fRng1 at hit
    split at hit
    · split at hit
      · rename_i hz
        cases hit
        obtain ⟨x, rfl, h0⟩ := rp1.one
        simp only [Rp] at h0
        subst h0
        exact ⟨_, rfl, hz.1, hz.2, q1 _ cs1 H1 G1 rfl ev st r1 it_rng⟩
      · cases hit
    · cases hit
theorem i_rng2 {tg : Expr} {ms : M (List D)} (hg : Gl X "range") (hm : X.mg "range" = none) (h : PAs X rt W [a, b] ms) (hs : starEach [a, b] X.env = [(false, eval a X.env), (false, eval b X.env)] := by rfl) (hs2 : starEach [b] X.env = [(false, eval b X.env)] := by rfl) :
    PId X rt W tg (.Call (.Name "range" p) [a, b] [] pos) (mRng fRng2 ms) := by
  obtain ⟨te, h1, h2⟩ := h.ex
  refine ⟨_, pi_range2 hg hm h1 hs hs2, fun H G cs R r q => ?_⟩
  refine a_core (P := fun o => match o with
    | .ok ds ρ' => ∀ J cs' H' G', slots cs' = ρ' → vals cs' = vals cs → Stp H G (fps cs) H' G' (fps cs') → RR X.K rt G' H' cs' → ItOk X.K J G' ds → R J H'
    | .err x ρ' => ErrQ X.K rt W H G cs x ρ'
    | .bad => False) h2 r q (fun x ρ' z => z) (fun z => z) fun ds vs cs1 H1 G1 ev st r1 rp1 q1 => ?_
  unfold M.ofO at q1
  cases hit : fRng2 ds with
  | none => rw [hit] at q1; exact q1.elim
  | some ds' =>
    rw [hit] at q1
    unfold fRng2 at hit
    split at hit
    · split at hit
      · rename_i hz
        cases hit
        obtain ⟨x, y, rfl, h0, h3⟩ := rp1.two
        simp only [Rp] at h0 h3
        subst h0 h3
        exact ⟨_, _, rfl, hz, q1 _ cs1 H1 G1 rfl ev st r1 it_rng⟩
      · cases hit
    · cases hit
/-- for c in s, a text -/
def strD (z : Str) : List D := z.cps.toList.map fun c => D.str ⟨#[c]⟩
def mChars (m : M D) : M (List D) := fun ρ => (m ρ).bind fun d => match d with
  | .str z => M.pure (strD z)
  | _ => fun _ => .bad
/-! ### while, by fuel -/
def goW (mt : M Bool) (body : MS) : Nat → MS
  | 0, _ => .bad
  | n + 1, ρ => (mt ρ).bindS (fun k => if k = true then fun ρ1 => (match body ρ1 with
      | .nx ρ2 => goW mt body n ρ2
      | .ct ρ2 => goW mt body n ρ2
      | .bk ρ2 => .nx ρ2
      | o => o) else mSkip)
def mWhile (fuel : List Sl → Nat) (mt : M Bool) (body : MS) : MS := fun ρ => goW mt body (fuel ρ) ρ
theorem st_while (fuel : List Sl → Nat) {mt : M Bool} {m : MS} (hp : PassesOwn (model X.prog X.w) X.A X.env X.xe) (hc : PTd X rt W c mt) (hb : PSsd X rt W ss m) : PSd X rt W (.While c ss [] pos) (mWhile fuel mt m) := by
  obtain ⟨tc, c1, c2⟩ := hc.ex
  obtain ⟨tb, b1, b2⟩ := hb.ex
  refine ⟨_, ps_while hp c1 b1, fun H G cs D r q => ?_⟩
  refine ⟨fun n σ H1 => ∃ G1 cs1, vals cs1 = σ ∧ RR X.K rt G1 H1 cs1 ∧ PostSt X.K rt W H1 G1 cs1 (goW mt m n (slots cs1)) D, ⟨_, G, cs, rfl, r, q⟩, ?_⟩
  rintro n σ H1 ⟨G1, cs1, rfl, r1, q1⟩
  cases n with
  | zero => exact q1.elim
  | succ n =>
    refine c2 H1 G1 cs1 _ r1 (PostK.seqS q1 fun k k' cs2 H2 G2 ev st r2 ek q2 => ?_)
    have ek' : k = k' := ek
    subst ek'
    cases k with
    | false =>
      rw [if_neg Bool.false_ne_true]
      rw [← ev]
      exact q2 cs2 H2 G2 rfl Stp.refl r2
    | true =>
      rw [if_pos rfl]
      refine ⟨fun σ' H' => ∃ G' cs', vals cs' = σ' ∧ RR X.K rt G' H' cs' ∧ PostSt X.K rt W H' G' cs' (goW mt m n (slots cs')) D, fun σ' H' ⟨G', cs', h1, h2, h3⟩ => ⟨n, Nat.lt_succ_self n, G', cs', h1, h2, h3⟩, ?_⟩
      rw [← ev]
      refine b2 H2 G2 cs2 _ r2 ?_
      have q3 : PostSt X.K rt W H2 G2 cs2 (match m (slots cs2) with
      | .nx ρ2 => goW mt m n ρ2
      | .ct ρ2 => goW mt m n ρ2
      | .bk ρ2 => .nx ρ2
      | o => o) D := q2
      cases hm : m (slots cs2) with
      | nx ρ2 =>
        simp only [hm] at q3
        intro cs5 H5 G5 k1 k2 k3
        exact ⟨G5, cs5, rfl, k3, by rw [k1]; exact q3.step k2⟩
      | ct ρ2 =>
        simp only [hm] at q3
        intro cs5 H5 G5 k1 k2 k3
        exact ⟨G5, cs5, rfl, k3, by rw [k1]; exact q3.step k2⟩
      | bk ρ2 => simp only [hm] at q3; exact q3
      | rt t ρ2 => simp only [hm] at q3; exact q3
      | err x ρ2 => simp only [hm] at q3; exact q3
      | bad => simp only [hm] at q3; exact q3
end
end PD

set_option Elab.async false
set_option linter.all false
set_option maxRecDepth 100000
set_option maxHeartbeats 2000000
/-! PD: universal forms, list comprehensions, moves, iteration over any shared sequence. -/
namespace PD
open PySem PySem.Spec PyProof.Rows L2
/-! ### universal forms -/
section
variable (K : PySem.W.Frag) (rt : List V) (W : WX)
def uE (m : M T) : TE := fun σ H Q => ∃ G cs, vals cs = σ ∧ RR K rt G H cs ∧ PostE K rt W H G cs (m (slots cs)) Q
def uT (m : M Bool) : TT := fun σ H Q => ∃ G cs, vals cs = σ ∧ RR K rt G H cs ∧ PostK K rt W kB H G cs (m (slots cs)) Q
def uG (vs : List Nat) (g : D → List Sl → Option (List Sl)) : TG := fun v σ H Q => ∃ G cs d ρ', vals cs = σ ∧ RR K rt G H cs ∧ Rp K G d v ∧ g d (slots cs) = some ρ' ∧
  ∀ cs', slots cs' = ρ' → RR K rt G H cs' → (∀ a, a ∈ fps cs' → a ∈ fps cs) → wipe (vals cs') vs = wipe (vals cs) vs → Q (vals cs') H
end
/-- nothing is raised -/
def W0 : WX := fun _ _ _ _ => False
/-- a target whose names are among vs -/
structure PGo (X : Cx) (rt : List V) (vs : List Nat) (tg : Expr) (g : D → List Sl → Option (List Sl)) : Prop where
  ex : ∃ t, PG X tg t ∧ ∀ H G cs d v Q ρ', RR X.K rt G H cs → Rp X.K G d v → g d (slots cs) = some ρ' → (∀ cs', slots cs' = ρ' → RR X.K rt G H cs' → (∀ a, a ∈ fps cs' → a ∈ fps cs) → wipe (vals cs') vs = wipe (vals cs) vs → Q (vals cs') H) → t v (vals cs) H Q
structure PGos (X : Cx) (rt : List V) (vs : List Nat) (tgs : List Expr) (g : List D → List Sl → Option (List Sl)) : Prop where
  ex : ∃ t, PGs X tgs t ∧ ∀ H G cs ds xs Q ρ', RR X.K rt G H cs → RpL X.K G ds xs → g ds (slots cs) = some ρ' → (∀ cs', slots cs' = ρ' → RR X.K rt G H cs' → (∀ a, a ∈ fps cs' → a ∈ fps cs) → wipe (vals cs') vs = wipe (vals cs) vs → Q (vals cs') H) → t xs (vals cs) H Q
structure PTsd (X : Cx) (rt : List V) (W : WX) (es : List Expr) (m : M Bool) : Prop where
  ex : ∃ te, PTs X es te ∧ ∀ H G cs Q, RR X.K rt G H cs → PostK X.K rt W kB H G cs (m (slots cs)) Q → te (vals cs) H Q
/-! ### lists set at places -/
def setL {α : Type} (f : Nat → α) (l : List α) : List Nat → List α
  | [] => l
  | v :: vs => (setL f l vs).set v (f v)
theorem wipe_setL (σ : L2.St) : ∀ vs : List Nat, wipe σ vs = setL (fun _ => none) σ vs
  | [] => rfl
  | v :: vs => by unfold wipe setL; rw [wipe_setL σ vs]
theorem setL_length {α : Type} (f : Nat → α) (l : List α) : ∀ vs : List Nat, (setL f l vs).length = l.length
  | [] => rfl
  | v :: vs => by unfold setL; rw [List.length_set, setL_length f l vs]
theorem setL_get {α : Type} (f : Nat → α) (l : List α) (j : Nat) : ∀ vs : List Nat, (setL f l vs)[j]? = if j ∈ vs ∧ j < l.length then some (f j) else l[j]?
  | [] => by simp [setL]
  | v :: vs => by
    unfold setL
    by_cases h : v = j
    · subst h
      by_cases hl : v < l.length
      · rw [List.getElem?_set_self (by rw [setL_length]; exact hl), if_pos ⟨List.mem_cons_self, hl⟩]
      · rw [List.getElem?_eq_none (by rw [List.length_set, setL_length]; omega), if_neg (fun z => hl z.2), List.getElem?_eq_none (by omega)]
    · rw [List.getElem?_set_ne h, setL_get f l j vs]
      have : (j ∈ vs ∧ j < l.length) ↔ (j ∈ v :: vs ∧ j < l.length) := by
        simp only [List.mem_cons]
        constructor
        · exact fun ⟨a, b⟩ => ⟨.inr a, b⟩
        · rintro ⟨a | a, b⟩
          · exact absurd a.symm h
          · exact ⟨a, b⟩
      simp only [this]
theorem setL_map {α β : Type} (h : α → β) (f : Nat → α) (l : List α) : ∀ vs : List Nat, (setL f l vs).map h = setL (fun v => h (f v)) (l.map h) vs
  | [] => rfl
  | v :: vs => by unfold setL; rw [List.map_set, setL_map h f l vs]
theorem wipe_wipe (σ : L2.St) (vs : List Nat) : wipe (wipe σ vs) vs = wipe σ vs := by
  rw [wipe_setL, wipe_setL]
  apply List.ext_getElem?
  intro j
  rw [setL_get, setL_get, setL_length]
  split
  · rfl
  · rfl
theorem wipe_set {σ : L2.St} {i : Nat} {x : Option V} {vs : List Nat} (h : i ∈ vs) : wipe (σ.set i x) vs = wipe σ vs := by
  rw [wipe_setL, wipe_setL]
  apply List.ext_getElem?
  intro j
  rw [setL_get, setL_get, List.length_set]
  by_cases hj : i = j
  · subst hj
    by_cases hl : i < σ.length
    · rw [if_pos ⟨h, hl⟩, if_pos ⟨h, hl⟩]
    · rw [if_neg (fun z => hl z.2), if_neg (fun z => hl z.2), List.getElem?_eq_none (by rw [List.length_set]; omega), List.getElem?_eq_none (by omega)]
  · rw [List.getElem?_set_ne hj]
theorem rest_wipe {σ : L2.St} {vs : List Nat} (f : Nat → Option V) (h : ∀ v ∈ vs, v < σ.length → σ[v]? = some (f v)) : setL f (wipe σ vs) vs = σ := by
  apply List.ext_getElem?
  intro j
  rw [setL_get, wipe_setL, setL_length]
  split
  · rename_i z
    rw [h j z.1 z.2]
  · rename_i z
    rw [setL_get, if_neg z]
section
variable {K : PySem.W.Frag} {rt : List V} {G H G' H' : Hp}
theorem fps_set_nil {c' : Cell} (hc : c'.fp = []) : ∀ (cs : List Cell) (i : Nat), (fps (cs.set i c')).Sublist (fps cs)
  | [], i => by simp
  | c :: cs, 0 => by
    rw [List.set_cons_zero, fps_cons, fps_cons, hc]
    exact List.sublist_append_right _ _
  | c :: cs, i + 1 => by
    rw [List.set_cons_succ, fps_cons, fps_cons]
    exact (List.Sublist.refl _).append (fps_set_nil hc cs i)
theorem fps_setL {f : Nat → Cell} (cs : List Cell) : ∀ (vs : List Nat), (∀ v ∈ vs, (f v).fp = []) → (fps (setL f cs vs)).Sublist (fps cs)
  | [], _ => List.Sublist.refl _
  | v :: vs, h => (fps_set_nil (h v List.mem_cons_self) _ _).trans (fps_setL cs vs fun v hv => h v (List.mem_cons_of_mem _ hv))
theorem mem_setL {f : Nat → Cell} {cs : List Cell} {c : Cell} : ∀ {vs : List Nat}, c ∈ setL f cs vs → c ∈ cs ∨ ∃ v ∈ vs, v < cs.length ∧ c = f v
  | [], h => .inl h
  | v :: vs, h => by
    unfold setL at h
    obtain ⟨j, hj, e⟩ := List.getElem_of_mem h
    by_cases hv : v = j
    · subst hv
      rw [List.getElem_set_self] at e
      rw [List.length_set, setL_length] at hj
      exact .inr ⟨v, List.mem_cons_self, hj, e.symm⟩
    · rw [List.getElem_set_ne hv] at e
      have : c ∈ setL f cs vs := by rw [← e]; exact List.getElem_mem _
      rcases mem_setL this with h | ⟨v', h1, h2⟩
      · exact .inl h
      · exact .inr ⟨v', List.mem_cons_of_mem _ h1, h2⟩
theorem RR.setL {f : Nat → Cell} {B cs : List Cell} {vs : List Nat} (h : RR K rt G H (B ++ cs)) (hf : ∀ v ∈ vs, (f v).fp = []) (hc : ∀ v ∈ vs, v < cs.length → CellR K rt G H (f v)) : RR K rt G H (B ++ setL f cs vs) := by
  have sub : (fps (B ++ PD.setL f cs vs)).Sublist (fps (B ++ cs)) := by
    rw [fps_append, fps_append]
    exact (List.Sublist.refl _).append (fps_setL cs vs hf)
  refine ⟨fun c hcm => ?_, h.nd.sublist sub, fun a ha => h.out a (sub.mem ha), h.sub⟩
  rcases List.mem_append.mp hcm with q | q
  · exact h.cell c (List.mem_append_left _ q)
  · rcases mem_setL q with q | ⟨v, hv, hl, rfl⟩
    · exact h.cell c (List.mem_append_right _ q)
    · exact hc v hv hl
end
def wipeS (ρ : List Sl) (vs : List Nat) : List Sl := setL (fun _ => .un) ρ vs
def restS (ρ ρ' : List Sl) (vs : List Nat) : List Sl := setL (fun v => ρ[v]?.getD .un) ρ' vs
def litS (ρ : List Sl) (vs : List Nat) : Bool := vs.all fun v => match ρ[v]? with
  | some .un => true
  | some (.v (.sh _)) => true
  | _ => false
def wipeC (cs : List Cell) (vs : List Nat) : List Cell := setL (fun _ => ⟨.un, none, []⟩) cs vs
def restC (cs cs' : List Cell) (vs : List Nat) : List Cell := setL (fun v => cs[v]?.getD ⟨.un, none, []⟩) cs' vs
theorem slots_wipeC (cs : List Cell) (vs : List Nat) : slots (wipeC cs vs) = wipeS (slots cs) vs := setL_map _ _ _ _
theorem vals_wipeC (cs : List Cell) (vs : List Nat) : vals (wipeC cs vs) = wipe (vals cs) vs := by
  rw [wipe_setL]
  exact setL_map _ _ _ _
theorem slots_restC (cs cs' : List Cell) (vs : List Nat) : slots (restC cs cs' vs) = restS (slots cs) (slots cs') vs := by
  unfold restC restS
  have e := setL_map (fun c : Cell => c.s) (fun v => (cs[v]?).getD (⟨.un, none, []⟩ : Cell)) cs' vs
  refine e.trans ?_
  have : (fun v : Nat => (((cs[v]?).getD (⟨.un, none, []⟩ : Cell)).s)) = fun v : Nat => ((slots cs)[v]?).getD .un := by
    funext v
    unfold slots
    rw [List.getElem?_map]
    cases cs[v]? <;> rfl
  rw [this]
  rfl
theorem vals_restC {cs cs' : List Cell} {vs : List Nat} (e : vals cs' = wipe (vals cs) vs) : vals (restC cs cs' vs) = vals cs := by
  unfold restC
  have e1 := setL_map (fun c : Cell => c.o) (fun v => (cs[v]?).getD (⟨.un, none, []⟩ : Cell)) cs' vs
  refine e1.trans ?_
  show setL _ (vals cs') vs = _
  rw [e]
  refine rest_wipe _ fun v hv hl => ?_
  unfold vals at hl ⊢
  rw [List.length_map] at hl
  rw [List.getElem?_map, List.getElem?_eq_getElem hl]
  rfl
section
variable {X : Cx} {rt : List V} {W : WX} {vs : List Nat} {e a b c : Expr} {es : List Expr} {pos p p2 pos' : Pos}
theorem PEd.u {m : M T} (h : PEd X rt W e m) : PE X e (uE X.K rt W m) := by
  obtain ⟨te, h1, h2⟩ := h.ex
  exact ⟨fun pins s σ H Q I ⟨G, cs, ev, r, p⟩ => by subst ev; exact h1.run pins s _ H Q I (h2 H G cs Q r p)⟩
theorem PTsd.u {m : M Bool} (h : PTsd X rt W es m) : PTs X es (uT X.K rt W m) := by
  obtain ⟨te, h1, h2⟩ := h.ex
  exact ⟨fun pins s σ H Q I ⟨G, cs, ev, r, p⟩ => by subst ev; exact h1.run pins s _ H Q I (h2 H G cs Q r p)⟩
theorem PGo.u {tg : Expr} {g : D → List Sl → Option (List Sl)} (h : PGo X rt vs tg g) : PG X tg (uG X.K rt vs g) := by
  obtain ⟨t, h1, h2⟩ := h.ex
  exact ⟨fun pins s σ H v u Q I rv ⟨G, cs, d, ρ', ev, r, rp, hg, q⟩ => by subst ev; exact h1.run pins s _ H v u Q I rv (h2 H G cs d v Q ρ' r rp hg q)⟩
def mYes : M Bool := M.pure true
theorem ts_nil : PTsd X rt W [] mYes := ⟨_, pts_nil, fun H G cs Q r q => q true cs H G rfl rfl Stp.refl r rfl⟩
theorem ts_one {m : M Bool} (h : PTd X rt W c m) : PTsd X rt W [c] m := by
  obtain ⟨te, h1, h2⟩ := h.ex
  exact ⟨te, pts_one h1, h2⟩
theorem go_name {i : Nat} {x : Str} (hv : i ∈ vs) (hN : X.N.Nodup) (hi : X.N[i]? = some x) (hx : Loc X.env.scope x) (hf : X.fn x = true ∨ X.env.scope.names.lookup x = some .local := by first | exact .inl rfl | exact .inr rfl | assumption) : PGo X rt vs (.Name x p) (tgN i) := by
  refine ⟨_, pg_name hN hi hx hf, fun H G cs d v Q ρ' r rp e q => ?_⟩
  obtain ⟨j1, j2, j3, j4⟩ := setV_ok (r.shareI rp) e
  have z := q _ j1 j3 (fun a ha => by simpa using j4 a ha) (by rw [j2, wipe_set hv])
  rw [j2] at z
  exact z
theorem go_nil : PGos X rt vs [] tgNil := by
  refine ⟨_, pgs_nil, fun H G cs ds xs Q ρ' r rp e q => ?_⟩
  unfold tgNil at e
  cases ds with
  | nil =>
    simp only [RpL] at rp
    cases e
    exact ⟨rp, q cs rfl r (fun a h => h) rfl⟩
  | cons d ds => cases e
theorem go_cons {es : List Expr} {g : D → List Sl → Option (List Sl)} {gs : List D → List Sl → Option (List Sl)} (h1 : PGo X rt vs e g) (h2 : PGos X rt vs es gs) (hs : (assignEach (e :: es) X.env).map (·.2) = assign e X.env :: (assignEach es X.env).map (·.2) := by rfl) :
    PGos X rt vs (e :: es) (tgCons g gs) := by
  obtain ⟨t1, a1, a2⟩ := h1.ex
  obtain ⟨t2, b1, b2⟩ := h2.ex
  refine ⟨_, pgs_cons a1 b1 hs, fun H G cs ds xs Q ρ' r rp e q => ?_⟩
  cases ds with
  | nil => cases e
  | cons d ds =>
    simp only [RpL] at rp
    obtain ⟨x, rr, rfl, h3, h4⟩ := rp
    simp only [tgCons, Option.bind_eq_some_iff] at e
    obtain ⟨ρ1, e1, e2⟩ := e
    refine ⟨x, rr, rfl, a2 H G cs d x _ ρ1 r h3 e1 fun cs1 j1 j2 j3 j4 => ?_⟩
    refine b2 H G cs1 ds rr _ ρ' j2 h4 (by rw [j1]; exact e2) fun cs2 k1 k2 k3 k4 => q cs2 k1 k2 (fun a ha => j3 a (k3 a ha)) (k4.trans j4)
theorem go_tup {es : List Expr} {k n : Nat} {gs : List D → List Sl → Option (List Sl)} (hc : X.calm = true) (h : PGos X rt vs es gs) (hn : (assignEach es X.env).length = n := by rfl) (hst : (assignEach es X.env).findIdx? (·.1) = none := by rfl) : PGo X rt vs (.Tuple es k p) (tgT gs n) := by
  obtain ⟨t2, b1, b2⟩ := h.ex
  refine ⟨_, pg_tup hc b1 hn hst, fun H G cs d v Q ρ' r rp e q => ?_⟩
  cases d with
  | tup ds =>
    simp only [tgT] at e
    split at e
    · rename_i hl
      simp only [Rp] at rp
      obtain ⟨ad, xs, rfl, h2, h3⟩ := rp
      exact ⟨ad, xs, rfl, r.sub.tup h2, by rw [← h3.length]; exact hl, b2 H G cs ds xs Q ρ' r h3 e q⟩
    · cases e
  | _ => cases e
end
/-! ### list comprehensions -/
def mLcGo (g : D → List Sl → Option (List Sl)) (mt : M Bool) (me : M T) (vs : List Nat) : List D → List T → List Sl → Out T
  | [], acc, ρ => .ok (.lst acc) ρ
  | d :: ds, acc, ρ => match g d ρ with
    | none => .bad
    | some ρ1 => match mt ρ1 with
      | .ok true ρ2 => (match me ρ2 with
        | .ok t ρ3 => if acc.length < sizeLine then mLcGo g mt me vs ds (acc ++ [t]) (wipeS ρ3 vs) else .bad
        | _ => .bad)
      | .ok false ρ2 => mLcGo g mt me vs ds acc (wipeS ρ2 vs)
      | _ => .bad
def mLcEnd (vs : List Nat) (ρ1 : List Sl) : Out T → Out T
  | .ok t ρ' => .ok t (restS ρ1 ρ' vs)
  | _ => .bad
def mLc (vs : List Nat) (g : D → List Sl → Option (List Sl)) (mi : M (List D)) (mt : M Bool) (me : M T) : M T := fun ρ => (mi ρ).bind fun ds ρ1 => if litS ρ1 vs = true then mLcEnd vs ρ1 (mLcGo g mt me vs ds [] (wipeS ρ1 vs)) else .bad
section
variable {K : PySem.W.Frag} {rt : List V} {W : WX}
theorem lit_cell {G H : Hp} {cs : List Cell} {vs : List Nat} (r : RR K rt G H cs) (h : litS (slots cs) vs = true) {v : Nat} (hv : v ∈ vs) {c : Cell} (hc : cs[v]? = some c) : c.fp = [] ∧ ∀ G' H', Ext G G' → CellR K rt G' H' c := by
  have z := List.all_eq_true.mp h v hv
  have e : (slots cs)[v]? = some c.s := by unfold slots; rw [List.getElem?_map, hc]; rfl
  rw [e] at z
  have q := r.at hc
  unfold CellR at q
  cases hs : c.s with
  | un =>
    rw [hs] at q
    exact ⟨q, fun G' H' _ => by unfold CellR; rw [hs]; exact q⟩
  | p k t => rw [hs] at z; cases z
  | v t =>
    rw [hs] at z q
    cases t with
    | sh d =>
      obtain ⟨y, ey, hy⟩ := q
      simp only [RT] at hy
      refine ⟨hy.2, fun G' H' ex => ?_⟩
      unfold CellR
      rw [hs]
      exact ⟨y, ey, by simp only [RT]; exact ⟨Rp.mono ex d y hy.1, hy.2⟩⟩
    | _ => cases z
theorem lc_post {wi : TI} {g : D → List Sl → Option (List Sl)} {mi : M (List D)} {mt : M Bool} {me : M T} {vs : List Nat} {H G : Hp} {cs : List Cell} {Q : VK}
    (i2 : ∀ H G cs R, RR K rt G H cs → (match mi (slots cs) with
      | .ok ds ρ' => ∀ J cs' H' G', slots cs' = ρ' → vals cs' = vals cs → Stp H G (fps cs) H' G' (fps cs') → RR K rt G' H' cs' → ItOk K J G' ds → R J H'
      | .err x ρ' => ErrQ K rt W H G cs x ρ'
      | .bad => False) → wi (vals cs) H R)
    (r : RR K rt G H cs) (q : PostE K rt W H G cs (mLc vs g mi mt me (slots cs)) Q) : tLc wi (uG K rt vs g) (uT K rt W0 mt) (uE K rt W0 me) vs (vals cs) H Q := by
  refine i2 H G cs _ r ?_
  unfold mLc at q
  cases hmi : mi (slots cs) with
  | err x ρ' => rw [hmi] at q; exact q
  | bad => rw [hmi] at q; exact q
  | ok ds ρ' =>
    rw [hmi] at q
    intro J cs1 H1 G1 e1 ev st r1 hJ Dd hD
    have q1 : PostE K rt W H G cs (if litS ρ' vs = true then mLcEnd vs ρ' (mLcGo g mt me vs ds [] (wipeS ρ' vs)) else .bad) Q := q
    rw [← e1] at q1
    replace q1 := q1.step st ev
    by_cases lit : litS (slots cs1) vs = true
    rotate_left
    · rw [if_neg lit] at q1; exact q1.elim
    rw [if_pos lit] at q1
    have nG : G1 Dd = none := none_of_sub r1.sub hD
    -- what is due from any state of the loop
    let Fin : Hp → Hp → List Addr → Out T → Prop := fun Hh G2 F o => match o with
      | .ok t ρ' => ∀ v f' cs' H' G', slots cs' = ρ' → vals cs' = wipe (vals cs) vs → Stp Hh G2 F H' G' (f' ++ fps cs') → RR K rt G' H' (⟨.v t, some v, f'⟩ :: cs') → Q v H'
      | _ => False
    have Fstep : ∀ {Hh G2 F o Hh' G2' F'}, Fin Hh G2 F o → Stp Hh G2 F Hh' G2' F' → Fin Hh' G2' F' o := fun {Hh G2 F o Hh' G2' F'} h s => by
      cases o with
      | ok t ρ' => exact fun v f' cs' H' G' h1 h2 h3 h4 => h v f' cs' H' G' h1 h2 (s.trans h3) h4
      | err x ρ' => exact h
      | bad => exact h
    refine ⟨fun i m Hh => m = ds.length - i ∧ i ≤ ds.length ∧ ∃ G2 cs2 acc f, vals cs2 = wipe (vals cs) vs ∧ Ext G1 G2 ∧ RR K rt G2 Hh (⟨.v (.lst acc), some (.ref Dd), Dd :: f⟩ :: cs2) ∧ Fin Hh G2 (Dd :: f ++ fps cs2) (mLcGo g mt me vs (ds.drop i) acc (slots cs2)),
      ⟨ds.length, rfl, Nat.zero_le _, G1, wipeC cs1 vs, [], [], by rw [vals_wipeC, ev], Ext.refl _, ?_, ?_⟩, ?_⟩
    · -- the start's cells
      have r2 : RR K rt G1 H1 (([] : List Cell) ++ setL (fun _ => ⟨.un, none, []⟩) cs1 vs) := RR.setL (B := []) r1 (fun _ _ => rfl) fun _ _ _ => rfl
      have r3 : RR K rt G1 (upd H1 Dd (.lst [])) (wipeC cs1 vs ++ [⟨.v (.lst []), some (.ref Dd), [Dd]⟩]) := by
        refine RR.frame (A := wipeC cs1 vs) (B := []) (by rw [List.append_nil]; exact r2) (Stp.made (o := .lst []) hD) ⟨fun c hc => ?_, by simp [fps], fun a ha => ?_, sub_new r1.sub hD⟩
        · have e : c = ⟨.v (.lst []), some (.ref Dd), [Dd]⟩ := by simpa using hc
          subst e
          exact ⟨_, rfl, by simp only [RT, RTL]; exact ⟨Dd, [], [], rfl, upd_same, ⟨rfl, rfl⟩, rfl⟩⟩
        · have e : a = Dd := by simpa [fps] using ha
          rw [e]
          exact nG
      exact r3.perm (List.perm_append_comm (l₂ := ([⟨.v (.lst []), some (.ref Dd), [Dd]⟩] : List Cell)))
    · -- the start's due
      show Fin _ _ _ (mLcGo g mt me vs (ds.drop 0) [] (slots (wipeC cs1 vs)))
      rw [List.drop_zero, slots_wipeC]
      cases hgo : mLcGo g mt me vs ds [] (wipeS (slots cs1) vs) with
      | err x ρ'' => rw [hgo] at q1; exact q1
      | bad => rw [hgo] at q1; exact q1
      | ok t ρ'' =>
        rw [hgo] at q1
        intro v f' cs' H' G' k1 k2 k3 k4
        have exG : Ext G1 G' := k3.ext
        have hl : cs'.length = cs1.length := by
          have z := congrArg List.length k2
          rw [wipe_length, ← ev] at z
          simpa [vals] using z
        have fz : ∀ v ∈ vs, (cs1[v]?.getD (⟨.un, none, []⟩ : Cell)).fp = [] := fun v hv => by
          cases hc : cs1[v]? with
          | none => rfl
          | some c => exact (lit_cell r1 lit hv hc).1
        have r5 : RR K rt G' H' ([⟨.v t, some v, f'⟩] ++ restC cs1 cs' vs) := RR.setL (B := [⟨.v t, some v, f'⟩]) k4 fz fun v hv hlv => by
          cases hc : cs1[v]? with
          | none => exact rfl
          | some c => exact (lit_cell r1 lit hv hc).2 G' H' exG
        refine q1 v f' (restC cs1 cs' vs) H' G' (by rw [slots_restC, k1]) (vals_restC (by rw [k2, ev])) ?_ r5
        have s1 : Stp H1 G1 (fps cs1) (upd H1 Dd (.lst [])) G1 (Dd :: [] ++ fps (wipeC cs1 vs)) := by
          refine ((Stp.made (o := .lst []) hD).frame (A := fps cs1)).mem (fun x => by simp) (fun x hx => ?_)
          have sub := fps_setL (f := fun _ => (⟨.un, none, []⟩ : Cell)) cs1 vs fun _ _ => rfl
          rcases List.mem_append.mp hx with z | z
          · exact List.mem_append_right _ z
          · exact List.mem_append_left _ (sub.mem z)
        refine (s1.trans k3).mem (fun _ => Iff.rfl) fun x hx => ?_
        have sub : (fps (restC cs1 cs' vs)).Sublist (fps cs') := fps_setL cs' vs fz
        rcases List.mem_append.mp hx with z | z
        · exact List.mem_append_left _ z
        · exact List.mem_append_right _ (sub.mem z)
    · rintro i m Hh ⟨rfl, hi, G2, cs2, acc, f, ev2, ex2, r2, fin2⟩
      obtain ⟨k1, k2⟩ := hJ i Hh G2 ex2 r2.sub
      by_cases hlt : i < ds.length
      rotate_left
      · have e : i = ds.length := by omega
        subst e
        refine .inl ⟨k1 rfl, ?_⟩
        rw [List.drop_length] at fin2
        exact fin2 (.ref Dd) (Dd :: f) cs2 Hh G2 rfl ev2 Stp.refl r2
      have hd : ds[i]? = some ds[i] := List.getElem?_eq_getElem hlt
      obtain ⟨go, yl⟩ := k2 _ hd
      have edrop : ds.drop i = ds[i] :: ds.drop (i + 1) := (List.getElem_cons_drop (h := hlt)).symm
      rw [edrop] at fin2
      refine .inr ⟨go, fun H' => ∃ G2 cs2 acc f, vals cs2 = wipe (vals cs) vs ∧ Ext G1 G2 ∧ RR K rt G2 H' (⟨.v (.lst acc), some (.ref Dd), Dd :: f⟩ :: cs2) ∧ Fin H' G2 (Dd :: f ++ fps cs2) (mLcGo g mt me vs (ds.drop (i + 1)) acc (slots cs2)),
        fun H' ⟨G', cs', acc', f', h1, h2, h3, h4⟩ => ⟨ds.length - (i + 1), by omega, rfl, hlt, G', cs', acc', f', h1, h2, h3, h4⟩, fun x H3 y => ?_⟩
      obtain ⟨G3, st3, sub3, rp3⟩ := yl x H3 y
      have r3 : RR K rt G3 H3 (⟨.v (.lst acc), some (.ref Dd), Dd :: f⟩ :: cs2) := by
        have z : RR K rt G3 H3 ((⟨.v (.lst acc), some (.ref Dd), Dd :: f⟩ :: cs2) ++ []) := RR.frame (A := ⟨.v (.lst acc), some (.ref Dd), Dd :: f⟩ :: cs2) (B := []) (B' := []) (by rw [List.append_nil]; exact r2) st3 ⟨fun c hc => by (cases hc), List.nodup_nil, fun a ha => (by cases ha), sub3⟩
        rw [List.append_nil] at z
        exact z
      have st3' : Stp Hh G2 (Dd :: f ++ fps cs2) H3 G3 (Dd :: f ++ fps cs2) := (st3.frame (A := Dd :: f ++ fps cs2)).mem (fun x => by simp) (fun x hx => by simpa using hx)
      have fin3 := Fstep fin2 st3'
      have ex3 : Ext G1 G3 := ex2.trans st3.ext
      simp only [mLcGo] at fin3
      cases hgd : g ds[i] (slots cs2) with
      | none => simp only [hgd] at fin3; exact fin3.elim
      | some ρa =>
        simp only [hgd] at fin3
        refine ⟨G3, cs2, ds[i], ρa, ev2, r3.tail, rp3, hgd, fun cs3 j1 j2 j3 j4 => ⟨by rw [j4, ev2, wipe_wipe], ?_⟩⟩
        have w3 : wipe (vals cs3) vs = wipe (vals cs) vs := by rw [j4, ev2, wipe_wipe]
        have r3' : RR K rt G3 H3 ([⟨.v (.lst acc), some (.ref Dd), Dd :: f⟩] ++ cs3) := RR.frame (A := [⟨.v (.lst acc), some (.ref Dd), Dd :: f⟩]) (B := cs2) (B' := cs3) r3 (Stp.refl.mem (fun _ => Iff.rfl) j3) j2
        have st4 : Stp H3 G3 (Dd :: f ++ fps cs2) H3 G3 (Dd :: f ++ fps cs3) := Stp.refl.mem (fun _ => Iff.rfl) fun x hx => by
          rcases List.mem_append.mp hx with z | z
          · exact List.mem_append_left _ z
          · exact List.mem_append_right _ (j3 x z)
        refine ⟨G3, cs3, rfl, j2, ?_⟩
        rw [j1]
        -- wiped, and on to the next turn
        have wnext : ∀ {H5 G5 cs5 acc' f'}, Ext G1 G5 → vals cs5 = vals cs3 → RR K rt G5 H5 ([⟨.v (.lst acc'), some (.ref Dd), Dd :: f'⟩] ++ cs5) → Stp H3 G3 (Dd :: f ++ fps cs2) H5 G5 (Dd :: f' ++ fps cs5) → Fin H3 G3 (Dd :: f ++ fps cs2) (mLcGo g mt me vs (ds.drop (i + 1)) acc' (wipeS (slots cs5) vs)) →
            ∃ G2 cs2 acc f, vals cs2 = wipe (vals cs) vs ∧ Ext G1 G2 ∧ RR K rt G2 H5 (⟨.v (.lst acc), some (.ref Dd), Dd :: f⟩ :: cs2) ∧ Fin H5 G2 (Dd :: f ++ fps cs2) (mLcGo g mt me vs (ds.drop (i + 1)) acc (slots cs2)) := fun {H5 G5 cs5 acc' f'} ex ev5 r5 s5 fn => by
          refine ⟨G5, wipeC cs5 vs, acc', f', by rw [vals_wipeC, ev5, w3], ex, RR.setL (B := [⟨.v (.lst acc'), some (.ref Dd), Dd :: f'⟩]) r5 (fun _ _ => rfl) (fun _ _ _ => rfl), ?_⟩
          rw [slots_wipeC]
          refine Fstep fn (s5.mem (fun _ => Iff.rfl) fun x hx => ?_)
          have sub := fps_setL (f := fun _ => (⟨.un, none, []⟩ : Cell)) cs5 vs fun _ _ => rfl
          rcases List.mem_append.mp hx with z | z
          · exact List.mem_append_left _ z
          · exact List.mem_append_right _ (sub.mem z)
        cases hmt : mt ρa with
        | err x ρb => simp only [hmt] at fin3; exact fin3.elim
        | bad => simp only [hmt] at fin3; exact fin3.elim
        | ok k ρb =>
          intro k' cs4 H4 G4 e4 ev4 st4' r4 ek
          have ek' : k = k' := ek
          subst ek'
          have r4' : RR K rt G4 H4 ([⟨.v (.lst acc), some (.ref Dd), Dd :: f⟩] ++ cs4) := RR.frame (A := [⟨.v (.lst acc), some (.ref Dd), Dd :: f⟩]) (B := cs3) (B' := cs4) r3' st4' r4
          have s4 : Stp H3 G3 (Dd :: f ++ fps cs2) H4 G4 (Dd :: f ++ fps cs4) := st4.trans (st4'.frame (A := Dd :: f))
          have ex4 : Ext G1 G4 := ex3.trans st4'.ext
          cases k with
          | false =>
            rw [if_neg Bool.false_ne_true]
            simp only [hmt] at fin3
            exact wnext ex4 ev4 r4' s4 (by rw [e4]; exact fin3)
          | true =>
            rw [if_pos rfl]
            simp only [hmt] at fin3
            refine ⟨G4, cs4, ev4, r4, ?_⟩
            rw [e4]
            cases hme : me ρb with
            | err x ρc => simp only [hme] at fin3; exact fin3.elim
            | bad => simp only [hme] at fin3; exact fin3.elim
            | ok t ρc =>
              simp only [hme] at fin3
              intro v fv cs5 H5 G5 e5 ev5 st5 r5
              by_cases hz : acc.length < sizeLine
              rotate_left
              · rw [if_neg hz] at fin3; exact fin3.elim
              rw [if_pos hz] at fin3
              have r5' : RR K rt G5 H5 ([⟨.v (.lst acc), some (.ref Dd), Dd :: f⟩] ++ (⟨.v t, some v, fv⟩ :: cs5)) := RR.frame (A := [⟨.v (.lst acc), some (.ref Dd), Dd :: f⟩]) (B := cs4) (B' := ⟨.v t, some v, fv⟩ :: cs5) r4' (by rw [fps_cons]; exact st5) r5
              obtain ⟨y0, ey0, hacc⟩ := r5'.cell ⟨.v (.lst acc), some (.ref Dd), Dd :: f⟩ (by simp)
              cases ey0
              simp only [RT] at hacc
              obtain ⟨a1, xs1, f1, e6, ha1, hl1, ef⟩ := hacc
              cases e6
              cases ef
              refine ⟨xs1, ha1, by rw [← hl1.length]; exact hz, ?_⟩
              have nd := r5'.nd
              have nd0 : (Dd :: f ++ fv).Nodup := by
                have e : fps ([⟨.v (.lst acc), some (.ref Dd), Dd :: f⟩] ++ (⟨.v t, some v, fv⟩ :: cs5)) = (Dd :: f ++ fv) ++ fps cs5 := by
                  rw [fps_append, fps_cons, fps_cons, fps_nil, List.append_nil, List.append_assoc]
                rw [e] at nd
                exact (List.nodup_append.mp nd).1
              have hna : Dd ∉ f ++ fv := fun m => (List.nodup_cons.mp nd0).1 m
              obtain ⟨y, ey, hyt⟩ := r5'.cell ⟨.v t, some v, fv⟩ (by simp)
              cases ey
              have fr : ∀ b ∈ f ++ fv, ∀ u, H5 b = some u → upd H5 Dd (.lst (xs1 ++ [v])) b = some u := fun b hb u hu => by
                rw [upd_ne (fun z => hna (by rw [← z]; exact hb))]; exact hu
              have hnew : RT K G5 (upd H5 Dd (.lst (xs1 ++ [v]))) (.lst (acc ++ [t])) (.ref Dd) (Dd :: (f ++ fv)) := by
                simp only [RT]
                exact ⟨Dd, xs1 ++ [v], f ++ fv, rfl, upd_same, (RTL.frame (Ext.refl _) acc xs1 f (fun b hb => fr b (List.mem_append_left _ hb)) hl1).app (RTL.one (RT.frame (Ext.refl _) t v fv (fun b hb => fr b (List.mem_append_right _ hb)) hyt)), rfl⟩
              have rnew := RR.change (B := [⟨.v (.lst acc), some (.ref Dd), Dd :: f⟩, ⟨.v t, some v, fv⟩]) (R := cs5) (c' := ⟨.v (.lst (acc ++ [t])), some (.ref Dd), Dd :: (f ++ fv)⟩) (a := Dd) (o := .lst (xs1 ++ [v])) r5'
                (by rw [fps_cons]; simp) (fun x hx => by rw [fps_cons, fps_cons, fps_nil, List.append_nil]; simpa using hx) nd0 ⟨_, rfl, hnew⟩
              have s5 : Stp H3 G3 (Dd :: f ++ fps cs2) (upd H5 Dd (.lst (xs1 ++ [v]))) G5 (Dd :: (f ++ fv) ++ fps cs5) := by
                refine s4.trans (((st5.frame (A := Dd :: f))).trans (Stp.mut (a := Dd) (by simp) fun x hx => ?_))
                simp only [List.mem_append, List.mem_cons] at hx ⊢
                rcases hx with (h | h | h) | h
                · exact .inl (.inl h)
                · exact .inl (.inr h)
                · exact .inr (.inl h)
                · exact .inr (.inr h)
              exact wnext (ex4.trans st5.ext) (ev5.trans ev4) rnew s5 (by rw [e5]; exact fin3)
end
section
variable {X : Cx} {rt : List V} {W : WX} {e a b c : Expr} {es : List Expr} {pos p p2 pos' : Pos}
/-- what every block of a comprehension over X knows -/
abbrev Blk (X : Cx) (scope : Scope) (P : Cx → Prop) : Prop := ∀ (s : Shared) (H : Hp) (C : Addr) (cl : List (Str × Addr)) (fp : List Addr), P (X.blk s H scope (compEnvC scope cl C X.env) fp)
theorem d_lc {elt tg iter : Expr} {ifs : List Expr} {scope : Scope} {own : List (Str × Nat)} {g : D → List Sl → Option (List Sl)} {mi : M (List D)} {mt : M Bool} {me : M T} (hc : X.calm = true) (hN : X.N.Nodup) (ok : BlkOk X.N X.env.scope scope own)
    (hi : PId X rt W tg iter mi) (hg : Blk X scope fun Y => PGo Y rt (own.map (·.2)) tg g) (ht : Blk X scope fun Y => PTsd Y rt W0 ifs mt) (he : Blk X scope fun Y => PEd Y rt W0 elt me) (hs : ∀ x, foldedSetIterable iter X.env x = pure x := by intro _; rfl) :
    PEd X rt W (.ListComp elt [⟨tg, iter, ifs, 0⟩] scope pos) (mLc (own.map (·.2)) g mi mt me) := by
  obtain ⟨wi, i1, i2⟩ := hi.ex
  exact ⟨_, pe_lc hc hN i1 ok (fun s H C cl fp => (hg s H C cl fp).u) (fun s H C cl fp => (ht s H C cl fp).u) (fun s H C cl fp => (he s H C cl fp).u) hs, fun H G cs Q r q => lc_post i2 r q⟩
theorem set_core {i : Nat} {te : TE} {m : M T} (h2 : ∀ H G cs Q, RR X.K rt G H cs → PostE X.K rt W H G cs (m (slots cs)) Q → te (vals cs) H Q) {H G : Hp} {cs : List Cell} {D : Ends} (r : RR X.K rt G H cs) (q : PostSt X.K rt W H G cs (mSet i m (slots cs)) D) :
    tAsg te (gName i) D (vals cs) H := by
  refine h2 H G cs _ r (PostE.seqS q fun t v f cs' H' G' ev st r' q' => ?_)
  cases hsv : setV i t (slots cs') with
  | none => rw [hsv] at q'; exact q'.elim
  | some ρ' =>
    rw [hsv] at q'
    obtain ⟨j1, j2, j3, j4⟩ := setV_ok r' hsv
    have z := q' _ H' G' j1 (st.mem (fun _ => Iff.rfl) (fun a ha => j4 a ha)) j3
    rw [j2, ev] at z
    exact z
theorem st_setLc {i : Nat} {y : Str} {elt tg iter : Expr} {ifs : List Expr} {scope : Scope} {own : List (Str × Nat)} {g : D → List Sl → Option (List Sl)} {mi : M (List D)} {mt : M Bool} {me : M T} (hc : X.calm = true) (hN : X.N.Nodup) (hy : X.N[i]? = some y) (hyl : X.env.scope.names.lookup y = some .local)
    (hsw : swapsWith (.ListComp elt [⟨tg, iter, ifs, 0⟩] scope p) (some (.Name y p2)) pos.line X.env = pure true) (ok : BlkOk X.N X.env.scope scope own)
    (hi : PId X rt W tg iter mi) (hg : Blk X scope fun Y => PGo Y rt (own.map (·.2)) tg g) (ht : Blk X scope fun Y => PTsd Y rt W0 ifs mt) (he : Blk X scope fun Y => PEd Y rt W0 elt me) (hs : ∀ x, foldedSetIterable iter X.env x = pure x := by intro _; rfl) :
    PSd X rt W (.Assign [.Name y p2] (.ListComp elt [⟨tg, iter, ifs, 0⟩] scope p) pos) (mSet i (mLc (own.map (·.2)) g mi mt me)) := by
  obtain ⟨wi, i1, i2⟩ := hi.ex
  exact ⟨_, ps_setLc hc hN hy hyl hsw i1 ok (fun s H C cl fp => (hg s H C cl fp).u) (fun s H C cl fp => (ht s H C cl fp).u) (fun s H C cl fp => (he s H C cl fp).u) hs, fun H G cs D r q => set_core (fun H G cs Q r q => lc_post i2 r q) r q⟩
theorem takes0 {X : Cx} : L2.Takes X W0 := fun _ _ ⟨_, _, _, _, _, _, _, _, _, _, _, _, _, _, _, _, w⟩ => w.elim
/-! ### a name that is given up -/
def mMove (i : Nat) : M T := fun ρ => match ρ[i]? with
  | some (.v t) => .ok t (ρ.set i .un)
  | _ => .bad
theorem d_move (i : Nat) {x : Str} (hN : X.N[i]? = some x) (hv : Vis X.env.scope x) (hd : (x == ("__debug__" : Str)) = false := by decide) (hcd : (x == ("__classdict__" : Str)) = false := by decide) : PEd X rt W (.Name x pos) (mMove i) := by
  refine ⟨_, pe_var hN hv hd hcd, fun H G cs Q r q => ?_⟩
  unfold mMove at q
  cases hs : (slots cs)[i]? with
  | none => rw [hs] at q; exact q.elim
  | some s =>
    obtain ⟨c, hc, ec⟩ := cell_at hs
    rw [hs] at q
    cases s with
    | un => exact q.elim
    | p k t => exact q.elim
    | v t =>
      obtain ⟨s0, o, f⟩ := c
      have ec' : s0 = .v t := ec
      subst ec'
      obtain ⟨x, ho, hx⟩ := r.at hc
      have ho' : o = some x := ho
      subst ho'
      refine ⟨x, vals_at hc, ?_⟩
      refine q x f (cs.set i ⟨.un, some x, []⟩) H G slots_set (vals_set_same hc rfl) (Stp.refl.mem (fun _ => Iff.rfl) fun a ha => ?_) ⟨fun c hcm => ?_, ?_, fun a ha => ?_, r.sub⟩
      · rcases List.mem_append.mp ha with z | z
        · exact mem_fps.mpr ⟨_, List.mem_of_getElem? hc, z⟩
        · exact (fps_set_nil rfl cs i).mem z
      · rcases List.mem_cons.mp hcm with rfl | hcm
        · exact ⟨x, rfl, hx⟩
        · rcases List.mem_or_eq_of_mem_set hcm with z | rfl
          · exact r.cell c z
          · exact rfl
      · have pm : (fps (⟨.v t, some x, f⟩ :: cs.set i ⟨.un, some x, []⟩)).Perm (fps cs) := by
          have e1 : (fps cs).Perm (f ++ fps (cs.take i ++ cs.drop (i + 1))) := (perm_at hc).flatMap_right _
          have e2 : (fps (cs.set i ⟨.un, some x, []⟩)).Perm (fps (cs.take i ++ cs.drop (i + 1))) := (perm_set hc _).flatMap_right _
          rw [fps_cons]
          exact (e2.append_left f).trans e1.symm
        exact pm.nodup_iff.mpr r.nd
      · rw [fps_cons] at ha
        rcases List.mem_append.mp ha with z | z
        · exact r.out a (mem_fps.mpr ⟨_, List.mem_of_getElem? hc, z⟩)
        · exact r.out a ((fps_set_nil rfl cs i).mem z)
/-! ### over a shared sequence of any kind -/
theorem i_or {tg iter : Expr} {m m1 m2 : M (List D)} (h1 : PId X rt W tg iter m1) (h2 : PId X rt W tg iter m2) (h : ∀ ρ, m ρ = m1 ρ ∨ m ρ = m2 ρ) : PId X rt W tg iter m := by
  obtain ⟨w1, a1, a2⟩ := h1.ex
  obtain ⟨w2, b1, b2⟩ := h2.ex
  refine ⟨fun σ H R => w1 σ H R ∨ w2 σ H R, ⟨fun pins s σ H R I w => ?_⟩, fun H G cs R r q => ?_⟩
  · rcases w with w | w
    · exact a1.run pins s σ H R I w
    · exact b1.run pins s σ H R I w
  · rcases h (slots cs) with e | e
    · exact .inl (a2 H G cs R r (by rw [← e]; exact q))
    · exact .inr (b2 H G cs R r (by rw [← e]; exact q))
theorem it_str {K : PySem.W.Frag} {G : Hp} {z : Str} : ItOk K (Its z) G (strD z) := fun i H1 G1 ex sb => by
  have l : (strD z).length = z.cps.size := by simp [strD]
  refine ⟨fun e => by show z.cps.size ≤ i; omega, fun d hd => ?_⟩
  have hi : i < z.cps.size := by
    have := (List.getElem?_eq_some_iff.mp hd).1
    omega
  refine ⟨hi, fun y H2 ⟨e, c, hc, hy⟩ => ?_⟩
  subst e
  subst hy
  refine ⟨G1, Stp.refl, sb, ?_⟩
  unfold strD at hd
  rw [List.getElem?_map] at hd
  have hc' : z.cps.toList[i]? = some c := by rw [← hc]; simp
  rw [hc'] at hd
  cases hd
  simp only [Rp]
theorem i_str {tg l : Expr} {m : M D} (h : PEs X rt W l m) : PId X rt W tg l (mChars m) := by
  obtain ⟨te, h1, h2⟩ := h.ex
  refine ⟨_, pi_str h1, fun H G cs R r q => ?_⟩
  refine i_core (P := fun o => match o with
    | .ok ds ρ' => ∀ J cs' H' G', slots cs' = ρ' → vals cs' = vals cs → Stp H G (fps cs) H' G' (fps cs') → RR X.K rt G' H' cs' → ItOk X.K J G' ds → R J H'
    | .err x ρ' => ErrQ X.K rt W H G cs x ρ'
    | .bad => False) h2 r q (fun x ρ' z => z) (fun z => z) fun d v cs1 H1 G1 ev st r1 rp1 q1 => ?_
  cases d with
  | str z =>
    simp only [Rp] at rp1
    subst rp1
    exact ⟨z, rfl, q1 _ cs1 H1 G1 rfl ev st r1 it_str⟩
  | _ => exact q1.elim
def D.seq? : D → Option (List D)
  | .lst ds => some ds
  | .scr ds => some ds
  | .tup ds => some ds
  | .str z => some (strD z)
  | _ => none
def mSeqs (m : M D) : M (List D) := fun ρ => (m ρ).bind fun d => M.ofO d.seq?
theorem i_any {tg l : Expr} {m : M D} (h : PEs X rt W l m) : PId X rt W tg l (mSeqs m) := by
  refine i_or (i_list h) (i_or (m := fun ρ => (m ρ).bind fun d => match d with
    | .tup ds => M.pure ds
    | .str z => M.pure (strD z)
    | _ => fun _ => .bad) (i_tup h) (i_str h) fun ρ => ?_) fun ρ => ?_
  · unfold mItemsT mChars
    cases hm : m ρ with
    | ok d ρ' => cases d <;> first | exact .inl rfl | exact .inr rfl
    | err x ρ' => exact .inl rfl
    | bad => exact .inl rfl
  · unfold mSeqs mItems
    cases hm : m ρ with
    | ok d ρ' => cases d <;> first | exact .inl rfl | exact .inr rfl
    | err x ρ' => exact .inl rfl
    | bad => exact .inl rfl
end
end PD

set_option Elab.async false
set_option linter.all false
set_option maxRecDepth 100000
set_option maxHeartbeats 2000000
/-! PD: own error classes over ValueError whose __init__ says super().__init__(text), then self.f = f. -/
namespace PD
open PySem PySem.Spec PyProof.Rows L2
/-! ### facts -/
def oexB (K : PySem.W.Frag) (C : Addr) : Bool := (match K.lookup C with
  | some ⟨.type "type", _, .cls cd, sl⟩ => (match cd.mro, sl.toList with
    | .ref C' :: bm, [_, _, _, _, some (.builtin n), _] => C' == C && n == "ValueError.__new__" && !cd.hasDel && cd.hasDict && PySem.HandSPX.refsVE bm
    | _, _ => false)
  | _ => false) && (decide (PySem.W.findIn K (.ref C) "__setattr__" = some (some (.builtin "object.__setattr__"))) && (decide (PySem.W.subIn K (.ref C) (.type "BaseException") = some true) && (decide (PySem.W.typeIn K (.ref C) = some (.type "type")) && PySem.W.keepIn K (.ref C))))
theorem oexB_ok {K : PySem.W.Frag} {C : Addr} (h : oexB K C = true) : OexC K C := by
  unfold oexB at h
  obtain ⟨q, h⟩ := He.ba h
  obtain ⟨h1, h⟩ := He.ba h
  obtain ⟨h2, h⟩ := He.ba h
  obtain ⟨h3, h4⟩ := He.ba h
  refine ⟨?_, of_decide_eq_true h1, of_decide_eq_true h2, of_decide_eq_true h3, h4⟩
  split at q
  · rename_i dd cd sl ho
    split at q
    · rename_i C' bm k0 k1 k2 k3 n k5 hm hs
      simp only [Bool.and_eq_true, beq_iff_eq, Bool.not_eq_true'] at q
      obtain ⟨⟨⟨⟨rfl, rfl⟩, hdel⟩, hdict⟩, ht⟩ := q
      obtain ⟨nm, bs, mro, ns, qn, hd, sn, sub, ab, col, del⟩ := cd
      dsimp only at hm hdel hdict
      subst hm hdel hdict
      have hsl : sl = #[k0, k1, k2, k3, some (.builtin "ValueError.__new__"), k5] := by
        obtain ⟨l⟩ := sl
        simp only at hs
        rw [hs]
      subst hsl
      exact ⟨nm, qn, ns, bs, bm, sn, sub, ab, col, dd, k0, k1, k2, k3, k5, ho, ht⟩
    · cases q
  · cases q
/-- what __init__'s super() needs of the written part: fI at its place, its cell for __class__, its code object, the class's mro -/
structure SupI (P : Program) (K : PySem.W.Frag) (C fI : Addr) (name qual : Str) (params : Arguments) (body : List Stmt) (scope : Scope) (fd : FuncData) (cc cda : Addr) : Prop where
  ex : ∃ oc od dV kV doc pm an ct osl, fd = PySem.W.fnX name qual params body scope [("__class__", cc)] dV kV doc pm an (.ref cda) ct ∧ K.lookup fI = some ⟨oc, od, .func fd, osl⟩
  cell : ∃ cl cld csl, K.lookup cc = some ⟨cl, cld, .cell (some (.ref C)), csl⟩
  code : PySem.W.codeIn K (.ref cda) qual = true
  file : ∃ ccl cdd vs ccs file tf, K.lookup cda = some ⟨ccl, cdd, .fields vs, ccs⟩ ∧ vs[2]? = some (.str file tf) ∧ ((P.main.file : Str) == file) = true
  top : (P.main.scope.names.lookup ("super" : Str)).isSome = false
  nsup : PySem.W.nsIn K mainGlobals "super" = some none
  opq : PySem.W.nsIn K cStatics "thirdparty.any" = some none
  sup : PySem.W.ks_superIn K C C "__init__" = some (some (.builtin "ValueError.__init__"))
  ve : PySem.W.subIn K (.ref C) (.type "ValueError") = some true
  self : PySem.W.mroIn K C (.ref C) = some true
  oex : OexC K C
/-! ### the bound ValueError.__init__, called -/
section
open PySem.W
variable {prog : Program} {w : World} {M : Model} {A : Around} {E : Value → Shared → Prop} {h : Heap} {g : Array GenState} {d : Drawn} {t : Nat} {os : OsState}
variable {nm q : Str} {C N : Addr} {bs bm : List Value} {hdct : Bool} {sn : List Str} {sub : List Value} {ab : Bool} {col : Option Bool} {dd : Option Addr} {k0 k1 k2 k3 k5 : Option Value}
theorem call_ve {u e t0 : Addr} {rest : List Value} {Q : Value → Shared → Prop}
    (hC : h.get? C = some (excClassObj nm q C N bs bm hdct sn sub ab col dd k0 k1 k2 k3 k5 "ValueError.__new__")) (he : h.get? e = some (HandSPX.excO C t0)) (hu : h.get? u = some (kxs_mw "ValueError.__init__" e)) (hrest : rest.length ≤ sizeLine)
    (hq : ∀ h' t1, (∀ b o, b ≠ e → h.get? b = some o → h'.get? b = some o) → h'.get? e = some (HandSPX.excO C t1) → Q .none ⟨h', g, d, t, os⟩) :
    wpAny (model prog w) A (call (.ref u) rest) Q E ⟨h, g, d, t, os⟩ := by
  refine wpAny_call (codeAny_of_tree ?_)
  show wpAny _ A.in1 (callAny (.ref u) ⟨rest, []⟩) _ _ _
  simp only [callAny]
  refine wpAny_bind (wpAny_load hu ?_)
  simp only [kxs_mw, show (Value.type "method-wrapper" == Value.type "method" || Value.type "method-wrapper" == Value.type "builtin_function_or_method" || Value.type "method-wrapper" == Value.type "method-wrapper") = true by decide, if_true]
  refine W.KFB.if_so (by decide) ?_
  refine wpAny_bind (ESX.check_bound F.excBase_ValueError hC he rfl ?_)
  refine wpAny_bind (wpAny_pure (wpAny_pure ?_))
  refine ⟨Code.quiet_builtin _ (by decide +kernel), codeAny_builtin F.excBase_ValueError.initEntry ?_⟩
  rw [Around.under_plainId F.excBase_ValueError.init.plain _]
  wp_walk
  refine hq _ h.objs.size (fun b o hb ho => ?_) ?_
  · rw [Heap.get?_update_other _ _ (Ne.symm hb)]
    exact Heap.get?_push_of_some _ ho
  · rw [Heap.get?_update_self _ (Heap.get?_push_of_some _ he) rfl]
    rfl
end
/-! ### super().__init__(text) -/
section
open PySem.W
variable {X : Cx} {σ : L2.St} {H : Hp} {s : Shared} {P : Program} {C fI : Addr} {name qual : Str} {params : Arguments} {body : List Stmt} {scope : Scope} {fd : FuncData} {cc cda a L : Addr}
theorem super_stmt {pl : Sem Bool} {p0 p1 p2 p3 apos pos : Pos} {m : Str} {j : Nat} {ar : Arg} {E : Value → Shared → Prop} {bdy : List Stmt} {Q : Flow → Shared → Prop} (S : SupI X.prog X.K C fI name qual params body scope fd cc cda) (I : Inv X [] σ H s) (henv : X.env = envX qual scope L fI (.ref cda) [("__class__", cc)])
    (hp : (params.posonlyargs ++ params.args).head? = some ar) (har : X.N[0]? = some ar.arg) (hka : scope.names.lookup ar.arg = some .local) (hks : scope.names.lookup ("super" : Str) = some .globalImplicit) (hkc : scope.names.lookup ("__class__" : Str) = some .free) (hk : scope.kind = .function)
    (h0 : σ[0]? = some (some (.ref a))) (ea : H a = some (exo a C none)) (hq : ∀ s', Inv X [] σ H s' → Q .next s')
    (hst : starEach [Expr.Constant (.str m) j p2] X.env = (false, eval (.Constant (.str m) j p2) X.env) :: starEach [] X.env) (hsw : swapsWith (.Call (.Attribute (.Call (.Name "super" p0) [] [] p1) "__init__" apos) [.Constant (.str m) j p2] [] p3) none pos.line X.env = pure false)
    (he : eval (.Call (.Attribute (.Call (.Name "super" p0) [] [] p1) "__init__" apos) [.Constant (.str m) j p2] [] p3) X.env = (do
      let ov ← attributeBase (.Call (.Name "super" p0) [] [] p1) "__init__" X.env (eval (.Call (.Name "super" p0) [] [] p1) X.env)
      standAt apos.atName
      let (f, first) ← holding [ov] (getMethod ov "__init__" pl)
      callWith p3 f first (backTo p3 (starEach [.Constant (.str m) j p2] X.env)) [])) :
    _root_.PySem.wpAt (model X.prog X.w) X.A (.func bdy X.env) (exec (.Expr (.Call (.Attribute (.Call (.Name "super" p0) [] [] p1) "__init__" apos) [.Constant (.str m) j p2] [] p3) pos) X.env) Q E s := by
  have kI := I.kIn
  obtain ⟨oc, od, dV, kV, doc, pm, an, ct, osl, rfl, lk⟩ := S.ex
  obtain ⟨cl, cld, csl, hcell⟩ := S.cell
  obtain ⟨ccl, cdd, vs, ccs, file, tf, hcode, hvs, hfile⟩ := S.file
  obtain ⟨nm, q, N, bs, bm, sn, sub, ab, col, dd, k0, k1, k2, k3, k5, hC, hbm⟩ := S.oex.cls
  obtain ⟨t0, hoe⟩ := exo_at I.hok ea
  have hC' := kI _ _ hC
  have I0 := I
  obtain ⟨mm, hns, hm⟩ := I.loc
  have hself : ∃ v, mm ar.arg = some v ∧ RelV (.ref a) v := by
    obtain ⟨u, r, lo⟩ := hm 0 ar.arg _ har h0 (.inl (by rw [henv]; exact hka))
    rcases lo with ⟨_, e⟩ | ⟨e, _⟩
    · exact ⟨u, e, r⟩
    · have z : scope.names.lookup ar.arg = some .cell ∨ scope.names.lookup ar.arg = some .free := by rw [henv] at e; exact e
      rw [hka] at z
      rcases z with z | z <;> cases z
  obtain ⟨v, hv, rv⟩ := hself
  cases (show v = Value.ref a from rv)
  refine ks_wpAt_Expr_any (ks_wpAt_MethodCall (pl := pl) ?_ he) (by rw [henv]; show (scope.kind == ScopeKind.module && _) = false; rw [hk]; rfl) hsw
  rw [henv] at hns ⊢
  refine ks_wpAt_super_base (env := envX qual scope L fI (.ref cda) [("__class__", cc)]) hks hkc (by decide) rfl (kI _ _ lk) rfl hp rfl (kI _ _ hcode) rfl hvs hfile S.top ?_
  obtain ⟨mb, hb1, hb2⟩ := I.mod.blt
  refine ks_loadName_global hk hks (Calls.loadGlobal_builtin (env := envX qual scope L fI (.ref cda) [("__class__", cc)]) (I.mod.glob.keeps I.bk) (mg_none_of I.mod.kin I.mod.glob S.nsup) (hb1.keeps I.bk) ((hb2 _ (by decide)).trans PyProof.Rows.Boot.«super») ⟨rfl, ?_⟩)
  refine wpAny_loadName_free hk hkc rfl ⟨_, kI _ _ hcell, rfl⟩ ?_
  refine wpAny_loadName_local hk hka hns hv ?_
  obtain ⟨hh, g, d, t, os⟩ := s
  refine ks_wpAny_isType_cls hC' rfl ⟨rfl, ?_⟩
  refine ks_wpAny_call_super hC' rfl hoe rfl (fun c e => by cases e) (looks_mroIn kI S.self) (fun h1 e1 k1 => ?_)
  have I1 : Inv X [] σ H ⟨h1, g, d, t, os⟩ := I0.kept (t' := t) k1
  have kI1 := I1.kIn
  have hoe1 := k1 _ _ hoe
  have inst : InstAt h1 a { cls := .ref C, dict := none, data := .fields #[.ref t0, .none, .none, .none, .bool false, .none] } C none := ⟨hoe1, rfl, rfl, trivial⟩
  have hsup := S.sup
  unfold ks_superIn at hsup
  have hcl : clsIn X.K C = some { name := nm, bases := bs, mro := .ref C :: bm, ns := N, qualname := q, hasDict := true, slotNames := sn, subclasses := sub, abstract := ab, collection := col, hasDel := false } := by unfold clsIn; rw [hC] <;> rfl
  rw [hcl] at hsup
  refine kxs_getMethod kxs_ValueError e1 (looks_opaque kI1 S.opq) (l₀ := .ref C :: bm) ?_ rfl kI1 hsup (inst.type.andThen (looks_subIn kI1 S.ve)) (ks_ne kI1 inst hcl) (by decide) ?_
  · exact fun A Q E s k q => wpAny_bind ((looks_clsIn kI1 hcl) A _ E s k (wpAny_pure q))
  have I2 : Inv X [] σ H ⟨h1.push (kxs_mw "ValueError.__init__" a), g, d, t + 1, os⟩ := I1.kept (t' := t + 1) fun b o e => Heap.get?_push_of_some _ e
  have hu : (h1.push (kxs_mw "ValueError.__init__" a)).get? h1.objs.size = some (kxs_mw "ValueError.__init__" a) := Heap.get?_push_at rfl rfl
  rw [← henv]
  rw [hst]
  refine kxs_callWith (i := "ValueError.__init__") (x := a) rfl (PySem.Calls.evalArgs_plain ?_)
  show wpAny _ _ (spliced ((false, eval (.Constant (.str m) j p2) X.env) :: [])) _ _ _
  refine Calls.spliced_cons (Calls.Constant_str ?_)
  refine wpAny_pure ⟨hu, ?_⟩
  have I3 : Inv X [] σ H ⟨h1.push (kxs_mw "ValueError.__init__" a), g, d, t + 1 + 1, os⟩ := I2.tok _
  show wpAny _ _ (call (.ref h1.objs.size) [.str m (t + 1)]) _ _ ⟨h1.push (kxs_mw "ValueError.__init__" a), g, d, t + 1 + 1, os⟩
  refine call_ve (I3.kIn _ _ hC) (Heap.get?_push_of_some _ hoe1) hu (by show 1 ≤ sizeLine; rw [sizeLine_eq]; omega) fun h' t2 k hx => hq _ ?_
  have J := I3.write (t' := t + 1 + 1) (x := a) (e := a) (o := exo a C none) (by rw [ea]; exact True.intro) (.inl rfl) k ⟨_, hx⟩ (exo_ok hx)
  have eu : upd H a (exo a C none) = H := by
    funext b
    by_cases hb : b = a
    · rw [hb, upd_same, ea]
    · rw [upd_ne hb]
  rw [eu] at J
  exact J
end
end PD

set_option Elab.async false
set_option linter.all false
set_option maxRecDepth 100000
set_option maxHeartbeats 2000000
/-! PD: such an __init__ keeps its promise; raise; what a handler sees. -/
namespace PD
open PySem PySem.Spec PyProof.Rows L2 NdefX
section
variable {P : Program} {w : World} {K : PySem.W.Frag} {mg : Str → Option Value} {base : Heap} {C fI : Addr} {name qual : Str} {params : Arguments} {rest : List Stmt} {scope : Scope} {fd : FuncData} {cc cda : Addr} {k : Nat} {CX : CXT} {N ps : List Str} {sp : Sp}
theorem fn_super {pl : Sem Bool} {p0 p1 p2 p3 apos pos : Pos} {m : Str} {j : Nat} {ar : Arg} {pr : List Str} (hps : ps = ar.arg :: pr)
    (S : SupI P K C fI name qual params (.Expr (.Call (.Attribute (.Call (.Name "super" p0) [] [] p1) "__init__" apos) [.Constant (.str m) j p2] [] p3) pos :: rest) scope fd cc cda) (NS : NScope N ps ["__class__"] scope)
    (hp : (params.posonlyargs ++ params.args).head? = some ar) (hks : scope.names.lookup ("super" : Str) = some .globalImplicit)
    (hsp : ∀ vs H Q E, sp vs H Q E → vs.length = ps.length ∧ ∃ a r, vs = .ref a :: r ∧ H a = some (exo a C none))
    (hst : ∀ L, starEach [Expr.Constant (.str m) j p2] (PySem.W.envX qual scope L fI (.ref cda) [("__class__", cc)]) = (false, eval (.Constant (.str m) j p2) (PySem.W.envX qual scope L fI (.ref cda) [("__class__", cc)])) :: starEach [] (PySem.W.envX qual scope L fI (.ref cda) [("__class__", cc)]))
    (hsw : ∀ L, swapsWith (.Call (.Attribute (.Call (.Name "super" p0) [] [] p1) "__init__" apos) [.Constant (.str m) j p2] [] p3) none pos.line (PySem.W.envX qual scope L fI (.ref cda) [("__class__", cc)]) = pure false)
    (he : ∀ L, eval (.Call (.Attribute (.Call (.Name "super" p0) [] [] p1) "__init__" apos) [.Constant (.str m) j p2] [] p3) (PySem.W.envX qual scope L fI (.ref cda) [("__class__", cc)]) = (do
      let ov ← attributeBase (.Call (.Name "super" p0) [] [] p1) "__init__" (PySem.W.envX qual scope L fI (.ref cda) [("__class__", cc)]) (eval (.Call (.Name "super" p0) [] [] p1) (PySem.W.envX qual scope L fI (.ref cda) [("__class__", cc)]))
      standAt apos.atName
      let (f, first) ← holding [ov] (getMethod ov "__init__" pl)
      callWith p3 f first (backTo p3 (starEach [.Constant (.str m) j p2] (PySem.W.envX qual scope L fI (.ref cda) [("__class__", cc)]))) []))
    (hrest : ∀ (A : Around) (outer : List Env) (s : Shared) (H : Hp) (vs : List V) (Q : VK) (E : XK), sp vs H Q E →
      ∃ t, PSs (ncx CX P w K mg base N ⟨name, qual, params, .Expr (.Call (.Attribute (.Call (.Name "super" p0) [] [] p1) "__init__" apos) [.Constant (.str m) j p2] [] p3) pos :: rest, scope, [("__class__", cc)], cda⟩ fI A outer s H E) rest t ∧ t { nx := fun _ H' => Q .non H', rt := Q } (startF N vs [some (.ref C)]) H) :
    FnOk P w K mg base CX (k + 1) fI fd ps sp := by
  refine ⟨fun vs H Q E h => (hsp vs H Q E h).1, fun A outer s H args us vs Q E hr e0 hb r hq => ?_⟩
  obtain ⟨hl, a, vr, rfl, ea⟩ := hsp _ _ _ _ hq
  have KX : K.In s.heap := e0.mod.kin.keeps fun b o e => (e0.bs b o e).1
  have lim : s.heap.NoLimit := e0.mod.nolimit.keeps fun b o e => (e0.bs b o e).1
  obtain ⟨oc, od, dV, kV, doc, pm, an, ct, osl, efd, lk⟩ := S.ex
  obtain ⟨cl, cld, csl, hcell⟩ := S.cell
  have hcH : H cc = none := (e0.bs _ _ (e0.mod.kin _ _ hcell)).2
  have CA : CellsAt [("__class__", cc)] ["__class__"] [some (.ref C)] s.heap H := by
    have look : ∀ {y : Str} {c : Addr}, List.lookup y [(("__class__" : Str), cc)] = some c → y = "__class__" ∧ c = cc := fun {y c} e => by
      by_cases h : y = "__class__"
      · subst h
        simp [List.lookup] at e
        exact ⟨rfl, e.symm⟩
      · have z : (y == ("__class__" : Str)) = false := by simpa using h
        simp [List.lookup, z] at e
    refine ⟨rfl, fun y c e => ?_, fun x y c e1 e2 => ?_, fun i y e => ?_⟩
    · obtain ⟨_, rfl⟩ := look e
      exact ⟨hcH, some (.ref C), _, KX _ _ hcell, rfl⟩
    · rw [(look e1).1, (look e2).1]
    · have e' : y = "__class__" := by
        cases i with
        | zero => simpa using e.symm
        | succ i => simp at e
      subst e'
      refine ⟨cc, by simp [List.lookup], fun v hv => ?_⟩
      cases i with
      | zero =>
        simp at hv
        subst hv
        exact ⟨.ref C, rfl, _, KX _ _ hcell, rfl⟩
      | succ i => simp at e
  refine PySem.ks_codeAny_call_defAt (fd := fd) (body := .Expr (.Call (.Attribute (.Call (.Name "super" p0) [] [] p1) "__init__" apos) [.Constant (.str m) j p2] [] p3) pos :: rest) (binds := ps.zip us) hr.depth (KX _ _ lk) rfl lim (by rw [efd]; exact PySem.W.codeRec_of KX S.code) (by rw [efd]) hb
    (by rw [efd]; exact NS.nocell) (by rw [efd]; exact fun ⟨n, _⟩ hy => NS.par n (List.of_mem_zip hy).1) (fun h₁ hns kp => ?_) (by rw [efd]; exact NS.co) (by rw [efd]; exact NS.gen) (by rw [efd]; exact NS.kind)
  have eenv : callEnv fd s.heap.objs.size fI = PySem.W.envX qual scope s.heap.objs.size fI (.ref cda) [("__class__", cc)] := by rw [efd]; rfl
  rw [eenv]
  obtain ⟨t, ht, hqt⟩ := hrest A outer s H _ Q E hq
  have I : Inv (ncx CX P w K mg base N ⟨name, qual, params, .Expr (.Call (.Attribute (.Call (.Name "super" p0) [] [] p1) "__init__" apos) [.Constant (.str m) j p2] [] p3) pos :: rest, scope, [("__class__", cc)], cda⟩ fI A outer s H E) [] (startF N (.ref a :: vr) [some (.ref C)]) H { s with heap := h₁, toks := s.toks + (ps.zip us).length } := inv_startN NS hr.hd e0 hl r CA hns kp
  have hN0 : N[0]? = some ar.arg := by
    have e := NS.pre
    rw [hps] at e
    cases N with
    | nil => simp at e
    | cons n N' => simp at e; simp [e.1]
  refine PySem.ks_wpAt_execs_cons ?_
  have fin : ∀ {σ' : L2.St} {H' : Hp} {v : V} {u : Value} {s' : Shared}, Inv (ncx CX P w K mg base N ⟨name, qual, params, .Expr (.Call (.Attribute (.Call (.Name "super" p0) [] [] p1) "__init__" apos) [.Constant (.str m) j p2] [] p3) pos :: rest, scope, [("__class__", cc)], cda⟩ fI A outer s H E) [] σ' H' s' → L2.RelV v u → Q v H' → CE outer P w H s Q u s' :=
    fun {σ' H' v u s'} J rv q => ⟨v, H', J.os, J.bare, J.base, J.hok, rv, q⟩
  refine super_stmt (X := ncx CX P w K mg base N ⟨name, qual, params, .Expr (.Call (.Attribute (.Call (.Name "super" p0) [] [] p1) "__init__" apos) [.Constant (.str m) j p2] [] p3) pos :: rest, scope, [("__class__", cc)], cda⟩ fI A outer s H E) S I rfl hp hN0
    (NS.par ar.arg (by rw [hps]; exact List.mem_cons_self)) hks (NS.frk _ (by simp)) NS.kind rfl ea (fun s' J => ?_) (hst _) (hsw _) (he _)
  refine wpAt_of_wpAny (wpAny_mono (ht.run [] s' _ H _ J hqt) (fun fl s'' hs => ?_) fun e s' hs => hs)
  cases fl with
  | ret u =>
    obtain ⟨v, σ', H', J, rv, q⟩ := hs
    exact fin J rv q
  | next =>
    obtain ⟨σ', H', J, q⟩ := hs
    exact fin (v := V.non) (u := Value.none) J rfl q
  | brk =>
    obtain ⟨_, _, _, q⟩ := hs
    exact False.elim q
  | cont =>
    obtain ⟨_, _, _, q⟩ := hs
    exact False.elim q
/-- the promise of an __init__ that keeps its argument as the field f -/
def spEI (C : Addr) (f : Str) : Sp := fun vs H Q _ => ∃ a v, vs = [.ref a, v] ∧ H a = some (exo a C none) ∧ ∀ dx, H dx = none → dx ≠ a → Q .non (upd (upd H dx (exd dx [(f, v)])) a (exo a C (some dx)))
theorem fn_excinit {pl : Sem Bool} {p0 p1 p2 p3 apos pos q0 q1 q2 q3 : Pos} {m f x y : Str} {j : Nat} {ar : Arg} (har : ar.arg = y)
    (S : SupI P K C fI name qual params [.Expr (.Call (.Attribute (.Call (.Name "super" p0) [] [] p1) "__init__" apos) [.Constant (.str m) j p2] [] p3) pos, .Assign [.Attribute (.Name y q0) f q1] (.Name x q2) q3] scope fd cc cda) (NS : NScope [y, x, "__class__"] [y, x] ["__class__"] scope)
    (hp : (params.posonlyargs ++ params.args).head? = some ar) (hks : scope.names.lookup ("super" : Str) = some .globalImplicit) (hno : PySem.W.findIn K (.ref C) f = some none)
    (hd1 : (x == ("__debug__" : Str)) = false ∧ (x == ("__classdict__" : Str)) = false) (hd2 : (y == ("__debug__" : Str)) = false ∧ (y == ("__classdict__" : Str)) = false)
    (hst : ∀ L, starEach [Expr.Constant (.str m) j p2] (PySem.W.envX qual scope L fI (.ref cda) [("__class__", cc)]) = (false, eval (.Constant (.str m) j p2) (PySem.W.envX qual scope L fI (.ref cda) [("__class__", cc)])) :: starEach [] (PySem.W.envX qual scope L fI (.ref cda) [("__class__", cc)]))
    (hsw : ∀ L, swapsWith (.Call (.Attribute (.Call (.Name "super" p0) [] [] p1) "__init__" apos) [.Constant (.str m) j p2] [] p3) none pos.line (PySem.W.envX qual scope L fI (.ref cda) [("__class__", cc)]) = pure false)
    (he : ∀ L, eval (.Call (.Attribute (.Call (.Name "super" p0) [] [] p1) "__init__" apos) [.Constant (.str m) j p2] [] p3) (PySem.W.envX qual scope L fI (.ref cda) [("__class__", cc)]) = (do
      let ov ← attributeBase (.Call (.Name "super" p0) [] [] p1) "__init__" (PySem.W.envX qual scope L fI (.ref cda) [("__class__", cc)]) (eval (.Call (.Name "super" p0) [] [] p1) (PySem.W.envX qual scope L fI (.ref cda) [("__class__", cc)]))
      standAt apos.atName
      let (f, first) ← holding [ov] (getMethod ov "__init__" pl)
      callWith p3 f first (backTo p3 (starEach [.Constant (.str m) j p2] (PySem.W.envX qual scope L fI (.ref cda) [("__class__", cc)]))) []))
    (hsa : ∀ L, swapsWith (.Name x q2) (some (.Attribute (.Name y q0) f q1)) q3.line (PySem.W.envX qual scope L fI (.ref cda) [("__class__", cc)]) = pure false) :
    FnOk P w K mg base CX (k + 1) fI fd [y, x] (spEI C f) := by
  subst har
  refine fn_super rfl S NS hp hks (fun vs H Q E h => ?_) hst hsw he fun A outer s H vs Q E h => ?_
  · obtain ⟨a, v, rfl, ea, _⟩ := h
    exact ⟨rfl, a, [v], rfl, ea⟩
  · obtain ⟨a, v, rfl, ea, q⟩ := h
    refine ⟨_, pss_one (ps_ost (pe_var (i := 0) rfl (.inl (NS.par _ (by simp))) hd2.1 hd2.2) (pe_var (i := 1) rfl (.inl (NS.par _ (by simp))) hd1.1 hd1.2) (hsa _)), ?_⟩
    exact ⟨v, rfl, .ref a, rfl, a, C, rfl, S.oex, hno, .inl ⟨ea, q⟩⟩
end
end PD

set_option Elab.async false
set_option linter.all false
set_option maxRecDepth 100000
set_option maxHeartbeats 2000000
/-! PD: raise, try .. except X as e, what a handler asks. -/
namespace PD
open PySem PySem.Spec PyProof.Rows L2
/-! ### raise -/
section
variable {X : Cx} {rt : List V} {W : WX} {e : Expr} {es : List Expr} {ta : TA} {p p2 pos pos' : Pos} {C fI : Addr} {k : Nat} {fd : FuncData} {ps : List Str} {x f : Str}
theorem pmk_ei (T : OexC X.K C) (iC : PySem.W.findIn X.K (.ref C) "__init__" = some (some (.ref fI))) (tI : PySem.W.typeIn X.K (.ref fI) = some (.type "function"))
    (F1 : FnOk X.prog X.w X.K X.mg X.base (L2.CX X.prog X.w) k fI fd ps (spEI C f)) (hr : Room (k + 1) X.A) (hb : Binds X.K fd ps []) (hg : Gl X x) (hm : X.mg x = some (.ref C)) (ha : PA X [e] ta)
    (hdb : (x == ("__debug__" : Str)) = false := by decide) (he : starEach [e] X.env = (false, eval e X.env) :: starEach [] X.env := by rfl) (hpl : (backTo pos (starEach [] X.env)).any (·.1) = false := by rfl) :
    L2.PMk X (.Call (.Name x p) [e] [] pos) (fun σ H Q => ta σ H fun vs H1 => ∃ v, vs = [v] ∧ ∀ dx, H1 dx = none → Q (.ref C) (some dx) (upd H1 dx (.xd [(f, v)]))) := by
  intro pins s σ H Q I h
  obtain ⟨nm, q, N, bs, bm, sn, sub, ab, col, dd, k0, k1, k2, k3, k5, hC, hbm⟩ := T.cls
  refine wpAny_Call_Name_kw (ld_glob I hg hm ?_ hdb)
  refine PySem.W.callWith_K (h₀ := X.base) I.ok.mod.kin T.kC (thn (ha.run pos pins s σ H _ I h) fun us s1 ⟨vs, H1, I1, r1, v, hz, q1⟩ => ⟨I1.kIn, ?_⟩) he hpl
  subst hz
  show wpAny _ _ (call (.ref C) us) _ _ _
  obtain ⟨hp, g, dr, tk, os⟩ := s1
  have hsz : hp.objs.size ≤ hp.objs.size + 1 := Nat.le_succ _
  have hn : H1 (hp.objs.size + 1) = none := I1.hok.fresh hsz
  have hsp : spEI C f [.ref (hp.objs.size + 1), v] (upd H1 (hp.objs.size + 1) (exo (hp.objs.size + 1) C none)) (fun u H2 => u = .non ∧ ∃ dx, H1 dx = none ∧ dx ≠ hp.objs.size + 1 ∧
      H2 = upd (upd (upd H1 (hp.objs.size + 1) (exo (hp.objs.size + 1) C none)) dx (exd dx [(f, v)])) (hp.objs.size + 1) (exo (hp.objs.size + 1) C (some dx))) (fun _ _ _ => False) :=
    ⟨_, v, rfl, upd_same, fun dx e1 e2 => ⟨rfl, dx, by rw [upd_ne e2] at e1; exact e1, e2, rfl⟩⟩
  have kk : ∀ b o, hp.get? b = some o → ((hp.push (PySem.W.kdv_tup us)).push (PySem.HandSPX.excO C hp.objs.size)).get? b = some o := fun b o e => Heap.get?_push_of_some _ (Heap.get?_push_of_some _ e)
  have hget : ((hp.push (PySem.W.kdv_tup us)).push (PySem.HandSPX.excO C hp.objs.size)).get? (hp.objs.size + 1) = some (PySem.HandSPX.excO C hp.objs.size) := by heap_get
  have I2 : Inv X pins σ (upd H1 (hp.objs.size + 1) (exo (hp.objs.size + 1) C none)) ⟨(hp.push (PySem.W.kdv_tup us)).push (PySem.HandSPX.excO C hp.objs.size), g, dr, tk, os⟩ :=
    I1.laid (t' := tk) (a := hp.objs.size + 1) (o := exo (hp.objs.size + 1) C none) (h' := (hp.push (PySem.W.kdv_tup us)).push (PySem.HandSPX.excO C hp.objs.size)) kk hsz (exo_ok hget)
  have r2 : Vals [V.ref (hp.objs.size + 1), v] (Value.ref (hp.objs.size + 1) :: us) := .cons rfl r1
  have hl : (Value.ref (hp.objs.size + 1) :: us ++ []).length = ps.length := by
    have e := r2.length
    rw [F1.len _ _ _ _ hsp] at e
    rw [List.append_nil]
    exact e.symm
  have hus : us.length ≤ sizeLine := by
    rw [← Paired.length r1, sizeLine_eq]
    show 1 ≤ _
    omega
  have b2 := hb _ (Value.ref (hp.objs.size + 1) :: us) I2.kIn hl
  rw [List.append_nil] at b2
  refine wpAny_call (PySem.HandSPX.call_own F.excBase_ValueError (fun Y => PySem.HandSPX.refsVE_contains Y bm hbm) (I1.kIn _ _ hC) (PySem.W.looks_findIn I1.kIn iC) (fun self => PySem.W.bind_fn I1.kIn self tI) hus
    (codeAny_mono (F1.run _ X.stack _ _ ⟨Value.ref (hp.objs.size + 1) :: us, []⟩ (Value.ref (hp.objs.size + 1) :: us) _ _ (fun _ _ _ => False) (hr.make C us []) (I2.env0.make C us []) b2 r2 hsp) fun r s' hq' => ?_))
  cases r with
  | error er =>
    obtain ⟨_, _, _, _, _, _, _, _, _, _, _, _, z⟩ := (show L2.CX X.prog X.w X.stack _ _ _ _ _ from hq')
    exact z.elim
  | ok fl =>
    cases fl with
    | ret u =>
      obtain ⟨v0, H2, os2, bare2, un2, hok2, rv, ev, d, hd1, hda, eH⟩ := hq'
      subst ev
      obtain ⟨h2, g2, d2, t2, os'⟩ := s'
      have ea : H2 (hp.objs.size + 1) = some (exo (hp.objs.size + 1) C (some d)) := by rw [eH, upd_same]
      have ed : H2 d = some (exd d [(f, v)]) := by rw [eH, upd_ne hda, upd_same]
      obtain ⟨t0, G, J, kG, ge, hoe, na⟩ := mk_end0 (d2 := d2) (t2 := t2) I1 hsz kk un2 hok2 os2 bare2 ea ed hd1
      have eq : upd (del H2 (hp.objs.size + 1)) d (.xd [(f, v)]) = upd H1 d (.xd [(f, v)]) := by
        funext b
        by_cases hb : b = d
        · rw [hb, upd_same, upd_same]
        · rw [upd_ne hb, upd_ne hb]
          by_cases hba : b = hp.objs.size + 1
          · rw [hba, del_same, hn]
          · rw [del_ne hba, eH, upd_ne hba, upd_ne hb, upd_ne hba]
      rw [eq] at J na
      exact ⟨rv, ⟨hp.objs.size + 1, _, _, ⟨G, g2, d2, t2, os'⟩, _, .ref C, some d, rfl, J, kG, ge, hoe, ⟨rfl, rfl⟩, rfl, rfl, na, rfl, bare2, raises_own T.exC T.tyC, q1 d hd1⟩⟩
    | next => exact False.elim hq'
    | brk => exact False.elim hq'
    | cont => exact False.elim hq'
/-- raise X(e), X's __init__ keeps e as its field f -/
def mRaise1 (c f : Str) (ms : M (List D)) : MS := fun ρ => (ms ρ).bindS fun ds ρ' => match ds with
  | [d] => .err ⟨c, [f], [d]⟩ ρ'
  | _ => .bad
/-- raise X(text) -/
def mRaise0 (c : Str) : MS := fun ρ => .err ⟨c, [], []⟩ ρ
theorem st_raise1 {ms : M (List D)} (hc : X.calm = true) (tk : L2.Takes X W) (T : OexC X.K (He.ga X.K x)) (iC : PySem.W.findIn X.K (.ref (He.ga X.K x)) "__init__" = some (some (.ref fI))) (tI : PySem.W.typeIn X.K (.ref fI) = some (.type "function"))
    (F1 : FnOk X.prog X.w X.K X.mg X.base (L2.CX X.prog X.w) k fI fd ps (spEI (He.ga X.K x) f)) (hr : Room (k + 1) X.A) (hb : Binds X.K fd ps []) (hg : Gl X x) (hm : X.mg x = some (.ref (He.ga X.K x))) (ha : PAs X rt W [e] ms)
    (hdb : (x == ("__debug__" : Str)) = false := by decide) (he : starEach [e] X.env = (false, eval e X.env) :: starEach [] X.env := by rfl) (hpl : (backTo pos (starEach [] X.env)).any (·.1) = false := by rfl) :
    PSd X rt W (.Raise (some (.Call (.Name x p) [e] [] pos)) none pos') (mRaise1 x f ms) := by
  obtain ⟨ta, h1, h2⟩ := ha.ex
  refine ⟨_, L2.ps_raise hc tk (pmk_ei T iC tI F1 hr hb hg hm h1 hdb he hpl), fun H G cs D r q => h2 H G cs _ r (PostK.seqS q fun ds vs cs1 H1 G1 ev st r1 rp q1 => ?_)⟩
  cases ds with
  | nil => exact q1.elim
  | cons d ds =>
    cases ds with
    | cons _ _ => exact q1.elim
    | nil =>
      obtain ⟨v, rfl, rv⟩ := RpL.one rp
      refine ⟨v, rfl, fun dx hdx => ?_⟩
      have nG : G1 dx = none := none_of_sub r1.sub hdx
      have ex : Ext G1 (upd G1 dx (.xd [(f, v)])) := Ext.new nG
      have nf : dx ∉ fps cs1 := fun m => by
        obtain ⟨o, e⟩ := r1.dom dx m
        rw [hdx] at e
        cases e
      show W _ _ (vals cs) _
      rw [← ev]
      refine q1 (.ref (He.ga X.K x)) (some dx) cs1 (upd H1 dx (.xd [(f, v)])) (upd G1 dx (.xd [(f, v)])) rfl ⟨fun b o hb _ => Ext.new hdx b o hb, ex, fun a ha => .inl ha, fun b o hb => ?_⟩ ⟨fun c hcm => ?_, r1.nd, fun a ha => ?_, fun a o ho => ?_⟩ ⟨rfl, [v], rfl, RpL.mono ex _ _ rp, .inr ⟨dx, rfl, upd_same⟩⟩
      · by_cases hb' : b = dx
        · exact .inr (.inl (by rw [hb']; exact hdx))
        · rw [upd_ne hb'] at hb
          exact .inl hb
      · exact (r1.cell c hcm).frame ex fun a _ o e => Ext.new hdx a o e
      · rw [upd_ne (fun z => nf (by rw [← z]; exact ha))]
        exact r1.out a ha
      · by_cases hb' : a = dx
        · rw [hb', upd_same] at ho ⊢
          exact .inl ho
        · rw [upd_ne hb'] at ho ⊢
          exact r1.sub a o ho
theorem st_raiseT {m : Str} {j : Nat} (hc : X.calm = true) (tk : L2.Takes X W) (q : PySem.W.excIn X.K (He.ga X.K x) He.veBase "ValueError.__new__" = true) (kC : PySem.W.keepIn X.K (.ref (He.ga X.K x)) = true) (hs : PySem.W.subIn X.K (.ref (He.ga X.K x)) (.type "BaseException") = some true) (ht : PySem.W.typeIn X.K (.ref (He.ga X.K x)) = some (.type "type"))
    (hg : Gl X x) (hm : X.mg x = some (.ref (He.ga X.K x))) (hdb : (x == ("__debug__" : Str)) = false := by decide) :
    PSd X rt W (.Raise (some (.Call (.Name x p) [.Constant (.str m) j p2] [] pos)) none pos') (mRaise0 x) := by
  refine ⟨_, L2.ps_raise hc tk (L2.pmk_own F.excBase_ValueError q hm kC (raises_own hs ht) hg hdb), fun H G cs D r q1 => ?_⟩
  exact q1 (.ref (He.ga X.K x)) none cs H G rfl Stp.refl r ⟨rfl, [], rfl, by simp only [RpL], .inl ⟨rfl, rfl⟩⟩
/-- anything that is not to be reached -/
def mBad : MS := fun _ => .bad
theorem st_bad {s : Stmt} : PSd X rt W s mBad := ⟨fun _ _ _ => False, ⟨fun _ _ _ _ _ _ z => z.elim⟩, fun H G cs D r q => q.elim⟩
theorem ss_bad {s : List Stmt} : PSsd X rt W s mBad := ⟨fun _ _ _ => False, ⟨fun _ _ _ _ _ _ z => z.elim⟩, fun H G cs D r q => q.elim⟩
end
/-! ### try -/
section
variable (K : PySem.W.Frag) (rt : List V) (W : WX)
def uS (m : MS) : TS := fun D σ H => ∃ G cs, vals cs = σ ∧ RR K rt G H cs ∧ PostSt K rt W H G cs (m (slots cs)) D
end
theorem Stp.widen {H G H' G' : Hp} {F F1 F' : List Addr} (s : Stp H G F H' G' F') (h : ∀ a, a ∈ F → a ∈ F1) : Stp H G F1 H' G' F' :=
  ⟨fun b o e n => s.keep b o e fun m => n (h b m), s.ext, fun a ha => (s.own a ha).imp (h a) id, fun b o e => (s.new b o e).imp id (Or.imp id (h b))⟩
def mWipeO (i : Nat) : SOut → SOut
  | .nx ρ => .nx (ρ.set i .un)
  | .bk ρ => .bk (ρ.set i .un)
  | .ct ρ => .ct (ρ.set i .un)
  | .rt t ρ => .rt t (ρ.set i .un)
  | _ => .bad
/-- catches: of which classes' exceptions it is told whether the clause takes them; mh: what the suite does -/
def mTry (i : Nat) (catches : Str → Option Bool) (body : MS) (mh : Exn → MS) : MS := fun ρ => match body ρ with
  | .err x ρ' => if i < ρ'.length then (match catches x.c with
    | some true => mh x (ρ'.set i .un)
    | some false => .err x ρ'
    | none => .bad) else .bad
  | o => o
section
variable {X : Cx} {rt : List V} {W : WX} {e : Expr} {es : List Expr} {s : Stmt} {ss : List Stmt} {p p2 pos pos' np : Pos} {x n : Str}
theorem PSsd.u {m : MS} (h : PSsd X rt W ss m) : PSs X ss (uS X.K rt W m) := by
  obtain ⟨t, h1, h2⟩ := h.ex
  exact ⟨fun pins s σ H D I ⟨G, cs, ev, r, q⟩ => by subst ev; exact h1.run pins s _ H D I (h2 H G cs D r q)⟩
theorem st_try {i : Nat} {catches : Str → Option Bool} {cv : Value} {body suite : List Stmt} {b₀ : Stmt} {m : MS} {mh : Exn → MS} {ms : Addr → Option Addr → Str → MS} (hs : X.stack = X.env :: X.outer) (hf : X.env.frame = some X.env.locals) (hN : X.N.Nodup) (hi : X.N[i]? = some n) (hln : X.env.kindOf n = some .local)
    (hc : Names X x cv) (tk : L2.Takes X W) (hcat : ∀ c b, catches c = some b → PySem.W.exmOne X.K (.ref (He.ga X.K c)) cv = some b)
    (hb : ∀ (W' : WX) (pn : List (Addr × Obj)) (xe : Value → Shared → Prop), L2.Takes (X.tr pn xe) W' → PassesOwn (model X.prog X.w) X.A X.env xe → PSsd (X.tr pn xe) rt W' body m)
    (hsu : ∀ (a : Addr) (oe : Obj) (c : Str) (d : Option Addr) (pn : List (Addr × Obj)), L2.Zc (.ref (He.ga X.K c)) d oe → (∃ vs, oe.data = .fields vs) → PSsd (X.suite a ((a, oe) :: pn)) rt W0 (b₀ :: suite) (ms a d c))
    (heq : ∀ (a : Addr) (d : Option Addr) (x : Exn) (ρ : List Sl), i < ρ.length → mWipeO i (ms a d x.c (ρ.set i (.v (.sh (.exn a d x.c x.ns x.ds))))) = mh x (ρ.set i .un)) :
    PSd X rt W (.Try body [.ExceptHandler (some (.Name x np)) (some n) (b₀ :: suite) pos'] [] [] pos) (mTry i catches m mh) := by
  refine ⟨_, L2.ps_try_as (Wout := W) (tb := fun W' => uS X.K rt W' m) (ts := fun a cls d => fun D σ H => ∃ c, cls = .ref (He.ga X.K c) ∧ uS X.K rt W0 (ms a d c) D σ H) hs hf hN hi hln hc tk (fun W' pn xe t p => (hb W' pn xe t p).u)
    (fun a oe cls d pn hz hv => ⟨fun pins s σ H D I ⟨c, ec, h⟩ => ((hsu a oe c d pn (by rw [← ec]; exact hz) hv).u).run pins s σ H D I h⟩), fun H G cs D r q => ?_⟩
  refine ⟨G, cs, rfl, r, ?_⟩
  unfold mTry at q
  cases hm : m (slots cs) with
  | nx ρ' => rw [hm] at q; exact q
  | bk ρ' => rw [hm] at q; exact q
  | ct ρ' => rw [hm] at q; exact q
  | rt t ρ' => rw [hm] at q; exact q
  | bad => rw [hm] at q; exact q
  | err ex ρ' =>
    rw [hm] at q
    simp only at q
    split at q
    · rename_i hlen
      cases hcx : catches ex.c with
      | none => rw [hcx] at q; exact q.elim
      | some b =>
        rw [hcx] at q
        intro cls d cs' H' G' e1 st r' hx
        have hx' := hx
        obtain ⟨ecls, xs, hl, hxs, hdict⟩ := hx'
        refine ⟨b, by rw [ecls]; exact hcat _ _ hcx, fun hb' a ha => ?_, fun hb' => ?_⟩
        · subst hb'
          have q' : PostSt X.K rt W H' G' cs' (mh ex (ρ'.set i .un)) D := PostSt.step st q
          have hcell : CellR X.K rt G' H' ⟨.v (.sh (.exn a d ex.c ex.ns ex.ds)), some (.ref a), []⟩ := ⟨.ref a, rfl, by simp only [RT, Rp]; exact ⟨⟨trivial, xs, hl, hxs, hdict⟩, trivial⟩⟩
          refine ⟨ex.c, ecls, G', cs'.set i ⟨.v (.sh (.exn a d ex.c ex.ns ex.ds)), some (.ref a), []⟩, vals_set, RR.setL (B := []) (vs := [i]) (f := fun _ => ⟨.v (.sh (.exn a d ex.c ex.ns ex.ds)), some (.ref a), []⟩) r' (fun _ _ => rfl) (fun _ _ _ => hcell), ?_⟩
          rw [slots_set, e1]
          have hsub : ∀ z, z ∈ fps (cs'.set i ⟨.v (.sh (.exn a d ex.c ex.ns ex.ds)), some (.ref a), []⟩) → z ∈ fps cs' := fun z hz => (fps_set_nil rfl cs' i).mem hz
          rw [← heq a d ex ρ' hlen] at q'
          cases hms : ms a d ex.c (ρ'.set i (.v (.sh (.exn a d ex.c ex.ns ex.ds)))) with
          | nx ρ2 =>
            rw [hms] at q'
            intro cs3 H3 G3 k1 k2 k3
            have z := q' (cs3.set i ⟨.un, none, []⟩) H3 G3 (by rw [slots_set, k1]) ((k2.widen hsub).mem (fun _ => Iff.rfl) fun a ha => (fps_set_nil rfl cs3 i).mem ha) (RR.setL (B := []) (vs := [i]) (f := fun _ => ⟨.un, none, []⟩) k3 (fun _ _ => rfl) (fun _ _ _ => rfl))
            rw [vals_set] at z
            exact z
          | bk ρ2 =>
            rw [hms] at q'
            intro cs3 H3 G3 k1 k2 k3
            have z := q' (cs3.set i ⟨.un, none, []⟩) H3 G3 (by rw [slots_set, k1]) ((k2.widen hsub).mem (fun _ => Iff.rfl) fun a ha => (fps_set_nil rfl cs3 i).mem ha) (RR.setL (B := []) (vs := [i]) (f := fun _ => ⟨.un, none, []⟩) k3 (fun _ _ => rfl) (fun _ _ _ => rfl))
            rw [vals_set] at z
            exact z
          | ct ρ2 =>
            rw [hms] at q'
            intro cs3 H3 G3 k1 k2 k3
            have z := q' (cs3.set i ⟨.un, none, []⟩) H3 G3 (by rw [slots_set, k1]) ((k2.widen hsub).mem (fun _ => Iff.rfl) fun a ha => (fps_set_nil rfl cs3 i).mem ha) (RR.setL (B := []) (vs := [i]) (f := fun _ => ⟨.un, none, []⟩) k3 (fun _ _ => rfl) (fun _ _ _ => rfl))
            rw [vals_set] at z
            exact z
          | rt t ρ2 =>
            rw [hms] at q'
            intro v f cs3 H3 G3 k1 k2 k3
            refine q' v f (cs3.set i ⟨.un, none, []⟩) H3 G3 (by rw [slots_set, k1]) ((k2.widen hsub).mem (fun _ => Iff.rfl) fun a ha => ?_) (RR.setL (B := [⟨.v t, some v, f⟩]) (vs := [i]) (f := fun _ => ⟨.un, none, []⟩) k3 (fun _ _ => rfl) (fun _ _ _ => rfl))
            rcases List.mem_append.mp ha with z | z
            · exact List.mem_append_left _ z
            · exact List.mem_append_right _ ((fps_set_nil rfl cs3 i).mem z)
          | err y ρ2 => rw [hms] at q'; exact q'.elim
          | bad => rw [hms] at q'; exact q'.elim
        · subst hb'
          exact q cls d cs' H' G' e1 st r' hx
    · exact q.elim
end
/-! ### what a handler asks -/
/-- the class's facts, so that isinstance asks its instances rightly, and their fields are read -/
def excB (K : PySem.W.Frag) (C : Addr) : Bool := decide (PySem.W.findIn K (.ref C) "__getattribute__" = some (some (.builtin "BaseException.__getattribute__"))) && (decide (PySem.W.findIn K (.ref C) "__getattr__" = some none) && (decide (PySem.W.subIn K (.ref C) (.type "BaseException") = some true) && (PySem.W.hasDictIn K C &&
  (decide (PySem.W.findIn K (.ref C) "__class__" = some (some (.builtin "object.__class__"))) && (decide (PySem.W.specialIn K (.builtin "object.__class__") "__get__" = some (some (.builtin "getset_descriptor.__get__"))) && (decide (PySem.W.takesIn K (.builtin "object.__class__") = some true) && decide (PySem.W.mroIn K C (.type "object") = some true)))))))
theorem excB_ok {K : PySem.W.Frag} {C : Addr} (h : excB K C = true) : ExcC K C ∧ XfC K C := by
  obtain ⟨h1, h⟩ := He.ba h
  obtain ⟨h2, h⟩ := He.ba h
  obtain ⟨h3, h⟩ := He.ba h
  obtain ⟨h4, h⟩ := He.ba h
  obtain ⟨h5, h⟩ := He.ba h
  obtain ⟨h6, h⟩ := He.ba h
  obtain ⟨h7, h8⟩ := He.ba h
  exact ⟨⟨of_decide_eq_true h1, of_decide_eq_true h2, of_decide_eq_true h3, h4, of_decide_eq_true h5, of_decide_eq_true h6, of_decide_eq_true h7, of_decide_eq_true h8⟩, ⟨of_decide_eq_true h1, of_decide_eq_true h2, of_decide_eq_true h3, h4⟩⟩
/-- the context bears the caught exception: at a, of the class c, its dict dd -/
structure HotE (X : Cx) (a : Addr) (dd : Option Addr) (c : Str) : Prop where
  ex : ∃ oe, (a, oe) ∈ X.pn ∧ L2.Zc (.ref (He.ga X.K c)) dd oe ∧ ∃ vs, oe.data = .fields vs
section
variable {X : Cx} {rt : List V} {W : WX} {e : Expr} {es : List Expr} {p p2 pos pos' np : Pos} {x n : Str} {a : Addr} {dd : Option Addr} {c : Str}
theorem HotE.inst (h : HotE X a dd c) {pins : List (Addr × Obj)} {σ : L2.St} {H : Hp} {s : Shared} (I : Inv X pins σ H s) (hd : dd = none ∨ ∃ da fs, dd = some da ∧ H da = some (.xd fs)) :
    ∃ oe od, PySem.W.InstAt s.heap a oe (He.ga X.K c) od ∧ (∀ da fs, dd = some da → H da = some (.xd fs) → ∃ (mA : Str → Option Value) (ob : Obj), od = some ob ∧ (∀ nm, PySem.W.lookIn nm ob = some (mA nm)) ∧ ∀ f, RelO (fs.lookup f) (mA f)) := by
  obtain ⟨oe, hp, ⟨h1, h2⟩, vs, hv⟩ := h.ex
  obtain ⟨hget, _⟩ := I.pin (a, oe) (List.mem_append_left _ hp)
  have ncls : PySem.W.notCls oe = true := by unfold PySem.W.notCls; rw [hv] <;> rfl
  rcases hd with hd | ⟨da, fs, hd, hH⟩
  · subst hd
    exact ⟨oe, none, ⟨hget, h1, ncls, by rw [h2]; trivial⟩, fun da fs z _ => by cases z⟩
  · subst hd
    have hx : ObjOk X.prog X.w H s.heap da (.xd fs) := I.hok da _ hH
    obtain ⟨mA, hns, hr⟩ := hx
    obtain ⟨od, ho, hl⟩ := lookIn_ns hns
    refine ⟨oe, some od, ⟨hget, h1, ncls, by rw [h2]; exact ho⟩, fun da' fs' z hH' => ?_⟩
    cases z
    rw [hH] at hH'
    cases hH'
    exact ⟨mA, od, rfl, hl, hr⟩
/-- isinstance(e, c), e the caught exception -/
def rIsX (K : PySem.W.Frag) (a : Addr) (dd : Option Addr) (c : Str) : List V → Hp → VK → Prop := fun xs H Q => ∃ (cv : V) (cu : Value) (b : Bool), xs = [.ref a, cv] ∧ ClsV cv cu ∧ PySem.W.kitOne K (.ref (He.ga K c)) cu = some b ∧ (dd = none ∨ ∃ da fs, dd = some da ∧ H da = some (.xd fs)) ∧ Q (.bl b) H
theorem call_isX (hE : HotE X a dd c) (C : ExcC X.K (He.ga X.K c)) : CallR X (.builtin "isinstance") (rIsX X.K a dd c) := by
  intro pins s σ H xs us Q I r h
  obtain ⟨cv, cu, b, rfl, k, e, hd, q⟩ := h
  obtain ⟨u1, u2, rfl, r1, r2⟩ := vals2 r
  cases (show u1 = Value.ref a from r1)
  have e2 := k.eq r2
  subst e2
  obtain ⟨oe, od, J, _⟩ := hE.inst I hd
  have hcl : (PySem.W.clsIn X.K (He.ga X.K c)).isSome = true := by obtain ⟨cd, hc, _⟩ := PySem.W.any_some C.hd; rw [hc]; rfl
  exact PySem.W.kia_one (PySem.W.kitx_exc hcl C.hg C.hk C.hs C.ha C.hn C.ht C.hm) I.kIn J e (fun z => nomatch z) fun tk => ⟨.bl b, H, I.tok tk, rfl, q⟩
end
end PD

set_option Elab.async false
set_option linter.all false
set_option maxRecDepth 100000
set_option maxHeartbeats 2000000
/-! PD: isinstance; the caught exception's fields; defs that are called within an except suite. -/
namespace PD
open PySem PySem.Spec PyProof.Rows L2
/-! ### isinstance(e, T), T built-in -/
inductive Ty where
  | int | bool | str | list | tuple
def Ty.nm : Ty → String
  | .int => "int" | .bool => "bool" | .str => "str" | .list => "list" | .tuple => "tuple"
def isT : Ty → D → Option Bool
  | .int, .int _ => some true
  | .int, .bl _ => some true
  | .bool, .bl _ => some true
  | .str, .str _ => some true
  | .list, .lst _ => some true
  | .list, .scr _ => some true
  | .tuple, .tup _ => some true
  | _, .non => some false
  | _, .bl _ => some false
  | _, .int _ => some false
  | _, .str _ => some false
  | _, .lst _ => some false
  | _, .scr _ => some false
  | _, .tup _ => some false
  | _, _ => none
def isTs : List Ty → D → Option Bool
  | [], d => isT .int d |>.map fun _ => false
  | t :: ts, d => match isT t d with
    | some true => some true
    | some false => isTs ts d
    | none => none
/-- the built-in type of a datum -/
def D.tyN : D → Option String
  | .non => some "NoneType"
  | .bl _ => some "bool"
  | .int _ => some "int"
  | .str _ => some "str"
  | .lst _ => some "list"
  | .scr _ => some "list"
  | .tup _ => some "tuple"
  | _ => none
theorem tyN_some {t : Ty} {d : D} {b : Bool} (h : isT t d = some b) : ∃ n, d.tyN = some n ∧ kitB n t.nm = some b := by
  cases d with
  | non => refine ⟨_, rfl, ?_⟩; cases t <;> (cases h; decide +kernel)
  | bl _ => refine ⟨_, rfl, ?_⟩; cases t <;> (cases h; decide +kernel)
  | int _ => refine ⟨_, rfl, ?_⟩; cases t <;> (cases h; decide +kernel)
  | str _ => refine ⟨_, rfl, ?_⟩; cases t <;> (cases h; decide +kernel)
  | lst _ => refine ⟨_, rfl, ?_⟩; cases t <;> (cases h; decide +kernel)
  | scr _ => refine ⟨_, rfl, ?_⟩; cases t <;> (cases h; decide +kernel)
  | tup _ => refine ⟨_, rfl, ?_⟩; cases t <;> (cases h; decide +kernel)
  | dct _ _ => cases t <;> cases h
  | ins _ _ _ => cases t <;> cases h
  | exn _ _ _ _ _ => cases t <;> cases h
theorem tyX_of {K : PySem.W.Frag} {G H : Hp} {d : D} {v : V} {n : String} (s : Sub G H) (h : Rp K G d v) (e : d.tyN = some n) : TyX K H v (.type n) := by
  cases d with
  | non => cases e; simp only [Rp] at h; subst h; exact .base .non
  | bl _ => cases e; simp only [Rp] at h; subst h; exact .base (.bl _)
  | int _ => cases e; simp only [Rp] at h; subst h; exact .base (.int _)
  | str _ => cases e; simp only [Rp] at h; subst h; exact .base (.str _)
  | lst _ => cases e; simp only [Rp] at h; obtain ⟨a, xs, rfl, h1, _⟩ := h; exact .base (.lst (s.lst h1))
  | scr _ =>
    cases e
    simp only [Rp] at h
    obtain ⟨a, xs, rfl, h1, _⟩ := h
    rcases s.list h1 with (h1 | ⟨o, h1⟩) | ⟨o, its, n, h1, h2, _⟩
    · exact .base (.lst h1)
    · exact .base (.frz h1)
    · exact .kList h1 h2
  | tup _ =>
    cases e
    simp only [Rp] at h
    obtain ⟨a, xs, rfl, h1, _⟩ := h
    rcases s.tup h1 with (h1 | ⟨o, h1⟩) | ⟨o, its, n, h1, h2, _⟩
    · exact .base (.tup h1)
    · exact .fTuple h1
    · exact .kTuple h1 h2
  | dct _ _ => cases e
  | ins _ _ _ => cases e
  | exn _ _ _ _ _ => cases e
def mIsT (ts : List Ty) (m : M D) : M D := fun ρ => (m ρ).bind fun d => M.ofO ((isTs ts d).map D.bl)
section
variable {X : Cx} {rt : List V} {W : WX} {e : Expr} {es : List Expr} {p p2 p3 pos pos' np : Pos} {x n : Str}
/-- the name T is the built-in type -/
structure TyNm (X : Cx) (e : Expr) (t : Ty) : Prop where
  pe : PE X e (tC (.ty t.nm))
theorem tyNm {t : Ty} {x : Str} (hg : Gl X x) (hm : X.mg x = none) (hv : bootBuiltins x = some (.type t.nm)) (hn : x ≠ "__name__" := by decide) (hd : (x == ("__debug__" : Str)) = false := by decide) : TyNm X (.Name x p) t :=
  ⟨pe_bltn (v := .ty t.nm) hg hm hv rfl hn hd⟩
theorem is1_none {K : PySem.W.Frag} {G H : Hp} {d : D} {v : V} {t : Ty} {b : Bool} {Q : VK} (s : Sub G H) (h : Rp K G d v) (e : isTs [t] d = some b) (q : Q (.bl b) H) : rIsi K [v, .ty t.nm] H Q := by
  unfold isTs at e
  cases hi : isT t d with
  | none => rw [hi] at e; cases e
  | some k =>
    rw [hi] at e
    obtain ⟨n, e1, e2⟩ := tyN_some hi
    have ek : k = b := by
      cases k with
      | true => cases e; rfl
      | false =>
        simp only [isTs] at e
        cases hj : isT .int d with
        | none => rw [hj] at e; cases e
        | some _ => rw [hj] at e; cases e; rfl
    subst ek
    exact ⟨v, .ty t.nm, .type n, .type t.nm, k, rfl, .ty _, tyX_of s h e1, kit_ty e2, q⟩
theorem s_is1 {t : Ty} {m : M D} {e2 : Expr} (hg : Gl X "isinstance") (hm : X.mg "isinstance" = none) (h : PEs X rt W e m) (ht : TyNm X e2 t)
    (he2 : starEach [e2] X.env = (false, eval e2 X.env) :: starEach [] X.env := by rfl) (he : starEach [e, e2] X.env = (false, eval e X.env) :: starEach [e2] X.env := by rfl) (hpl : (backTo pos (starEach [e2] X.env)).any (·.1) = false := by rfl) :
    PEs X rt W (.Call (.Name "isinstance" p) [e, e2] [] pos) (mIsT [t] m) := by
  obtain ⟨te, h1, h2⟩ := h.ex
  refine ⟨_, pe_callB call_isi hg hm Boot.«isinstance» (pa_cons h1 (pa_cons ht.pe pa_nil he2) he) (by decide) (by decide) he hpl, fun H G cs Q r q => h2 H G cs _ r (PostK.seqK q fun d v cs1 H1 G1 ev st r1 rp q1 => ?_)⟩
  unfold M.ofO at q1
  cases hi : isTs [t] d with
  | none => rw [hi] at q1; exact q1.elim
  | some b =>
    rw [hi] at q1
    exact is1_none (Q := Q) r1.sub rp hi (q1 (.bl b) cs1 H1 G1 rfl rfl Stp.refl r1 (by show Rp _ _ _ _; simp only [Rp]))
theorem isTs_any {K : PySem.W.Frag} {d : D} {n : String} (e : d.tyN = some n) : ∀ {ts : List Ty} {b : Bool}, isTs ts d = some b → PySem.W.kitAny K (.type n) (ts.map fun t => .type t.nm) = some b
  | [], b, h => by
    simp only [isTs] at h
    cases hj : isT .int d with
    | none => rw [hj] at h; cases h
    | some _ => rw [hj] at h; cases h; rfl
  | t :: ts, b, h => by
    simp only [isTs] at h
    cases hi : isT t d with
    | none => rw [hi] at h; cases h
    | some k =>
      rw [hi] at h
      obtain ⟨n', e1, e2⟩ := tyN_some hi
      rw [e] at e1
      cases e1
      refine kitAny_cons (kit_ty e2) (fun z => ?_) (fun z => ?_)
      · subst z
        exact isTs_any e h
      · subst z
        cases h; rfl
/-- the names of types, in a row -/
structure TyNms (X : Cx) (es : List Expr) (ts : List Ty) : Prop where
  pa : PA X es (fun _ H Q => Q (ts.map fun t => V.ty t.nm) H)
theorem tyNms_nil : TyNms X [] [] := ⟨⟨fun pos pins s σ H Q I h => pa_nil.run pos pins s σ H Q I h⟩⟩
theorem tyNms_cons {t : Ty} {ts : List Ty} (h : TyNm X e t) (hs : TyNms X es ts) (he : starEach (e :: es) X.env = (false, eval e X.env) :: starEach es X.env := by rfl) : TyNms X (e :: es) (t :: ts) :=
  ⟨⟨fun pos pins s σ H Q I q => (pa_cons h.pe hs.pa he).run pos pins s σ H Q I q⟩⟩
theorem clsVs : ∀ ts : List Ty, Paired ClsV (ts.map fun t => V.ty t.nm) (ts.map fun t => Value.type t.nm)
  | [] => .nil
  | t :: ts => .cons (.ty _) (clsVs ts)
theorem s_isTs {ts : List Ty} {m : M D} {k : Nat} (hg : Gl X "isinstance") (hm : X.mg "isinstance" = none) (h : PEs X rt W e m) (ht : TyNms X es ts) (hz : ts.length ≤ 100) (hne : isTs ts (.non) = some false)
    (he2 : starEach [Expr.Tuple es k p2] X.env = (false, eval (.Tuple es k p2) X.env) :: starEach [] X.env := by rfl) (he : starEach [e, Expr.Tuple es k p2] X.env = (false, eval e X.env) :: starEach [Expr.Tuple es k p2] X.env := by rfl) (hpl : (backTo pos (starEach [Expr.Tuple es k p2] X.env)).any (·.1) = false := by rfl) :
    PEs X rt W (.Call (.Name "isinstance" p) [e, .Tuple es k p2] [] pos) (mIsT ts m) := by
  obtain ⟨te, h1, h2⟩ := h.ex
  refine ⟨_, pe_callB call_isiT hg hm Boot.«isinstance» (pa_cons h1 (pa_cons (pe_tup ht.pa) pa_nil he2) he) (by decide) (by decide) he hpl, fun H G cs Q r q => h2 H G cs _ r (PostK.seqK q fun d v cs1 H1 G1 ev st r1 rp q1 => ?_)⟩
  unfold M.ofO at q1
  cases hi : isTs ts d with
  | none => rw [hi] at q1; exact q1.elim
  | some b =>
    rw [hi] at q1
    refine ⟨by rw [List.length_map, sizeLine_eq]; omega, fun tp htp => ?_⟩
    have st2 : Stp H1 G1 [] (upd H1 tp (.tup (ts.map fun t => V.ty t.nm))) G1 [] := (Stp.made htp).mem (fun _ => Iff.rfl) fun x hx => by cases hx
    have r2 : RR X.K rt G1 (upd H1 tp (.tup (ts.map fun t => V.ty t.nm))) cs1 := by
      have z := RR.frame (A := cs1) (B := []) (B' := []) (by rw [List.append_nil]; exact r1) st2 ⟨fun c hc => (by cases hc), List.nodup_nil, fun a ha => (by cases ha), sub_new r1.sub htp⟩
      rw [List.append_nil] at z
      exact z
    have tn : ∃ n, d.tyN = some n := by
      cases ts with
      | nil =>
        simp only [isTs] at hi
        cases hj : isT .int d with
        | none => rw [hj] at hi; cases hi
        | some _ => obtain ⟨n, e1, _⟩ := tyN_some hj; exact ⟨n, e1⟩
      | cons t ts =>
        simp only [isTs] at hi
        cases hj : isT t d with
        | none => rw [hj] at hi; cases hi
        | some _ => obtain ⟨n, e1, _⟩ := tyN_some hj; exact ⟨n, e1⟩
    obtain ⟨n, e1⟩ := tn
    exact ⟨v, tp, _, .type n, _, b, rfl, upd_same, clsVs ts, tyX_of r2.sub rp e1, isTs_any e1 hi,
      q1 (.bl b) cs1 _ G1 rfl rfl ((st2.frame (A := fps cs1)).mem (fun x => by simp) (fun x hx => by simpa using hx)) r2 (by show Rp _ _ _ _; simp only [Rp])⟩
/-! ### of the caught exception -/
variable {a : Addr} {dd : Option Addr} {c : Str}
def mIsX (a : Addr) (dd : Option Addr) (c : Str) (ask : Option Bool) (m : M D) : M D := fun ρ => (m ρ).bind fun d => match d with
  | .exn a' dd' c' _ _ => if a' = a ∧ dd' = dd ∧ c' = c then M.ofO (ask.map D.bl) else fun _ => .bad
  | _ => fun _ => .bad
def mXf (a : Addr) (dd : Option Addr) (c f : Str) (m : M D) : M D := fun ρ => (m ρ).bind fun d => match d with
  | .exn a' dd' c' ns ds => if a' = a ∧ dd' = dd ∧ c' = c then M.ofO ((ns.zip ds).lookup f) else fun _ => .bad
  | _ => fun _ => .bad
theorem exn_dict {K : PySem.W.Frag} {G H : Hp} {ns : List Str} {ds : List D} {v : V} (s : Sub G H) (h : Rp K G (.exn a dd c ns ds) v) : v = .ref a ∧ ∃ xs, ns.length = xs.length ∧ RpL K G ds xs ∧ ((ns = [] ∧ dd = none) ∨ ∃ da, dd = some da ∧ H da = some (.xd (ns.zip xs))) := by
  simp only [Rp] at h
  obtain ⟨h1, xs, h2, h3, h4⟩ := h
  refine ⟨h1, xs, h2, h3, h4.imp id fun ⟨da, e, g⟩ => ⟨da, e, ?_⟩⟩
  rcases s da _ g with q | ⟨q, _⟩
  · exact q
  · exact q.elim
theorem s_isX {m : M D} {cv : V} {cu : Value} {ask : Option Bool} {e2 : Expr} (hE : HotE X a dd c) (C : ExcC X.K (He.ga X.K c)) (hg : Gl X "isinstance") (hm : X.mg "isinstance" = none) (h : PEs X rt W e m) (h2 : PE X e2 (tC cv)) (hc : ClsV cv cu)
    (hask : ∀ b, ask = some b → PySem.W.kitOne X.K (.ref (He.ga X.K c)) cu = some b)
    (he2 : starEach [e2] X.env = (false, eval e2 X.env) :: starEach [] X.env := by rfl) (he : starEach [e, e2] X.env = (false, eval e X.env) :: starEach [e2] X.env := by rfl) (hpl : (backTo pos (starEach [e2] X.env)).any (·.1) = false := by rfl) :
    PEs X rt W (.Call (.Name "isinstance" p) [e, e2] [] pos) (mIsX a dd c ask m) := by
  obtain ⟨te, k1, k2⟩ := h.ex
  refine ⟨_, pe_callB (call_isX hE C) hg hm Boot.«isinstance» (pa_cons k1 (pa_cons h2 pa_nil he2) he) (by decide) (by decide) he hpl, fun H G cs Q r q => k2 H G cs _ r (PostK.seqK q fun d v cs1 H1 G1 ev st r1 rp q1 => ?_)⟩
  cases d with
  | exn a' dd' c' ns ds =>
    simp only at q1
    split at q1
    · rename_i hz
      obtain ⟨rfl, rfl, rfl⟩ := hz
      obtain ⟨rfl, xs, _, _, hd⟩ := exn_dict (c := c') r1.sub rp
      cases ask with
      | none => exact q1.elim
      | some b => exact ⟨cv, cu, b, rfl, hc, hask b rfl, hd.imp (fun z => z.2) (fun ⟨da, e1, e2⟩ => ⟨da, _, e1, e2⟩), q1 (.bl b) cs1 H1 G1 rfl rfl Stp.refl r1 (by show Rp _ _ _ _; simp only [Rp])⟩
    · exact q1.elim
  | _ => exact q1.elim
theorem lookup_zip {K : PySem.W.Frag} {G : Hp} : ∀ {ns : List Str} {ds : List D} {xs : List V} {f : Str} {d : D}, ns.length = xs.length → RpL K G ds xs → (ns.zip ds).lookup f = some d → ∃ v, (ns.zip xs).lookup f = some v ∧ Rp K G d v
  | [], _, _, _, _, _, _, h => by cases h
  | n :: ns, [], _, _, _, _, _, h => by cases h
  | n :: ns, d0 :: ds, xs, f, d, hl, hr, h => by
    simp only [RpL] at hr
    obtain ⟨x, r, rfl, h1, h2⟩ := hr
    simp only [List.zip_cons_cons, List.lookup_cons] at h ⊢
    cases hf : f == n with
    | true =>
      rw [hf] at h
      simp only at h ⊢
      cases h
      exact ⟨x, rfl, h1⟩
    | false =>
      rw [hf] at h
      simp only at h ⊢
      exact lookup_zip (by simpa using hl) h2 h
theorem s_xf {f : Str} {m : M D} (hE : HotE X a dd c) (T : XfC X.K (He.ga X.K c)) (hno : PySem.W.findIn X.K (.ref (He.ga X.K c)) f = some none) (h : PEs X rt W e m) (hb : attributeBase e f X.env (eval e X.env) = eval e X.env := by rfl) :
    PEs X rt W (.Attribute e f pos) (mXf a dd c f m) := by
  obtain ⟨te, k1, k2⟩ := h.ex
  refine ⟨fun σ H Q => te σ H fun x H1 => x = .ref a ∧ ∃ (da : Addr) (fs : List (Str × V)) (v : V), dd = some da ∧ H1 da = some (.xd fs) ∧ fs.lookup f = some v ∧ Q v H1, ⟨fun pins s σ H Q I q => ?_⟩, fun H G cs Q r q => k2 H G cs _ r (PostK.seqK q fun d v cs1 H1 G1 ev st r1 rp q1 => ?_)⟩
  · refine attr_of hb (thn (k1.run pins s σ H _ I q) fun u s1 hh => ?_)
    obtain ⟨x, H1, I1, rx, ex, da, fs, v, ed, ea, l, q⟩ := hh
    subst ex
    cases (show u = Value.ref a from rx)
    obtain ⟨oe, od, J, hlk⟩ := hE.inst I1 (.inr ⟨da, fs, ed, ea⟩)
    obtain ⟨mA, ob, rfl, hl, hr⟩ := hlk da fs ed ea
    obtain ⟨u, hu, ru⟩ := RelO.some_of (v := v) (o := mA f) (by rw [← l]; exact hr f)
    exact HandSPX.exc_get I1.kIn J T.ga T.gg T.exC (PySem.W.findObj_own T.hdC hno rfl (by rw [hl, hu])) (handed_of ru) ⟨v, H1, I1.tok _, ru, q⟩
  · cases d with
    | exn a' dd' c' ns ds =>
      simp only at q1
      split at q1
      · rename_i hz
        obtain ⟨rfl, rfl, rfl⟩ := hz
        obtain ⟨rfl, xs, hlen, hxs, hd⟩ := exn_dict (c := c') r1.sub rp
        unfold M.ofO at q1
        cases hl : (ns.zip ds).lookup f with
        | none => rw [hl] at q1; exact q1.elim
        | some d =>
          rw [hl] at q1
          obtain ⟨v, e1, e2⟩ := lookup_zip hlen hxs hl
          rcases hd with ⟨rfl, _⟩ | ⟨da, e3, e4⟩
          · cases e1
          · exact ⟨rfl, da, _, v, e3, e4, e1, q1 v cs1 H1 G1 rfl rfl Stp.refl r1 e2⟩
      · exact q1.elim
    | _ => exact q1.elim
end
end PD

set_option Elab.async false
set_option linter.all false
set_option maxRecDepth 100000
set_option maxHeartbeats 2000000
/-! PD: defs that are called while an exception is handled. -/
namespace PD
open PySem PySem.Spec PyProof.Rows L2
section
variable {X : Cx} {rt : List V} {W : WX}
/-- within an except suite -/
theorem hotE_suite {a : Addr} {oe : Obj} {c : Str} {d : Option Addr} {pn : List (Addr × Obj)} (hz : L2.Zc (.ref (He.ga X.K c)) d oe) (hv : ∃ vs, oe.data = .fields vs) : HotE (X.suite a ((a, oe) :: pn)) a d c := by
  exact ⟨oe, List.mem_cons_self, hz, hv⟩
end
/-- the promise of a def while the exception at a (class c, dict d) is handled: F a d c -/
structure FnHP (P : Program) (w : World) (K : PySem.W.Frag) (mg : Str → Option Value) (base : Heap) (k : Nat) (f : Addr) (fd : FuncData) (ps : List Str) (F : Addr → Option Addr → Str → M T) : Prop where
  len : ∀ a d c vs H Q E, spOf K (F a d c) vs H Q E → vs.length = ps.length
  run : ∀ (A : Around) (outer : List Env) (s : Shared) (H : Hp) (args : Args) (us : List Value) (vs : List V) (Q : VK) (E : XK) (p : Addr × Obj) (d : Option Addr) (c : Str), L2H.RoomH k A → L2H.PinOk outer H s p → L2.Zc (.ref (He.ga K c)) d p.2 → (∃ vs, p.2.data = .fields vs) →
    Env0 P w K mg base A outer s H → BindsTo s fd args (ps.zip us) → Vals vs us → spOf K (F p.1 d c) vs H Q E → codeAny (model P w) A (.call (.ref f) args) (CR (L2.CX P w) outer P w H s Q E) s
section
variable {P : Program} {w : World} {K : PySem.W.Frag} {mg : Str → Option Value} {base : Heap} {x qual : Str} {params : Arguments} {body : List Stmt} {scope : Scope} {dvs : List V} {kws : List (Str × V)} {f : Addr} {fd : FuncData} {k : Nat} {N ps : List Str}
theorem okFH {own : List Bool} {m : Addr → Option Addr → Str → MS} (F : FunD K x qual params body scope dvs kws f fd) (S : FnScope N ps scope) (hown : own.length = ps.length)
    (hbody : ∀ (cdv : Value) (A : Around) (outer : List Env) (s : Shared) (H : Hp) (E : XK) (rt : List V) (p : Addr × Obj) (d : Option Addr) (c : Str), L2H.RoomH k (A.deeper (envOfC qual scope s.heap.objs.size f cdv)) → HotE (L2H.cxH (L2.CX P w) P w K mg base N qual scope f cdv A outer s H E p) p.1 d c →
      PSsd (L2H.cxH (L2.CX P w) P w K mg base N qual scope f cdv A outer s H E p) rt (WE0 E) body (m p.1 d c)) : FnHP P w K mg base (k + 1) f fd ps (fun a d c => runF own N.length (m a d c)) := by
  refine ⟨fun a d c vs H Q E h => (runF_vlen h).trans hown, fun A outer s H args us vs Q E p d c hr hpin hz hv e0 hb r hsp => ?_⟩
  obtain ⟨oc, od, dV, kV, doc, pm, an, cdv, ct, osl, rfl, lk, hcd, _, _⟩ := F.ex
  have hl : vs.length = ps.length := (runF_vlen hsp).trans hown
  have KX : K.In s.heap := e0.mod.kin.keeps fun b o e => (e0.bs b o e).1
  have lim : s.heap.NoLimit := e0.mod.nolimit.keeps fun b o e => (e0.bs b o e).1
  have hkind : ∀ y ∈ ps.zip us, scope.names.lookup y.1 = some .local ∨ (scope.names.lookup y.1 = some .cell ∧ ((cellsFrom (s.heap.objs.size + 1) scope.names []).lookup y.1).isSome = true) := fun ⟨n, v⟩ hy => by
    rcases S.par n (List.of_mem_zip hy).1 with q | q
    · exact .inl q
    · exact .inr ⟨q, PySem.W.cellsFrom_some _ _ _ (.inl q)⟩
  refine codeAny_call_function hr.depth (KX _ _ lk) rfl S.co S.gen rfl (PySem.W.codeRec_of KX hcd) (hb _ _ _ _ ?_)
  refine wpAny_newFunctionEnv_cells S.kind hkind fun env he s1 x => ?_
  subst he
  refine ⟨lim.keeps x.toInCall.keep, codeAny_func ?_⟩
  have hE : HotE (L2H.cxH (L2.CX P w) P w K mg base N qual scope f cdv A outer s H E p) p.1 d c := by
    obtain ⟨p1, p2⟩ := p
    exact ⟨p2, List.mem_cons_self, hz, hv⟩
  obtain ⟨t, ht, hq⟩ := runF_core (X := L2H.cxH (L2.CX P w) P w K mg base N qual scope f cdv A outer s H E p) (hbody cdv A outer s H E vs p d c (hr.deeper _) hE) hsp
  have I : Inv (L2H.cxH (L2.CX P w) P w K mg base N qual scope f cdv A outer s H E p) [] (L2.start N vs) H s1 := L2H.inv_startH S hpin e0 hl r x
  refine wpAny_mono (ht.run [] s1 (L2.start N vs) H _ I hq) (fun fl s' hs => ?_) fun e s' hs => hs
  have fin : ∀ {σ' : L2.St} {H' : Hp} {v : V} {u : Value}, Inv (L2H.cxH (L2.CX P w) P w K mg base N qual scope f cdv A outer s H E p) [] σ' H' s' → RelV v u → Q v H' → CE outer P w H s Q u s' :=
    fun {σ' H' v u} J rv q => ⟨v, H', J.os, J.bare, J.base, J.hok, rv, q⟩
  cases fl with
  | ret u =>
    obtain ⟨v, σ', H', J, rv, q⟩ := hs
    exact fin J rv q
  | next =>
    obtain ⟨σ', H', J, q⟩ := hs
    exact fin (v := V.non) (u := Value.none) J rfl q
  | brk =>
    obtain ⟨_, _, _, q⟩ := hs
    exact False.elim q
  | cont =>
    obtain ⟨_, _, _, q⟩ := hs
    exact False.elim q
end
section
variable {X : Cx} {rt : List V} {W : WX} {e : Expr} {es : List Expr} {p p2 pos pos' : Pos} {a : Addr} {dd : Option Addr} {c : Str} {k : Nat} {f : Addr} {fd : FuncData} {ps : List Str} {F : Addr → Option Addr → Str → M T} {x : Str}
def tCallX (sp : Sp) (E : L2.St → XK) (dvs : List V) (t : TA) : TE := fun σ H Q => t σ H fun vs H1 => sp (vs ++ dvs) H1 Q (E σ)
theorem pe_callX {ds : List Value} {dvs : List V} {t : TA} (Fn : FnHP X.prog X.w X.K X.mg X.base k f fd ps F) (hE : HotE X a dd c) (tk : L2.Takes X W) (hr : L2H.RoomH k X.A) (hg : Gl X x) (hm : X.mg x = some (.ref f)) (hk : PySem.W.keepIn X.K (.ref f) = true) (hb : Binds X.K fd ps ds) (hd : Vals dvs ds)
    (ha : PA X (e :: es) t) (hdb : (x == ("__debug__" : Str)) = false := by decide) (he : starEach (e :: es) X.env = (false, eval e X.env) :: starEach es X.env := by rfl) (hpl : (backTo pos (starEach es X.env)).any (·.1) = false := by rfl) :
    PE X (.Call (.Name x p) (e :: es) [] pos) (tCallX (spOf X.K (F a dd c)) (WE W) dvs t) := by
  refine ⟨fun pins s σ H Q I h => ?_⟩
  refine wpAny_Call_Name_kw (ld_glob I hg hm ?_ hdb)
  refine PySem.W.callWith_K (h₀ := X.base) I.ok.mod.kin hk (thn (ha.run pos pins s σ H _ I h) fun us s1 ⟨vs, H1, I1, r, q⟩ => ⟨I1.kIn, ?_⟩) he hpl
  obtain ⟨oe, hp, hz, hv⟩ := hE.ex
  have r2 : Vals (vs ++ dvs) (us ++ ds) := r.append hd
  have hl : (us ++ ds).length = ps.length := by rw [← r2.length]; exact Fn.len _ _ _ _ _ _ _ q
  have b := hb s1 us I1.kIn hl
  have P1 := I1.pin (a, oe) (List.mem_append_left _ hp)
  have hpin : L2H.PinOk X.stack H1 s1 (a, oe) := ⟨P1.1, P1.2.1, fun hm => (List.mem_cons.mp (I1.stkSub a hm)).elim P1.2.2.1 P1.2.2.2.1, P1.2.2.2.2⟩
  refine wpAny_call (codeAny_mono (Fn.run X.A X.stack s1 H1 ⟨us, []⟩ (us ++ ds) (vs ++ dvs) Q (WE W σ) (a, oe) dd c hr hpin hz hv I1.env0 b r2 q) fun r s' hq => ?_)
  cases r with
  | error e => exact L2.passAt tk σ pins H1 s1 e s' I1 hq
  | ok fl =>
    cases fl with
    | ret u => exact I1.after hq
    | next => exact False.elim hq
    | brk => exact False.elim hq
    | cont => exact False.elim hq
theorem d_callX {ds : List Value} {dvs : List V} {dds : List D} {ms : M (List AV)} (Fn : FnHP X.prog X.w X.K X.mg X.base k f fd ps F) (hE : HotE X a dd c) (tk : L2.Takes X W) (hr : L2H.RoomH k X.A) (hg : Gl X x) (hm : X.mg x = some (.ref f)) (hk : PySem.W.keepIn X.K (.ref f) = true)
    (hb : Binds X.K fd ps ds) (hd : Vals dvs ds) (hdd : Dfl X.K dds dvs) (ha : PQd X rt W (e :: es) ms) (hdb : (x == ("__debug__" : Str)) = false := by decide) (he : starEach (e :: es) X.env = (false, eval e X.env) :: starEach es X.env := by rfl) (hpl : (backTo pos (starEach es X.env)).any (·.1) = false := by rfl) :
    PEd X rt W (.Call (.Name x p) (e :: es) [] pos) (mCall (F a dd c) ms dds) := by
  obtain ⟨ta, h1, h2⟩ := ha.ex
  refine ⟨_, pe_callX Fn hE tk hr hg hm hk hb hd h1 hdb he hpl, fun H G cs Q r q => h2 H G cs _ r (PostK.seqE q fun as xs cs1 H1 G1 ev st r1 rp1 q1 => ?_)⟩
  rw [← ev] at rp1 ⊢
  exact call_ok r1 (kQ_app rp1 (hdd G1)) q1
end
end PD

set_option Elab.async false
set_option linter.all false
set_option maxRecDepth 100000
set_option maxHeartbeats 2000000
/-! PD: own classes: fields, methods, properties, making, len, ==, isinstance. -/
namespace PD
open PySem PySem.Spec PyProof.Rows L2
/-! ### receivers -/
def kR (σ : L2.St) : Knd AV V := ⟨fun K G a x => match a with
  | .d d => Rp K G d x
  | .own i => σ[i]? = some (some x)⟩
structure PRd (X : Cx) (rt : List V) (W : WX) (e : Expr) (m : M AV) : Prop where
  ex : ∃ te, PE X e te ∧ ∀ H G cs Q, RR X.K rt G H cs → PostK X.K rt W (kR (vals cs)) H G cs (m (slots cs)) Q → te (vals cs) H Q
def mRv (m : M D) : M AV := fun ρ => (m ρ).bind fun d => M.pure (.d d)
def mRo (i : Nat) : M AV := fun ρ => match ρ[i]?.bind Sl.t? with
  | some _ => .ok (.own i) ρ
  | none => .bad
def T.ins? : T → Option (Str × List Str)
  | .sh (.ins c ns _) => some (c, ns)
  | .ins c ns _ => some (c, ns)
  | _ => none
/-- a receiver's class and the names of its fields -/
def insOf : AV → List Sl → Option (Str × List Str)
  | .d (.ins c ns _), _ => some (c, ns)
  | .own i, ρ => (ρ[i]?.bind Sl.t?).bind T.ins?
  | _, _ => none
theorem lookup_zip_none {α : Type} : ∀ {ns : List Str} {xs : List α} {f : Str}, f ∉ ns → (ns.zip xs).lookup f = none
  | [], _, _, _ => rfl
  | n :: ns, [], _, _ => rfl
  | n :: ns, x :: xs, f, h => by
    simp only [List.mem_cons, not_or] at h
    rw [List.zip_cons_cons, List.lookup_cons]
    have : (f == n) = false := by simpa using h.1
    rw [this]
    exact lookup_zip_none h.2
theorem ins_rp {K : PySem.W.Frag} {G H : Hp} {c : Str} {ns : List Str} {ds : List D} {x : V} (s : Sub G H) (h : Rp K G (.ins c ns ds) x) : ∃ a dx xs, x = .ref a ∧ H a = some (.ins (He.ga K c) dx (ns.zip xs)) ∧ ns.length = xs.length ∧ RpL K G ds xs := by
  simp only [Rp] at h
  obtain ⟨a, dx, xs, h1, h2, h3, h4⟩ := h
  exact ⟨a, dx, xs, h1, s.ins h2, h3, h4⟩
theorem ins_at {K : PySem.W.Frag} {rt : List V} {G H : Hp} {cs : List Cell} {a : AV} {x : V} {c : Str} {ns : List Str} (r : RR K rt G H cs) (h : (kR (vals cs)).rel K G a x) (e : insOf a (slots cs) = some (c, ns)) :
    ∃ ad dx xs, x = .ref ad ∧ H ad = some (.ins (He.ga K c) dx (ns.zip xs)) := by
  cases a with
  | d d =>
    cases d with
    | ins c' ns' ds =>
      cases e
      obtain ⟨a, dx, xs, h1, h2, _⟩ := ins_rp r.sub h
      exact ⟨a, dx, xs, h1, h2⟩
    | _ => cases e
  | own i =>
    have hx : (vals cs)[i]? = some (some x) := h
    simp only [insOf, Option.bind_eq_some_iff] at e
    obtain ⟨t, ⟨s, e1, e2⟩, e3⟩ := e
    obtain ⟨cl, hc, rfl⟩ := cell_at e1
    obtain ⟨y, ey, ht⟩ := (r.at hc).tree e2
    have exy : y = x := by
      have z := vals_at hc
      rw [hx, ey] at z
      exact (Option.some.inj (Option.some.inj z)).symm
    subst exy
    cases t with
    | sh d =>
      cases d with
      | ins c' ns' ds =>
        cases e3
        simp only [RT] at ht
        obtain ⟨a, dx, xs, h1, h2, _⟩ := ins_rp r.sub ht.1
        exact ⟨a, dx, xs, h1, h2⟩
      | _ => cases e3
    | ins c' ns' ts =>
      cases e3
      simp only [RT] at ht
      obtain ⟨a, dx, xs, f, h1, h2, _⟩ := ht
      exact ⟨a, dx, xs, h1, h2⟩
    | _ => cases e3
section
variable {X : Cx} {rt : List V} {W : WX} {e o value : Expr} {es : List Expr} {p p2 pos pos' apos : Pos} {x m f c : Str}
theorem r_sh {ms : M D} (h : PEs X rt W e ms) : PRd X rt W e (mRv ms) := by
  obtain ⟨te, h1, h2⟩ := h.ex
  exact ⟨te, h1, fun H G cs Q r q => h2 H G cs Q r (PostK.seqK q fun d v cs' H' G' ev st r' rd q' => q' v cs' H' G' rfl rfl Stp.refl r' rd)⟩
theorem r_own (i : Nat) (hN : X.N[i]? = some x) (hv : Vis X.env.scope x) (hd : (x == ("__debug__" : Str)) = false := by decide) (hcd : (x == ("__classdict__" : Str)) = false := by decide) : PRd X rt W (.Name x p) (mRo i) := by
  refine ⟨_, pe_var hN hv hd hcd, fun H G cs Q r q => ?_⟩
  unfold mRo at q
  cases hi : (slots cs)[i]?.bind Sl.t? with
  | none => rw [hi] at q; exact q.elim
  | some t =>
    rw [hi] at q
    rw [Option.bind_eq_some_iff] at hi
    obtain ⟨s, e1, e2⟩ := hi
    obtain ⟨cl, hc, rfl⟩ := cell_at e1
    obtain ⟨y, ey, _⟩ := (r.at hc).tree e2
    have hx : (vals cs)[i]? = some (some y) := by rw [vals_at hc, ey]
    exact ⟨y, hx, q y cs H G rfl rfl Stp.refl r hx⟩
/-! ### methods -/
def mMeth (c m : Str) (F : M T) (mr : M AV) (ms : M (List AV)) (dfl : List D) : M T := fun ρ => (mr ρ).bind fun a ρ1 => match insOf a ρ1 with
  | some (c', ns) => if c' = c ∧ m ∉ ns then (ms ρ1).bind fun as => callO F (a :: as ++ dfl.map .d) else .bad
  | none => .bad
def tMethSD (C : Addr) (m : Str) (sp : Sp) (dvs : List V) (E : L2.St → XK) (ta : TE) (t : TA) : TE := fun σ H Q => ta σ H fun x H1 => ∃ a dx fs, x = .ref a ∧ H1 a = some (.ins C dx fs) ∧ fs.lookup m = none ∧ t σ H1 fun vs H2 => sp (x :: (vs ++ dvs)) H2 Q (E σ)
section
variable {CX : CXT} {k : Nat} {fa C : Addr} {fd : FuncData} {ps : List Str} {sp : Sp} {dvs : List V} {ds : List Value} {E : L2.St → XK} {ta : TE} {t : TA}
theorem pe_methSD {pl : Sem Bool} (he : PE X o ta) (c : Cls X.K C) (hm : Meth X.K C m fa) (F : FnOk X.prog X.w X.K X.mg X.base CX k fa fd ps sp) (hr : Room k X.A) (hb : Binds X.K fd ps ds) (hd : Vals dvs ds) (hx : ∀ σ, PassesAt CX X σ (E σ)) (ha : PA X (e :: es) t)
    (hst : starEach (e :: es) X.env = (false, eval e X.env) :: starEach es X.env := by rfl) (hpl : (backTo pos (starEach es X.env)).any (·.1) = false := by rfl)
    (ht : eval (.Call (.Attribute o m apos) (e :: es) [] pos) X.env = (do
      let ov ← eval o X.env
      standAt apos.atName
      let (f, first) ← holding [ov] (getMethod ov m pl)
      callWith pos f first (backTo pos (starEach (e :: es) X.env)) (backToKw pos (keywordEach [] X.env))) := by rfl) :
    PE X (.Call (.Attribute o m apos) (e :: es) [] pos) (tMethSD C m sp dvs E ta t) := by
  refine ⟨fun pins s σ H Q I h => ?_⟩
  refine PySem.W.methodCall_KW (pl := pl) (thn (he.run pins s σ H _ I h) fun u s1 ⟨x, H1, I1, rx, a, dx, fs, ex, ea, l, q⟩ => ?_) ht
  subst ex
  obtain rfl : u = Value.ref a := rx
  refine getmeth_ok I1 ea c hm l ?_
  refine PySem.W.callWith_K (first := [.ref a]) (h₀ := X.base) I.ok.mod.kin hm.kp (thn (ha.run pos pins s1 σ H1 _ I1 q) fun us s2 ⟨vs, H2, I2, r, q2⟩ => ⟨I2.kIn, ?_⟩) hst hpl
  exact run_fnSD (us := .ref a :: us) (vs := .ref a :: vs) F hr hb hd (hx σ) I2 (.cons rfl r) q2
theorem pe_meth0SD {pl : Sem Bool} (he : PE X o ta) (c : Cls X.K C) (hm : Meth X.K C m fa) (F : FnOk X.prog X.w X.K X.mg X.base CX k fa fd ps sp) (hr : Room k X.A) (hb : Binds X.K fd ps ds) (hd : Vals dvs ds) (hx : ∀ σ, PassesAt CX X σ (E σ))
    (ht : eval (.Call (.Attribute o m apos) [] [] pos) X.env = (do
      let ov ← eval o X.env
      standAt apos.atName
      let (f, first) ← holding [ov] (getMethod ov m pl)
      callWith pos f first (backTo pos (starEach [] X.env)) (backToKw pos (keywordEach [] X.env))) := by rfl) :
    PE X (.Call (.Attribute o m apos) [] [] pos) (tMethSD C m sp dvs E ta tNil) := by
  refine ⟨fun pins s σ H Q I h => ?_⟩
  refine PySem.W.methodCall_KW (pl := pl) (thn (he.run pins s σ H _ I h) fun u s1 ⟨x, H1, I1, rx, a, dx, fs, ex, ea, l, q⟩ => ?_) ht
  subst ex
  obtain rfl : u = Value.ref a := rx
  refine getmeth_ok I1 ea c hm l ?_
  exact PySem.W.callWith_K0 (first := [.ref a]) I1.kIn hm.kp (run_fnSD (us := [.ref a]) (vs := [.ref a]) F hr hb hd (hx σ) I1 (.cons rfl .nil) q)
end
section
variable {k : Nat} {fa : Addr} {fd : FuncData} {ps : List Str} {F : M T} {dvs : List V} {ds : List Value} {dds : List D} {mr : M AV}
theorem meth_core {ta : TE} {tq : TA} {ms : M (List AV)} {H G : Hp} {cs : List Cell} {Q : VK} (hdd : Dfl X.K dds dvs)
    (h2 : ∀ H G cs Q, RR X.K rt G H cs → PostK X.K rt W (kR (vals cs)) H G cs (mr (slots cs)) Q → ta (vals cs) H Q)
    (h4 : ∀ H G cs Q, RR X.K rt G H cs → PostK X.K rt W (kQ (vals cs)) H G cs (ms (slots cs)) Q → tq (vals cs) H Q)
    (r : RR X.K rt G H cs) (q : PostE X.K rt W H G cs (mMeth c m F mr ms dds (slots cs)) Q) : tMethSD (He.ga X.K c) m (spOf X.K F) dvs (WE W) ta tq (vals cs) H Q := by
  refine h2 H G cs _ r (PostK.seqE q fun a x cs1 H1 G1 ev st r1 rp1 q1 => ?_)
  cases hi : insOf a (slots cs1) with
  | none => rw [hi] at q1; exact q1.elim
  | some z =>
    obtain ⟨c', ns⟩ := z
    simp only [hi] at q1
    split at q1
    · rename_i hz
      obtain ⟨rfl, hm⟩ := hz
      rw [← ev] at rp1 ⊢
      obtain ⟨ad, dx, xs, rfl, h5⟩ := ins_at r1 rp1 hi
      refine ⟨ad, dx, _, rfl, h5, lookup_zip_none hm, ?_⟩
      refine h4 H1 G1 cs1 _ r1 (PostK.seqE q1 fun as ys cs2 H2 G2 ev2 st2 r2 rp2 q2 => ?_)
      have rp3 : (kQ (vals cs2)).rel X.K G2 (a :: as) (.ref ad :: ys) := by
        rw [ev2]
        refine .cons ?_ rp2
        cases a with
        | d d => exact Rp.mono st2.ext d _ rp1
        | own i => exact rp1
      have z := call_ok r2 (kQ_app rp3 (hdd G2)) q2
      rw [ev2] at z
      exact z
    · exact q1.elim
theorem d_meth {pl : Sem Bool} {ms : M (List AV)} (tk : L2.Takes X W) (hc : Cls X.K (He.ga X.K c)) (hm : Meth X.K (He.ga X.K c) m fa) (Fn : FnOk X.prog X.w X.K X.mg X.base (L2.CX X.prog X.w) k fa fd ps (spOf X.K F)) (hr : Room k X.A) (hb : Binds X.K fd ps ds) (hd : Vals dvs ds) (hdd : Dfl X.K dds dvs)
    (ho : PRd X rt W o mr) (ha : PQd X rt W (e :: es) ms)
    (hst : starEach (e :: es) X.env = (false, eval e X.env) :: starEach es X.env := by rfl) (hpl : (backTo pos (starEach es X.env)).any (·.1) = false := by rfl)
    (ht : eval (.Call (.Attribute o m apos) (e :: es) [] pos) X.env = (do
      let ov ← eval o X.env
      standAt apos.atName
      let (f, first) ← holding [ov] (getMethod ov m pl)
      callWith pos f first (backTo pos (starEach (e :: es) X.env)) (backToKw pos (keywordEach [] X.env))) := by rfl) :
    PEd X rt W (.Call (.Attribute o m apos) (e :: es) [] pos) (mMeth c m F mr ms dds) := by
  obtain ⟨ta, h1, h2⟩ := ho.ex
  obtain ⟨tq, h3, h4⟩ := ha.ex
  exact ⟨_, pe_methSD (E := WE W) h1 hc hm Fn hr hb hd (fun σ => L2.passAt tk σ) h3 hst hpl ht, fun H G cs Q r q => meth_core hdd h2 h4 r q⟩
theorem d_meth0 {pl : Sem Bool} (tk : L2.Takes X W) (hc : Cls X.K (He.ga X.K c)) (hm : Meth X.K (He.ga X.K c) m fa) (Fn : FnOk X.prog X.w X.K X.mg X.base (L2.CX X.prog X.w) k fa fd ps (spOf X.K F)) (hr : Room k X.A) (hb : Binds X.K fd ps ds) (hd : Vals dvs ds) (hdd : Dfl X.K dds dvs)
    (ho : PRd X rt W o mr)
    (ht : eval (.Call (.Attribute o m apos) [] [] pos) X.env = (do
      let ov ← eval o X.env
      standAt apos.atName
      let (f, first) ← holding [ov] (getMethod ov m pl)
      callWith pos f first (backTo pos (starEach [] X.env)) (backToKw pos (keywordEach [] X.env))) := by rfl) :
    PEd X rt W (.Call (.Attribute o m apos) [] [] pos) (mMeth c m F mr qNil dds) := by
  obtain ⟨ta, h1, h2⟩ := ho.ex
  exact ⟨_, pe_meth0SD (E := WE W) h1 hc hm Fn hr hb hd (fun σ => L2.passAt tk σ) ht, fun H G cs Q r q => meth_core (ms := qNil) hdd h2 (fun H G cs Q r q => q [] cs H G rfl rfl Stp.refl r .nil) r q⟩
/-! ### properties, len, == -/
def Out.calm {α : Type} : Out α → Out α
  | .err _ _ => .bad
  | o => o
theorem PostE.calm {K : PySem.W.Frag} {H G : Hp} {cs : List Cell} {o : Out T} {Q : VK} {W' : WX} (h : PostE K rt W H G cs o.calm Q) : PostE K rt W' H G cs o Q := by
  cases o with
  | ok t ρ => exact h
  | err x ρ => exact h.elim
  | bad => exact h
theorem pass_no (X : Cx) : Passes (L2.CX X.prog X.w) X (fun _ _ _ => False) := fun _ _ _ _ _ _ _ ⟨_, _, _, _, _, _, _, _, _, _, _, _, z⟩ => z.elim
/-- f(self, ..) of an object of the class c, nothing raised -/
def mSpec (c : Str) (F : M T) (mr : M AV) : M T := fun ρ => (mr ρ).bind fun a ρ1 => match insOf a ρ1 with
  | some (c', _) => if c' = c then (callO F [a] ρ1).calm else .bad
  | none => .bad
theorem spec_core {C : Addr} {ta : TE} {H G : Hp} {cs : List Cell} {Q : VK} {R : V → Hp → Prop} (hC : C = He.ga X.K c)
    (h2 : ∀ H G cs Q, RR X.K rt G H cs → PostK X.K rt W (kR (vals cs)) H G cs (mr (slots cs)) Q → ta (vals cs) H Q)
    (r : RR X.K rt G H cs) (q : PostE X.K rt W H G cs (mSpec c F mr (slots cs)) Q)
    (hR : ∀ a dx fs H1, H1 a = some (.ins C dx fs) → spOf X.K F [.ref a] H1 Q (fun _ _ _ => False) → R (.ref a) H1) : ta (vals cs) H R := by
  refine h2 H G cs _ r (PostK.seqE q fun a x cs1 H1 G1 ev st r1 rp1 q1 => ?_)
  cases hi : insOf a (slots cs1) with
  | none => rw [hi] at q1; exact q1.elim
  | some z =>
    obtain ⟨c', ns⟩ := z
    simp only [hi] at q1
    split at q1
    · rename_i hz
      subst hz
      rw [← ev] at rp1
      obtain ⟨ad, dx, xs, rfl, h5⟩ := ins_at r1 rp1 hi
      have rp3 : (kQ (vals cs1)).rel X.K G1 [a] [.ref ad] := by
        refine .cons ?_ .nil
        cases a with
        | d d => exact rp1
        | own i => exact rp1
      exact hR ad dx _ H1 (by rw [hC]; exact h5) (call_ok (W := W0) r1 rp3 (PostE.calm q1))
    · exact q1.elim
theorem d_prop {g pa : Addr} (hc : Cls X.K (He.ga X.K c)) (hp : PropOf X.K (He.ga X.K c) f pa g) (Fn : FnOk X.prog X.w X.K X.mg X.base (L2.CX X.prog X.w) k g fd ps (spOf X.K F)) (hr : Room (k + 1) X.A) (hb : Binds X.K fd ps []) (ho : PRd X rt W o mr)
    (hab : attributeBase o f X.env (eval o X.env) = eval o X.env := by rfl) : PEd X rt W (.Attribute o f pos) (mSpec c F mr) := by
  obtain ⟨ta, h1, h2⟩ := ho.ex
  refine ⟨_, pe_prop (sp := spOf X.K F) (dvs := []) (ds := []) (E := fun _ _ _ => False) h1 hc hp Fn hr hb .nil (pass_no X.nox) hab, fun H G cs Q r q => ?_⟩
  show ta (vals cs) H _
  exact spec_core (C := He.ga X.K c) rfl h2 r q fun a dx fs H1 e1 e2 => ⟨a, dx, fs, rfl, e1, e2⟩
/-- o's method of a name that the interpreter asks (len) -/
def rLenO (C : Addr) (sp : Sp) : List V → Hp → VK → Prop := fun xs H Q => ∃ a dx fs, xs = [.ref a] ∧ H a = some (.ins C dx fs) ∧ sp [.ref a] H (fun v H' => ∃ n : Nat, v = .int n ∧ (n : Int) < 2 ^ 63 ∧ Q v H') (fun _ _ _ => False)
theorem call_lenO {C : Addr} {sp : Sp} (hm : Meth X.K C "__len__" fa) (Fn : FnOk X.prog X.w X.K X.mg X.base (L2.CX X.prog X.w) k fa fd ps sp) (hr : Room (k + 1) X.A) (hb : Binds X.K fd ps []) : CallR X (.builtin "len") (rLenO C sp) := by
  intro pins s σ H xs us Q I r h
  obtain ⟨a, dx, fs, rfl, ea, hq⟩ := h
  cases r with
  | cons r1 r2 =>
    cases r2
    cases r1
    obtain ⟨mA, J, _⟩ := ins_get I.hok ea
    obtain ⟨od, J, _⟩ := J.look
    obtain ⟨mm, hF⟩ := I.fr
    refine PySem.W.len_K hF I.ok.mod.kin J hm.at_ hm.fn ?_
    have hl := Fn.len _ _ _ _ hq
    have b := hb s [.ref a] I.kIn (by simpa using hl)
    rw [List.append_nil] at b
    refine wpAny_call (codeAny_mono (Fn.run X.A.in1 X.stack s H ⟨[.ref a], []⟩ [.ref a] [.ref a] _ _ hr.in1 I.env0.in1 b (.cons rfl .nil) hq) fun r s' hq' => ?_)
    cases r with
    | error e => exact absurd (pass_no X.nox pins σ H s e s' (I.wish _) hq') (fun z => z)
    | ok fl =>
      cases fl with
      | ret u =>
        obtain ⟨v, H', I', rv, n, rfl, hn, q⟩ := I.after hq'
        obtain ⟨tk, rfl⟩ := (show ∃ t, u = Value.int n t from rv)
        exact ⟨⟨Int.natCast_nonneg n, hn⟩, ⟨.int n, H', I'.tok _, ⟨_, rfl⟩, q⟩⟩
      | next => exact False.elim hq'
      | brk => exact False.elim hq'
      | cont => exact False.elim hq'
end
end
end PD

set_option Elab.async false
set_option linter.all false
set_option maxRecDepth 100000
set_option maxHeartbeats 2000000
/-! PD: own classes, part two: len, ==, making, fields. -/
namespace PD
open PySem PySem.Spec PyProof.Rows L2
section
variable {X : Cx} {rt : List V} {W : WX} {e o o2 value : Expr} {es : List Expr} {p p2 pos pos' apos : Pos} {x m f c : Str} {k : Nat} {fa : Addr} {fd : FuncData} {ps : List Str} {F : M T} {dvs : List V} {ds : List Value} {dds : List D} {mr mr2 : M AV}
/-! ### len(o) -/
def mLenO (c : Str) (F : M T) (mr : M AV) : M T := fun ρ => (mSpec c F mr ρ).bind fun t ρ' => match t with
  | .sh (.int n) => if 0 ≤ n ∧ n < 2 ^ 63 then .ok t ρ' else .bad
  | _ => .bad
theorem PostE.lenO {K : PySem.W.Frag} {H G : Hp} {cs : List Cell} {o : Out T} {Q : VK} (h : PostE K rt W H G cs (o.bind fun t ρ' => match t with
  | .sh (.int n) => if 0 ≤ n ∧ n < 2 ^ 63 then .ok t ρ' else .bad
  | _ => .bad) Q) : PostE K rt W H G cs o (fun v H' => ∃ n : Nat, v = .int n ∧ (n : Int) < 2 ^ 63 ∧ Q v H') := by
  cases o with
  | err x ρ => exact h
  | bad => exact h
  | ok t ρ =>
    cases t with
    | sh d =>
      cases d with
      | int n =>
        by_cases hz : 0 ≤ n ∧ n < 2 ^ 63
        · have h' : PostE K rt W H G cs (if 0 ≤ n ∧ n < 2 ^ 63 then .ok (.sh (.int n)) ρ else .bad) Q := h
          rw [if_pos hz] at h'
          intro v fv cs' H' G' e1 e2 st r
          have rv := r.shared.1
          simp only [Rp] at rv
          refine ⟨n.toNat, by rw [Int.toNat_of_nonneg hz.1]; exact rv, by rw [Int.toNat_of_nonneg hz.1]; exact hz.2, h' v fv cs' H' G' e1 e2 st r⟩
        · have h' : PostE K rt W H G cs (if 0 ≤ n ∧ n < 2 ^ 63 then .ok (.sh (.int n)) ρ else .bad) Q := h
          rw [if_neg hz] at h'
          exact h'.elim
      | _ => exact h.elim
    | _ => exact h.elim
theorem d_lenO (hm : Meth X.K (He.ga X.K c) "__len__" fa) (Fn : FnOk X.prog X.w X.K X.mg X.base (L2.CX X.prog X.w) k fa fd ps (spOf X.K F)) (hr : Room (k + 1) X.A) (hb : Binds X.K fd ps []) (hg : Gl X "len") (hmg : X.mg "len" = none) (ho : PRd X rt W o mr)
    (he : starEach [o] X.env = (false, eval o X.env) :: starEach [] X.env := by rfl) (hpl : (backTo pos (starEach [] X.env)).any (·.1) = false := by rfl) : PEd X rt W (.Call (.Name "len" p) [o] [] pos) (mLenO c F mr) := by
  obtain ⟨ta, h1, h2⟩ := ho.ex
  refine ⟨_, pe_callB (call_lenO (C := He.ga X.K c) hm Fn hr hb) hg hmg boot_len (pa_cons h1 pa_nil he) (by decide) (by decide) he hpl, fun H G cs Q r q => ?_⟩
  show ta (vals cs) H _
  exact spec_core (C := He.ga X.K c) rfl h2 r (PostE.lenO q) fun a dx fs H1 e1 e2 => ⟨a, dx, fs, rfl, e1, e2⟩
/-! ### o == o2 -/
def rEqO (C : Addr) (sp : Sp) : R2 := fun x y H Q => ∃ a dx fs b dy gs, x = .ref a ∧ y = .ref b ∧ H a = some (.ins C dx fs) ∧ H b = some (.ins C dy gs) ∧ sp [.ref a, .ref b] H (fun v H' => ∃ k, v = .bl k ∧ Q v H') (fun _ _ _ => False)
theorem op_eqO {C : Addr} {sp : Sp} (hm : Meth X.K C "__eq__" fa) (Fn : FnOk X.prog X.w X.K X.mg X.base (L2.CX X.prog X.w) k fa fd ps sp) (hr : Room k X.A) (hb : Binds X.K fd ps []) : OpR X (compareOp .Eq) (rEqO C sp) := by
  intro pins s σ H x y v u Q I rx ry h
  obtain ⟨a, dx, fs, b, dy, gs, rfl, rfl, ea, eb, hq⟩ := h
  cases rx
  cases ry
  show wpAny (model X.prog X.w) X.A (richCompare .Eq (.ref a) (.ref b)) (EP X pins σ Q) X.xe s
  obtain ⟨mA, J, _⟩ := ins_get I.hok ea
  obtain ⟨od, J, _⟩ := J.look
  obtain ⟨mB, J', _⟩ := ins_get I.hok eb
  obtain ⟨od', J', _⟩ := J'.look
  obtain ⟨mm, hF⟩ := I.fr
  refine PySem.W.cmp_K (op := .Eq) (tb := .ref C) hr.units0 hF I.ok.mod.kin J J'.type (by simp [PySem.W.notFirst]) hm.at_ hm.fn ?_
  have hl := Fn.len _ _ _ _ hq
  have b' := hb s [.ref a, .ref b] I.kIn (by simpa using hl)
  rw [List.append_nil] at b'
  refine wpAny_call (codeAny_mono (Fn.run X.A X.stack s H ⟨[.ref a, .ref b], []⟩ [.ref a, .ref b] [.ref a, .ref b] _ _ hr I.env0 b' (.cons rfl (.cons rfl .nil)) hq) fun r s' hq' => ?_)
  cases r with
  | error e => exact absurd (pass_no X.nox pins σ H s e s' (I.wish _) hq') (fun z => z)
  | ok fl =>
    cases fl with
    | ret u =>
      obtain ⟨v, H', I', rv, kk, rfl, q⟩ := I.after hq'
      cases (show u = Value.bool kk from rv)
      exact ⟨.bl kk, H', I', rfl, q⟩
    | next => exact False.elim hq'
    | brk => exact False.elim hq'
    | cont => exact False.elim hq'
def mEqO (c : Str) (F : M T) (ma mb : M AV) : M T := fun ρ => (ma ρ).bind fun a ρ1 => (mb ρ1).bind fun b ρ2 => match insOf a ρ2, insOf b ρ2 with
  | some (c1, _), some (c2, _) => if c1 = c ∧ c2 = c then (match callO F [a, b] ρ2 with
    | .ok (.sh (.bl k)) ρ' => .ok (.sh (.bl k)) ρ'
    | _ => .bad) else .bad
  | _, _ => .bad
theorem d_eqO (hm : Meth X.K (He.ga X.K c) "__eq__" fa) (Fn : FnOk X.prog X.w X.K X.mg X.base (L2.CX X.prog X.w) k fa fd ps (spOf X.K F)) (hr : Room k X.A) (hb : Binds X.K fd ps []) (ho : PRd X rt W o mr) (ho2 : PRd X rt W o2 mr2) (hmk : behindInMarks .Eq o2 = false) :
    PEd X rt W (.Compare o [.Eq] [o2] pos) (mEqO c F mr mr2) := by
  obtain ⟨ta, h1, h2⟩ := ho.ex
  obtain ⟨tb, h3, h4⟩ := ho2.ex
  refine ⟨_, pe_cmpR (op_eqO (C := He.ga X.K c) hm Fn hr hb) h1 h3 hmk, fun H G cs Q r q => ?_⟩
  refine h2 H G cs _ r (PostK.seqE q fun a x cs1 H1 G1 ev st r1 rp1 q1 => ?_)
  show tb (vals cs) H1 _
  rw [← ev] at rp1 ⊢
  refine h4 H1 G1 cs1 _ r1 (PostK.seqE q1 fun b y cs2 H2 G2 ev2 st2 r2 rp2 q2 => ?_)
  rw [← ev2] at rp2
  have rp1' : (kR (vals cs2)).rel X.K G2 a x := by
    rw [ev2]
    cases a with
    | d d => exact Rp.mono st2.ext d x rp1
    | own i => exact rp1
  cases hi : insOf a (slots cs2) with
  | none => simp only [hi] at q2; exact q2.elim
  | some z =>
    obtain ⟨c1, ns1⟩ := z
    cases hj : insOf b (slots cs2) with
    | none => simp only [hi, hj] at q2; exact q2.elim
    | some z2 =>
      obtain ⟨c2, ns2⟩ := z2
      simp only [hi, hj] at q2
      split at q2
      · rename_i hz
        obtain ⟨rfl, rfl⟩ := hz
        obtain ⟨ad, dx, xs, rfl, h5⟩ := ins_at r2 rp1' hi
        obtain ⟨bd, dy, ys, rfl, h6⟩ := ins_at r2 rp2 hj
        have rp3 : (kQ (vals cs2)).rel X.K G2 [a, b] [.ref ad, .ref bd] := by
          refine .cons ?_ (.cons ?_ .nil)
          · cases a with
            | d d => exact rp1'
            | own i => exact rp1'
          · cases b with
            | d d => exact rp2
            | own i => exact rp2
        refine ⟨ad, dx, _, bd, dy, _, rfl, rfl, h5, h6, call_ok (W := W0) r2 rp3 ?_⟩
        cases hcl : callO F [a, b] (slots cs2) with
        | bad => rw [hcl] at q2; exact q2.elim
        | err ex ρ' => rw [hcl] at q2; exact q2.elim
        | ok t ρ' =>
          rw [hcl] at q2
          cases t with
          | sh d =>
            cases d with
            | bl kk =>
              intro v fv cs' H' G' e1 e2 st3 r3
              have rv := r3.shared.1
              simp only [Rp] at rv
              exact ⟨kk, rv, q2 v fv cs' H' G' e1 e2 st3 r3⟩
            | _ => exact q2.elim
          | _ => exact q2.elim
      · exact q2.elim
/-! ### C(..) -/
def mMakeEnd (n : Nat) : Out T → Out T
  | .ok (.sh .non) ρ' => (match ρ'[n]? with
    | some (.v t) => .ok t (ρ'.take n)
    | _ => .bad)
  | .err x ρ' => if n < ρ'.length then .err x (ρ'.take n) else .bad
  | _ => .bad
def mMake (c : Str) (F : M T) (ms : M (List AV)) (dfl : List D) : M T := fun ρ => (ms ρ).bind fun as ρ1 => mMakeEnd ρ1.length (callO F (.own ρ1.length :: as ++ dfl.map .d) (ρ1 ++ [.v (.ins c [] [])]))
def tMakeSD (C : Addr) (sp : Sp) (dvs : List V) (E : L2.St → XK) (t : TA) : TE := fun σ H Q => t σ H fun vs H1 => ∀ x dx, H1 x = none → H1 dx = none → dx ≠ x →
  sp (.ref x :: (vs ++ dvs)) (upd (upd H1 dx (.own x)) x (.ins C dx [])) (fun v H2 => v = .non ∧ Q (.ref x) H2) (E σ)
section
variable {CX : CXT} {C : Addr} {sp : Sp} {E : L2.St → XK} {t : TA}
theorem run_makeSD {pins : List (Addr × Obj)} {σ : L2.St} {H : Hp} {s : Shared} {Q : VK} {us : List Value} {vs : List V} (Mk : Mk X.K C fa) (F : FnOk X.prog X.w X.K X.mg X.base CX k fa fd ps sp) (hr : Room (k + 1) X.A) (hb : Binds X.K fd ps ds) (hd : Vals dvs ds)
    (hx : PassesAt CX X σ (E σ)) (I : Inv X pins σ H s) (r : Vals vs us)
    (h : ∀ x dx, H x = none → H dx = none → dx ≠ x → sp (.ref x :: (vs ++ dvs)) (upd (upd H dx (.own x)) x (.ins C dx [])) (fun v H2 => v = .non ∧ Q (.ref x) H2) (E σ)) :
    wpAny (model X.prog X.w) X.A (call (.ref C) us) (EP X pins σ Q) X.xe s := by
  have hq := h (s.heap.objs.size + 1) s.heap.objs.size (I.hok.fresh (Nat.le_succ _)) (I.hok.fresh (Nat.le_refl _)) (Nat.ne_of_lt (Nat.lt_succ_self _))
  have I2 := Inv.made (C := C) I
  have r2 : Vals (V.ref (s.heap.objs.size + 1) :: (vs ++ dvs)) (Value.ref (s.heap.objs.size + 1) :: (us ++ ds)) := .cons rfl (r.append hd)
  have hl : (Value.ref (s.heap.objs.size + 1) :: us ++ ds).length = ps.length := by
    have e := r2.length
    rw [F.len _ _ _ _ hq] at e
    exact e.symm
  refine wpAny_call (make_map (f := fa) I.kIn Mk.makes Mk.init (beq_iff_eq.mp Mk.fn) (codeAny_mono (F.run _ X.stack _ _ ⟨Value.ref (s.heap.objs.size + 1) :: us, []⟩ (Value.ref (s.heap.objs.size + 1) :: (us ++ ds)) _ _ (E σ) (hr.make C us [])
    (I2.env0.make C us []) (hb _ (Value.ref (s.heap.objs.size + 1) :: us) I2.kIn hl) r2 hq) fun r s' hq' => ?_))
  cases r with
  | error e => exact hx pins _ _ e s' I2 hq'
  | ok fl =>
    cases fl with
    | ret u =>
      obtain ⟨v, H', I3, rv, ev, q3⟩ := I2.after hq'
      subst ev
      exact ⟨rv, ⟨V.ref (s.heap.objs.size + 1), H', I3, rfl, q3⟩⟩
    | next => exact False.elim hq'
    | brk => exact False.elim hq'
    | cont => exact False.elim hq'
theorem pe_makeSD (Mk : Mk X.K C fa) (F : FnOk X.prog X.w X.K X.mg X.base CX k fa fd ps sp) (hr : Room (k + 1) X.A) (hg : Gl X x) (hm : X.mg x = some (.ref C)) (hb : Binds X.K fd ps ds) (hd : Vals dvs ds) (hx : ∀ σ, PassesAt CX X σ (E σ))
    (ha : PA X (e :: es) t) (hdb : (x == ("__debug__" : Str)) = false := by decide) (he : starEach (e :: es) X.env = (false, eval e X.env) :: starEach es X.env := by rfl) (hpl : (backTo pos (starEach es X.env)).any (·.1) = false := by rfl) :
    PE X (.Call (.Name x p) (e :: es) [] pos) (tMakeSD C sp dvs E t) := by
  refine ⟨fun pins s σ H Q I h => ?_⟩
  refine wpAny_Call_Name_kw (ld_glob I hg hm ?_ hdb)
  refine PySem.W.callWith_K (h₀ := X.base) I.ok.mod.kin Mk.kp (thn (ha.run pos pins s σ H _ I h) fun us s1 ⟨vs, H1, I1, r, q⟩ => ⟨I1.kIn, ?_⟩) he hpl
  exact run_makeSD Mk F hr hb hd (hx σ) I1 r q
end
theorem kQ_snoc {K : PySem.W.Frag} {G : Hp} {σ : L2.St} {y : Option V} : ∀ {as : List AV} {xs : List V}, (kQ σ).rel K G as xs → (kQ (σ ++ [y])).rel K G as xs
  | [], _, h => by cases h; exact .nil
  | a :: as, _, h => by
    cases h with
    | cons h1 h2 =>
      refine .cons ?_ (kQ_snoc h2)
      cases a with
      | d d => exact h1
      | own i =>
        have e : σ[i]? = some (some _) := h1
        show (σ ++ [y])[i]? = _
        rw [List.getElem?_append_left (List.getElem?_eq_some_iff.mp e).1]
        exact e
theorem make_core {tq : TA} {ms : M (List AV)} {H G : Hp} {cs : List Cell} {Q : VK} (hdd : Dfl X.K dds dvs)
    (h4 : ∀ H G cs Q, RR X.K rt G H cs → PostK X.K rt W (kQ (vals cs)) H G cs (ms (slots cs)) Q → tq (vals cs) H Q)
    (r : RR X.K rt G H cs) (q : PostE X.K rt W H G cs (mMake c F ms dds (slots cs)) Q) : tMakeSD (He.ga X.K c) (spOf X.K F) dvs (WE W) tq (vals cs) H Q := by
  refine h4 H G cs _ r (PostK.seqE q fun as xs cs1 H1 G1 ev st r1 rp1 q1 => fun x dx hx hdx hne => ?_)
  rw [← ev] at rp1 ⊢
  have hl : (slots cs1).length = cs1.length := by simp [slots]
  rw [hl] at q1
  have nG : G1 x = none := none_of_sub r1.sub hx
  have k2 : ∀ b o, H1 b = some o → (upd (upd H1 dx (.own x)) x (.ins (He.ga X.K c) dx [])) b = some o := fun b o e => by
    rw [upd_ne (ne_of_none e hx), upd_ne (ne_of_none e hdx)]
    exact e
  have st2 : Stp H1 G1 [] (upd (upd H1 dx (.own x)) x (.ins (He.ga X.K c) dx [])) G1 [x] :=
    ⟨fun b o e _ => k2 b o e, Ext.refl _, fun a ha => .inr (by rw [List.mem_singleton.mp ha]; exact hx), fun b o e => .inl e⟩
  have rs : RR X.K rt G1 (upd (upd H1 dx (.own x)) x (.ins (He.ga X.K c) dx [])) [⟨.v (.ins c [] []), some (.ref x), [x]⟩] := by
    refine ⟨fun cl hcl => ?_, by simp [fps], fun a ha => ?_, fun a o e => ?_⟩
    · have e : cl = ⟨.v (.ins c [] []), some (.ref x), [x]⟩ := by simpa using hcl
      subst e
      exact ⟨.ref x, rfl, by simp only [RT, RTL]; exact ⟨x, dx, [], [], rfl, upd_same, rfl, ⟨rfl, rfl⟩, rfl⟩⟩
    · have e : a = x := by simpa [fps] using ha
      rw [e]
      exact nG
    · rcases r1.sub a o e with z | ⟨z1, ob, z2⟩
      · exact .inl (k2 a o z)
      · exact .inr ⟨z1, ob, k2 a _ z2⟩
  have r2 : RR X.K rt G1 (upd (upd H1 dx (.own x)) x (.ins (He.ga X.K c) dx [])) (cs1 ++ [⟨.v (.ins c [] []), some (.ref x), [x]⟩]) :=
    RR.frame (A := cs1) (B := []) (by rw [List.append_nil]; exact r1) (st2.mem (fun _ => Iff.rfl) fun a ha => by simpa [fps] using ha) rs
  have ev2 : vals (cs1 ++ [(⟨.v (.ins c [] []), some (.ref x), [x]⟩ : Cell)]) = vals cs1 ++ [some (.ref x)] := by simp [vals]
  have es2 : slots (cs1 ++ [(⟨.v (.ins c [] []), some (.ref x), [x]⟩ : Cell)]) = slots cs1 ++ [.v (.ins c [] [])] := by simp [slots]
  have rp2 : (kQ (vals (cs1 ++ [(⟨.v (.ins c [] []), some (.ref x), [x]⟩ : Cell)]))).rel X.K G1 (.own cs1.length :: as ++ dds.map .d) (.ref x :: (xs ++ dvs)) := by
    rw [ev2]
    refine .cons ?_ (kQ_app (kQ_snoc rp1) (hdd G1))
    show (vals cs1 ++ [some (.ref x)])[cs1.length]? = some (some (.ref x))
    rw [List.getElem?_append_right (by simp [vals])]
    simp [vals]
  have z := call_ok (F := F) (Q := fun v H2 => v = .non ∧ Q (.ref x) H2) (W := fun cls d _ H' => W cls d (vals cs1) H') r2 rp2 ?_
  · exact z
  · rw [es2]
    have stF : Stp H1 G1 (fps cs1) (upd (upd H1 dx (.own x)) x (.ins (He.ga X.K c) dx [])) G1 (fps (cs1 ++ [(⟨.v (.ins c [] []), some (.ref x), [x]⟩ : Cell)])) :=
      (st2.frame (A := fps cs1)).mem (fun a => by simp) (fun a ha => by rw [fps_append] at ha; simpa [fps] using ha)
    cases hcl : callO F (.own cs1.length :: as ++ dds.map .d) (slots cs1 ++ [.v (.ins c [] [])]) with
    | bad => rw [hcl] at q1; exact q1.elim
    | ok t ρ' =>
      rw [hcl] at q1
      cases t with
      | sh d =>
        cases d with
        | non =>
          simp only [mMakeEnd] at q1
          intro v fv cs3 H3 G3 e1 e2 st3 r3
          have rv := r3.shared
          simp only [Rp] at rv
          obtain ⟨rv, rf⟩ := rv
          refine ⟨rv, ?_⟩
          subst rf
          rw [← e1] at q1
          split at q1
          · rename_i t' ht'
            obtain ⟨c3, hc3, es3⟩ := cell_at ht'
            have l3 : cs3.length = cs1.length + 1 := by
              have z := congrArg List.length e2
              rw [ev2] at z
              simpa [vals] using z
            have hsp : cs3 = cs3.take cs1.length ++ [c3] := by
              obtain ⟨hlt, e⟩ := List.getElem?_eq_some_iff.mp hc3
              have z := List.take_append_drop cs1.length cs3
              rw [List.drop_eq_getElem_cons hlt, e, List.drop_of_length_le (by omega)] at z
              exact z.symm
            obtain ⟨s3, o3, f3⟩ := c3
            have es3' : s3 = .v t' := es3
            subst es3'
            obtain ⟨y, ey, hy⟩ := r3.tail.at hc3
            have ey' : o3 = some y := ey
            subst ey'
            have exy : y = .ref x := by
              have z := vals_at hc3
              rw [e2, ev2, List.getElem?_append_right (by simp [vals])] at z
              simp [vals] at z
              exact z.symm
            subst exy
            have r4 : RR X.K rt G3 H3 (⟨.v t', some (.ref x), f3⟩ :: cs3.take cs1.length) := by
              have z := r3.tail
              rw [hsp] at z
              exact z.perm (List.perm_append_comm (l₂ := ([⟨.v t', some (.ref x), f3⟩] : List Cell)))
            refine q1 (.ref x) f3 (cs3.take cs1.length) H3 G3 (by unfold slots; rw [List.map_take]) ?_ ?_ r4
            · have z := congrArg (List.take cs1.length) e2
              rw [ev2, List.take_append_of_le_length (by simp [vals])] at z
              unfold vals at z ⊢
              rw [List.map_take, z]
              exact List.take_of_length_le (by simp)
            · refine (stF.trans st3).mem (fun _ => Iff.rfl) fun a ha => ?_
              rw [List.nil_append, hsp, fps_append]
              rcases List.mem_append.mp ha with z | z
              · exact List.mem_append_right _ (by simpa [fps] using z)
              · exact List.mem_append_left _ z
          · exact q1.elim
        | _ => exact q1.elim
      | _ => exact q1.elim
    | err ex ρ' =>
      rw [hcl] at q1
      simp only [mMakeEnd] at q1
      split at q1
      · rename_i hlt
        intro cls d cs3 H3 G3 e1 e2 st3 r3 hxr
        have l3 : cs3.length = cs1.length + 1 := by
          have z := congrArg List.length e2
          rw [ev2] at z
          simpa [vals] using z
        have hsub : ∀ a, a ∈ fps (cs3.take cs1.length) → a ∈ fps cs3 := fun a ha => by
          obtain ⟨c, hc, h⟩ := mem_fps.mp ha
          exact mem_fps.mpr ⟨c, List.mem_of_mem_take hc, h⟩
        have r4 : RR X.K rt G3 H3 (cs3.take cs1.length) := by
          have z := r3
          rw [← List.take_append_drop cs1.length cs3] at z
          exact z.left
        refine q1 cls d (cs3.take cs1.length) H3 G3 (by unfold slots; rw [List.map_take]; exact congrArg _ e1) ?_ ((stF.trans st3).mem (fun _ => Iff.rfl) hsub) r4 hxr
        have z := congrArg (List.take cs1.length) e2
        rw [ev2, List.take_append_of_le_length (by simp [vals])] at z
        unfold vals at z ⊢
        rw [List.map_take, z]
        exact List.take_of_length_le (by simp)
      · exact q1.elim
theorem d_make {ms : M (List AV)} (tk : L2.Takes X W) (Mk : Mk X.K (He.ga X.K x) fa) (Fn : FnOk X.prog X.w X.K X.mg X.base (L2.CX X.prog X.w) k fa fd ps (spOf X.K F)) (hr : Room (k + 1) X.A) (hg : Gl X x) (hm : X.mg x = some (.ref (He.ga X.K x))) (hb : Binds X.K fd ps ds) (hd : Vals dvs ds) (hdd : Dfl X.K dds dvs)
    (ha : PQd X rt W (e :: es) ms) (hdb : (x == ("__debug__" : Str)) = false := by decide) (he : starEach (e :: es) X.env = (false, eval e X.env) :: starEach es X.env := by rfl) (hpl : (backTo pos (starEach es X.env)).any (·.1) = false := by rfl) :
    PEd X rt W (.Call (.Name x p) (e :: es) [] pos) (mMake x F ms dds) := by
  obtain ⟨tq, h3, h4⟩ := ha.ex
  exact ⟨_, pe_makeSD (E := WE W) Mk Fn hr hg hm hb hd (fun σ => L2.passAt tk σ) h3 hdb he hpl, fun H G cs Q r q => make_core hdd h4 r q⟩
end
end PD

set_option Elab.async false
set_option linter.all false
set_option maxRecDepth 100000
set_option maxHeartbeats 2000000
/-! PD: fields of instances; isinstance of own classes. -/
namespace PD
open PySem PySem.Spec PyProof.Rows L2
def putN (f : Str) : List Str → List Str
  | [] => [f]
  | g :: r => if g = f then g :: r else g :: putN f r
def putL {α : Type} (f : Str) (y : α) : List Str → List α → List α
  | [], _ => [y]
  | g :: r, x :: xs => if g = f then y :: xs else x :: putL f y r xs
  | _ :: _, [] => []
theorem putF_zip (f : Str) (y : V) : ∀ {ns : List Str} {xs : List V}, ns.length = xs.length → putF f y (ns.zip xs) = (putN f ns).zip (putL f y ns xs)
  | [], [], _ => rfl
  | [], _ :: _, h => by cases h
  | _ :: _, [], h => by cases h
  | g :: r, x :: xs, h => by
    have ih := putF_zip f y (ns := r) (xs := xs) (by simpa using h)
    simp only [List.zip_cons_cons, putF, putN, putL]
    split
    · rfl
    · rw [ih]; rfl
theorem putL_length {α β : Type} (f : Str) (y : α) : ∀ {ns : List Str} {xs : List α}, ns.length = xs.length → (putN f ns).length = (putL f y ns xs).length
  | [], [], _ => rfl
  | [], _ :: _, h => by cases h
  | _ :: _, [], h => by cases h
  | g :: r, x :: xs, h => by
    have ih := putL_length (β := β) f y (ns := r) (xs := xs) (by simpa using h)
    simp only [putN, putL]
    split
    · simpa using h
    · simp [ih]
section
variable {K : PySem.W.Frag} {rt : List V} {G H G' H' : Hp}
theorem RTL.put {f : Str} {t : T} {y : V} {ft : List Addr} (ht : RT K G H t y ft) : ∀ {ns : List Str} {ts : List T} {xs : List V} {fp : List Addr}, ns.length = ts.length → RTL K G H ts xs fp →
    ∃ fp', RTL K G H (putL f t ns ts) (putL f y ns xs) fp' ∧ (∀ a, a ∈ fp' → a ∈ fp ++ ft) ∧ ((fp ++ ft).Nodup → fp'.Nodup)
  | [], [], xs, fp, _, h => by
    simp only [RTL] at h
    obtain ⟨rfl, rfl⟩ := h
    refine ⟨ft, ?_, fun a ha => by simpa using ha, fun n => by simpa using n⟩
    have z := RTL.one ht
    simpa [putL] using z
  | [], _ :: _, _, _, h, _ => by cases h
  | _ :: _, [], _, _, h, _ => by cases h
  | g :: r, t0 :: ts, xs, fp, h, hr => by
    simp only [RTL] at hr
    obtain ⟨x, xr, f1, f2, rfl, h1, h2, rfl⟩ := hr
    simp only [putL]
    split
    · refine ⟨ft ++ f2, ?_, fun a ha => ?_, fun n => ?_⟩
      · simp only [RTL]
        exact ⟨y, xr, ft, f2, rfl, ht, h2, rfl⟩
      · simp only [List.mem_append] at ha ⊢
        rcases ha with z | z
        · exact .inr z
        · exact .inl (.inr z)
      · rw [List.append_assoc] at n
        have n2 := (List.nodup_append.mp n).2.1
        exact (List.perm_append_comm.nodup_iff).mp n2
    · obtain ⟨fp', i1, i2, i3⟩ := RTL.put ht (ns := r) (ts := ts) (by simpa using h) h2
      refine ⟨f1 ++ fp', ?_, fun a ha => ?_, fun n => ?_⟩
      · simp only [RTL]
        exact ⟨x, _, f1, fp', rfl, h1, i1, rfl⟩
      · rw [List.append_assoc]
        rcases List.mem_append.mp ha with z | z
        · exact List.mem_append_left _ z
        · exact List.mem_append_right _ (i2 a z)
      · rw [List.append_assoc] at n
        obtain ⟨n1, n2, n3⟩ := List.nodup_append.mp n
        exact List.nodup_append.mpr ⟨n1, i3 n2, fun a ha b hb e => n3 a ha b (i2 b hb) e⟩
end
section
variable {X : Cx} {rt : List V} {W : WX} {e o value : Expr} {es : List Expr} {p p2 pos pos' apos : Pos} {x f c : Str}
/-! ### self.f = e -/
def mSetF (i : Nat) (c f : Str) (m : M T) : MS := fun ρ => match ρ[i]?.bind Sl.t? with
  | some _ => (m ρ).bindS fun t ρ' => (match ρ'[i]? with
    | some s => (match s.t? with
      | some (.ins c' ns ts) => if c' = c ∧ ns.length = ts.length ∧ ns.length < 1000 then .nx (ρ'.set i (s.re (.ins c (putN f ns) (putL f t ns ts)))) else .bad
      | _ => .bad)
    | none => .bad)
  | none => .bad
theorem st_setF {i : Nat} {m : M T} (hN : X.N[i]? = some x) (hv : Vis X.env.scope x) (hcl : Cls X.K (He.ga X.K c)) (hno : NoAttr X.K (He.ga X.K c) f) (h : PEd X rt W value m)
    (hs : swapsWith value (some (.Attribute (.Name x p) f pos')) pos.line X.env = pure false := by rfl) (hd : (x == ("__debug__" : Str)) = false := by decide) (hcd : (x == ("__classdict__" : Str)) = false := by decide) :
    PSd X rt W (.Assign [.Attribute (.Name x p) f pos'] value pos) (mSetF i c f m) := by
  obtain ⟨te, h1, h2⟩ := h.ex
  refine ⟨_, ps_fld (pe_var hN hv hd hcd) h1 hs, fun H G cs D r q => ?_⟩
  unfold mSetF at q
  split at q
  · rename_i t0 h0
    rw [Option.bind_eq_some_iff] at h0
    obtain ⟨sl0, e0, e0'⟩ := h0
    obtain ⟨c0, hc0, rfl⟩ := cell_at e0
    obtain ⟨x0, ex0, ht0⟩ := (r.at hc0).tree e0'
    refine h2 H G cs _ r (PostE.seqS q fun t v ft cs1 H1 G1 ev st r1 q1 => ?_)
    cases hsl : (slots cs1)[i]? with
    | none => simp only [hsl] at q1; exact q1.elim
    | some sl =>
      simp only [hsl] at q1
      obtain ⟨cl, hc, rfl⟩ := cell_at hsl
      split at q1
      · rename_i c' ns ts hts
        obtain ⟨x1, ex1, ht1⟩ := (r1.tail.at hc).tree hts
        split at q1
        · rename_i hz
          obtain ⟨rfl, hlen, h1000⟩ := hz
          have ht1' := ht1
          simp only [RT] at ht1
          obtain ⟨a1, dx, xs1, f1, e6, ha1, hl0, hl1, ef⟩ := ht1
          subst e6
          obtain ⟨cs_, co, cf⟩ := cl
          have eco : co = some (.ref a1) := ex1
          subst eco
          have ef' : cf = a1 :: f1 := ef
          subst ef'
          have hv1 : (vals cs)[i]? = some (some (.ref a1)) := by rw [← ev, vals_at hc]
          refine ⟨.ref a1, hv1, a1, _, dx, _, rfl, ha1, hcl, hno, ?_, ?_⟩
          · rw [List.length_zip]
            omega
          have pm : (⟨.v t, some v, ft⟩ :: cs1).Perm ([⟨cs_, some (.ref a1), a1 :: f1⟩, ⟨.v t, some v, ft⟩] ++ (cs1.take i ++ cs1.drop (i + 1))) := ((perm_at hc).cons _).trans (List.Perm.swap _ _ _)
          have rp := r1.perm pm
          have nd := rp.nd
          rw [fps_append, fps_cons, fps_cons, fps_nil, List.append_nil] at nd
          obtain ⟨nd1, _, _⟩ := List.nodup_append.mp nd
          have hna : a1 ∉ f1 ++ ft := fun m => (List.nodup_cons.mp nd1).1 m
          have nd2 : (f1 ++ ft).Nodup := (List.nodup_cons.mp nd1).2
          obtain ⟨y, ey, hyt⟩ := rp.cell ⟨.v t, some v, ft⟩ (by simp)
          cases ey
          rw [putF_zip f v hl0]
          have fr : ∀ b ∈ f1 ++ ft, ∀ u, H1 b = some u → upd H1 a1 (.ins (He.ga X.K c') dx ((putN f ns).zip (putL f v ns xs1))) b = some u := fun b hb u hu => by
            rw [upd_ne (fun z => hna (by rw [← z]; exact hb))]; exact hu
          obtain ⟨fp', k1, k2, k3⟩ := RTL.put (f := f) (RT.frame (Ext.refl G1) (H' := upd H1 a1 (.ins (He.ga X.K c') dx ((putN f ns).zip (putL f v ns xs1)))) t v ft (fun b hb => fr b (List.mem_append_right _ hb)) hyt) hlen
            (RTL.frame (Ext.refl G1) (H' := upd H1 a1 (.ins (He.ga X.K c') dx ((putN f ns).zip (putL f v ns xs1)))) ts xs1 f1 (fun b hb => fr b (List.mem_append_left _ hb)) hl1)
          have hnew : RT X.K G1 (upd H1 a1 (.ins (He.ga X.K c') dx ((putN f ns).zip (putL f v ns xs1)))) (.ins c' (putN f ns) (putL f t ns ts)) (.ref a1) (a1 :: fp') := by
            simp only [RT]
            exact ⟨a1, dx, putL f v ns xs1, fp', rfl, upd_same, putL_length (β := Nat) f v hl0, k1, rfl⟩
          have hcell : CellR X.K rt G1 H1 ⟨cs_, some (.ref a1), a1 :: f1⟩ := rp.cell _ (by simp)
          have hsub : ∀ z, z ∈ a1 :: fp' → z ∈ fps [(⟨cs_, some (.ref a1), a1 :: f1⟩ : Cell), ⟨.v t, some v, ft⟩] := fun z hz => by
            rw [fps_cons, fps_cons, fps_nil, List.append_nil]
            rcases List.mem_cons.mp hz with rfl | hz
            · exact List.mem_cons_self
            · exact List.mem_cons_of_mem _ (k2 z hz)
          have rnew := RR.change (B := [⟨cs_, some (.ref a1), a1 :: f1⟩, ⟨.v t, some v, ft⟩]) (R := cs1.take i ++ cs1.drop (i + 1)) (c' := ⟨cs_.re (.ins c' (putN f ns) (putL f t ns ts)), some (.ref a1), a1 :: fp'⟩) (a := a1) (o := .ins (He.ga X.K c') dx ((putN f ns).zip (putL f v ns xs1))) rp
            (by rw [fps_cons]; simp) hsub (List.nodup_cons.mpr ⟨fun m => hna (k2 _ m), k3 nd2⟩) (hcell.re hts hnew)
          have rset := rnew.perm (perm_set hc _).symm
          have z := q1 _ (upd H1 a1 (.ins (He.ga X.K c') dx ((putN f ns).zip (putL f v ns xs1)))) G1 slots_set ?_ rset
          · rw [vals_set_same (c' := ⟨cs_.re (.ins c' (putN f ns) (putL f t ns ts)), some (.ref a1), a1 :: fp'⟩) hc rfl, ev] at z
            exact z
          · have m1 : ∀ x, x ∈ fps (cs1.set i ⟨cs_.re (.ins c' (putN f ns) (putL f t ns ts)), some (.ref a1), a1 :: fp'⟩) → x ∈ ft ++ fps cs1 := fun x hx => by
              have e1 : (fps (cs1.set i ⟨cs_.re (.ins c' (putN f ns) (putL f t ns ts)), some (.ref a1), a1 :: fp'⟩)).Perm ((a1 :: fp') ++ fps (cs1.take i ++ cs1.drop (i + 1))) := (perm_set hc _).flatMap_right _
              have e2 : (fps cs1).Perm ((a1 :: f1) ++ fps (cs1.take i ++ cs1.drop (i + 1))) := (perm_at hc).flatMap_right _
              have z := e1.mem_iff.mp hx
              rw [List.mem_append, e2.mem_iff]
              rcases List.mem_append.mp z with z | z
              · rcases List.mem_cons.mp z with rfl | z
                · exact .inr (List.mem_append_left _ List.mem_cons_self)
                · rcases List.mem_append.mp (k2 x z) with z | z
                  · exact .inr (List.mem_append_left _ (List.mem_cons_of_mem _ z))
                  · exact .inl z
              · exact .inr (List.mem_append_right _ z)
            have ain : a1 ∈ ft ++ fps cs1 := List.mem_append_right _ (mem_fps.mpr ⟨_, List.mem_of_getElem? hc, List.mem_cons_self⟩)
            exact st.trans (Stp.mut ain m1)
        · exact q1.elim
      · exact q1.elim
  · exact q.elim
/-! ### o.f -/
def mFld (cls : List Str) (f : Str) (m : M D) : M D := fun ρ => (m ρ).bind fun d => match d with
  | .ins c ns ds => if c ∈ cls then M.ofO ((ns.zip ds).lookup f) else fun _ => .bad
  | _ => fun _ => .bad
theorem s_fld {cls : List Str} {m : M D} (hc : ∀ c ∈ cls, Cls X.K (He.ga X.K c) ∧ NoAttr X.K (He.ga X.K c) f) (h : PEs X rt W o m) (hb : attributeBase o f X.env (eval o X.env) = eval o X.env := by rfl) : PEs X rt W (.Attribute o f pos) (mFld cls f m) := by
  obtain ⟨te, h1, h2⟩ := h.ex
  refine ⟨_, pe_fld h1 hb, fun H G cs Q r q => h2 H G cs _ r (PostK.seqK q fun d v cs1 H1 G1 ev st r1 rp q1 => ?_)⟩
  cases d with
  | ins c ns ds =>
    simp only at q1
    split at q1
    · rename_i hcm
      obtain ⟨a, dx, xs, rfl, h5, hl, h6⟩ := ins_rp r1.sub rp
      unfold M.ofO at q1
      cases hlk : (ns.zip ds).lookup f with
      | none => rw [hlk] at q1; exact q1.elim
      | some d =>
        rw [hlk] at q1
        obtain ⟨v, e1, e2⟩ := lookup_zip hl h6 hlk
        exact ⟨a, _, dx, _, v, rfl, h5, (hc c hcm).1, (hc c hcm).2, e1, q1 v cs1 H1 G1 rfl rfl Stp.refl r1 e2⟩
    · exact q1.elim
  | _ => exact q1.elim
/-- self.f, self an owned slot: a shared value of it -/
def mFldO (i : Nat) (cls : List Str) (f : Str) : M D := fun ρ => match ρ[i]?.bind Sl.t? with
  | some (.ins c ns ts) => if c ∈ cls then (match (ns.zip ts).lookup f with
    | some (.sh d) => .ok d ρ
    | _ => .bad) else .bad
  | some (.sh (.ins c ns ds)) => if c ∈ cls then (match (ns.zip ds).lookup f with
    | some d => .ok d ρ
    | _ => .bad) else .bad
  | _ => .bad
theorem lookup_zipT {K : PySem.W.Frag} {G H : Hp} : ∀ {ns : List Str} {ts : List T} {xs : List V} {fp : List Addr} {f : Str} {t : T}, ns.length = xs.length → RTL K G H ts xs fp → (ns.zip ts).lookup f = some t → ∃ v ft, (ns.zip xs).lookup f = some v ∧ RT K G H t v ft
  | [], _, _, _, _, _, _, _, h => by cases h
  | n :: ns, [], _, _, _, _, _, _, h => by cases h
  | n :: ns, t0 :: ts, xs, fp, f, t, hl, hr, h => by
    simp only [RTL] at hr
    obtain ⟨x, r, f1, f2, rfl, h1, h2, rfl⟩ := hr
    simp only [List.zip_cons_cons, List.lookup_cons] at h ⊢
    cases hf : f == n with
    | true =>
      rw [hf] at h
      simp only at h ⊢
      cases h
      exact ⟨x, f1, rfl, h1⟩
    | false =>
      rw [hf] at h
      simp only at h ⊢
      exact lookup_zipT (by simpa using hl) h2 h
theorem s_fldO (i : Nat) {cls : List Str} (hc : ∀ c ∈ cls, Cls X.K (He.ga X.K c) ∧ NoAttr X.K (He.ga X.K c) f) (hN : X.N[i]? = some x) (hv : Vis X.env.scope x)
    (hb : attributeBase (.Name x p) f X.env (eval (.Name x p) X.env) = eval (.Name x p) X.env := by rfl) (hd : (x == ("__debug__" : Str)) = false := by decide) (hcd : (x == ("__classdict__" : Str)) = false := by decide) :
    PEs X rt W (.Attribute (.Name x p) f pos) (mFldO i cls f) := by
  refine ⟨_, pe_fld (pe_var hN hv hd hcd) hb, fun H G cs Q r q => ?_⟩
  unfold mFldO at q
  cases hi : (slots cs)[i]?.bind Sl.t? with
  | none => rw [hi] at q; exact q.elim
  | some t =>
    rw [hi] at q
    rw [Option.bind_eq_some_iff] at hi
    obtain ⟨s, e1, e2⟩ := hi
    obtain ⟨cl, hcl, rfl⟩ := cell_at e1
    obtain ⟨y, ey, ht⟩ := (r.at hcl).tree e2
    have hx : (vals cs)[i]? = some (some y) := by rw [vals_at hcl, ey]
    cases t with
    | ins c ns ts =>
      simp only at q
      split at q
      · rename_i hcm
        simp only [RT] at ht
        obtain ⟨a, dx, xs, f1, rfl, h5, hl, h6, _⟩ := ht
        split at q
        · rename_i d hlk
          obtain ⟨v, ft, k1, k2⟩ := lookup_zipT hl h6 hlk
          simp only [RT] at k2
          exact ⟨_, hx, a, _, dx, _, v, rfl, h5, (hc c hcm).1, (hc c hcm).2, k1, q v cs H G rfl rfl Stp.refl r k2.1⟩
        · exact q.elim
      · exact q.elim
    | sh d =>
      cases d with
      | ins c ns ds =>
        simp only at q
        split at q
        · rename_i hcm
          simp only [RT] at ht
          obtain ⟨a, dx, xs, rfl, h5, hl, h6⟩ := ins_rp r.sub ht.1
          split at q
          · rename_i d hlk
            obtain ⟨v, k1, k2⟩ := lookup_zip hl h6 hlk
            exact ⟨_, hx, a, _, dx, _, v, rfl, h5, (hc c hcm).1, (hc c hcm).2, k1, q v cs H G rfl rfl Stp.refl r k2⟩
          · exact q.elim
        · exact q.elim
      | _ => exact q.elim
    | _ => exact q.elim
/-! ### isinstance(e, C) -/
def insCB (K : PySem.W.Frag) (C : Addr) : Bool := decide (PySem.W.findIn K (.ref C) "__class__" = some (some (.builtin "object.__class__"))) && (decide (PySem.W.specialIn K (.builtin "object.__class__") "__get__" = some (some (.builtin "getset_descriptor.__get__"))) && (decide (PySem.W.takesIn K (.builtin "object.__class__") = some true) && decide (PySem.W.mroIn K C (.type "object") = some true)))
structure InsC (K : PySem.W.Frag) (C : Addr) : Prop where
  cl : Cls K C
  ha : PySem.W.findIn K (.ref C) "__class__" = some (some (.builtin "object.__class__"))
  hn : PySem.W.specialIn K (.builtin "object.__class__") "__get__" = some (some (.builtin "getset_descriptor.__get__"))
  ht : PySem.W.takesIn K (.builtin "object.__class__") = some true
  hm : PySem.W.mroIn K C (.type "object") = some true
theorem insCB_ok {K : PySem.W.Frag} {C : Addr} (c : Cls K C) (h : insCB K C = true) : InsC K C := by
  obtain ⟨h1, h⟩ := He.ba h
  obtain ⟨h2, h⟩ := He.ba h
  obtain ⟨h3, h4⟩ := He.ba h
  exact ⟨c, of_decide_eq_true h1, of_decide_eq_true h2, of_decide_eq_true h3, of_decide_eq_true h4⟩
/-- yes: the classes whose objects are such; no: those whose are not; no built-in one is -/
def askO (yes no : List Str) : D → Option Bool
  | .ins c _ _ => if c ∈ yes then some true else if c ∈ no then some false else none
  | .exn _ _ _ _ _ => none
  | d => d.tyN.map fun _ => false
def mIsO (yes no : List Str) (m : M D) : M D := fun ρ => (m ρ).bind fun d => M.ofO ((askO yes no d).map D.bl)
theorem s_isO {yes no : List Str} {m : M D} {cv : V} {cu : Value} {e2 : Expr} (hg : Gl X "isinstance") (hm : X.mg "isinstance" = none) (h : PEs X rt W e m) (h2 : PE X e2 (tC cv)) (hcv : ClsV cv cu)
    (hy : ∀ c ∈ yes, InsC X.K (He.ga X.K c) ∧ PySem.W.kitOne X.K (.ref (He.ga X.K c)) cu = some true) (hn : ∀ c ∈ no, InsC X.K (He.ga X.K c) ∧ PySem.W.kitOne X.K (.ref (He.ga X.K c)) cu = some false)
    (hb : ∀ n ∈ ["NoneType", "bool", "int", "str", "list", "tuple"], PySem.W.kitOne X.K (.type n) cu = some false)
    (he2 : starEach [e2] X.env = (false, eval e2 X.env) :: starEach [] X.env := by rfl) (he : starEach [e, e2] X.env = (false, eval e X.env) :: starEach [e2] X.env := by rfl) (hpl : (backTo pos (starEach [e2] X.env)).any (·.1) = false := by rfl) :
    PEs X rt W (.Call (.Name "isinstance" p) [e, e2] [] pos) (mIsO yes no m) := by
  obtain ⟨te, k1, k2⟩ := h.ex
  refine ⟨_, pe_callB call_isi hg hm Boot.«isinstance» (pa_cons k1 (pa_cons h2 pa_nil he2) he) (by decide) (by decide) he hpl, fun H G cs Q r q => k2 H G cs _ r (PostK.seqK q fun d v cs1 H1 G1 ev st r1 rp q1 => ?_)⟩
  unfold M.ofO at q1
  cases hi : askO yes no d with
  | none => rw [hi] at q1; exact q1.elim
  | some b =>
    rw [hi] at q1
    have fin := q1 (.bl b) cs1 H1 G1 rfl rfl Stp.refl r1 (by show Rp _ _ _ _; simp only [Rp])
    have plain : ∀ n, d.tyN = some n → b = false → rIsi X.K [v, cv] H1 Q := fun n e1 eb => by
      refine ⟨v, cv, .type n, cu, b, rfl, hcv, tyX_of r1.sub rp e1, ?_, fin⟩
      rw [eb]
      refine hb n ?_
      cases d <;> cases e1 <;> decide
    cases d with
    | ins c ns ds =>
      obtain ⟨a, dx, xs, rfl, h5, _, _⟩ := ins_rp r1.sub rp
      have mk : ∀ (I : InsC X.K (He.ga X.K c)), PySem.W.kitOne X.K (.ref (He.ga X.K c)) cu = some b → rIsi X.K [.ref a, cv] H1 Q := fun I e => ⟨.ref a, cv, .ref (He.ga X.K c), cu, b, rfl, hcv, .base (.ins h5 I.cl I.ha I.hn I.ht I.hm), e, fin⟩
      simp only [askO] at hi
      split at hi
      · rename_i hc
        cases hi
        exact mk (hy c hc).1 (hy c hc).2
      · split at hi
        · rename_i hc
          cases hi
          exact mk (hn c hc).1 (hn c hc).2
        · cases hi
    | exn _ _ _ _ _ => cases hi
    | dct _ _ => cases hi
    | non => cases hi; exact plain _ rfl rfl
    | bl _ => cases hi; exact plain _ rfl rfl
    | int _ => cases hi; exact plain _ rfl rfl
    | str _ => cases hi; exact plain _ rfl rfl
    | lst _ => cases hi; exact plain _ rfl rfl
    | scr _ => cases hi; exact plain _ rfl rfl
    | tup _ => cases hi; exact plain _ rfl rfl
end
end PD

set_option Elab.async false
set_option linter.all false
set_option maxRecDepth 100000
set_option maxHeartbeats 2000000
/-! PD: the head's facts with errors' __init__; records of callees; a fresh first argument that is lent; len of a lent list. -/
namespace PD
open PySem PySem.Spec PyProof.Rows L2
/-! ### the Hook -/
/-- an error class's __init__: the class, the field, the def's words -/
structure DefI where
  cls : Str
  fld : Str
  qual : Str
  params : Arguments
  body : List Stmt
  scope : Scope
abbrev FnI : Type := Option (Str × Str × Arguments × FuncBody × Scope × Addr × List Str × Addr)
def fnI (K : PySem.W.Frag) (c : Str) : FnI := match K.lookup (He.fAd K (c, some "__init__")) with
  | some ⟨_, _, .func fd, _⟩ => some (fd.name, fd.qualname, fd.params, fd.body, fd.scope, fd.globals, fd.closure.map (·.1), fd.builtins)
  | _ => none
def DefI.val (d : DefI) : FnI := some ("__init__", d.qual, d.params, .stmts d.body, d.scope, mainGlobals, ["__class__"], builtinsNs)
def codeFile (K : PySem.W.Frag) (file : Str) (cd : Value) : Bool := match cd with
  | .ref cda => (match K.lookup cda with
    | some ⟨_, _, .fields vs, _⟩ => (match (vs[2]? : Option Value) with
      | some (.str f _) => file == f
      | _ => false)
    | _ => false)
  | _ => false
theorem codeFile_ok {K : PySem.W.Frag} {file : Str} {cd : Value} (h : codeFile K file cd = true) : ∃ cda ccl cdd vs ccs f tf, cd = .ref cda ∧ K.lookup cda = some ⟨ccl, cdd, .fields vs, ccs⟩ ∧ vs[2]? = some (.str f tf) ∧ (file == f) = true := by
  unfold codeFile at h
  cases cd with
  | ref cda =>
    simp only at h
    cases hq : K.lookup cda with
    | none => rw [hq] at h; cases h
    | some o =>
      obtain ⟨ccl, cdd, dt, ccs⟩ := o
      rw [hq] at h
      cases dt with
      | fields vs =>
        simp only at h
        cases hv : (vs[2]? : Option Value) with
        | none => rw [hv] at h; cases h
        | some v =>
          rw [hv] at h
          cases v with
          | str f tf => exact ⟨cda, ccl, cdd, vs, ccs, f, tf, rfl, hq, hv, h⟩
          | _ => cases h
      | _ => cases h
  | _ => cases h
def closCell (K : PySem.W.Frag) (C : Addr) (cl : List (Str × Addr)) : Bool := match cl with
  | [(_, cc)] => (match K.lookup cc with
    | some ⟨_, _, .cell (some (.ref D)), _⟩ => D == C
    | _ => false)
  | _ => false
theorem closCell_ok {K : PySem.W.Frag} {C : Addr} {cl : List (Str × Addr)} (h : closCell K C cl = true) : ∃ nm cc o d sl, cl = [(nm, cc)] ∧ K.lookup cc = some ⟨o, d, .cell (some (.ref C)), sl⟩ := by
  unfold closCell at h
  cases cl with
  | nil => cases h
  | cons x r =>
    cases r with
    | cons _ _ => cases h
    | nil =>
      obtain ⟨nm, cc⟩ := x
      simp only at h
      cases hq : K.lookup cc with
      | none => rw [hq] at h; cases h
      | some o =>
        obtain ⟨oc, od, dt, sl⟩ := o
        rw [hq] at h
        cases dt with
        | cell v =>
          cases v with
          | none => cases h
          | some v =>
            cases v with
            | ref D =>
              have e : D = C := by simpa using h
              subst e
              exact ⟨nm, cc, oc, od, sl, rfl, hq⟩
            | _ => cases h
        | _ => cases h
def nonV : Value → Bool
  | .none => true
  | _ => false
theorem nonV_ok {v : Value} (h : nonV v = true) : v = .none := by cases v <;> first | rfl | cases h
def DefI.ok (file : Str) (K : PySem.W.Frag) (d : DefI) : Bool := (match K.lookup (He.fAd K (d.cls, some "__init__")) with
  | some ⟨_, _, .func fd, _⟩ => closCell K (He.ga K d.cls) fd.closure && (codeFile K file fd.code && (nonV fd.defaults && PySem.W.codeIn K fd.code d.qual))
  | _ => false) && (decide (PySem.W.nsIn K mainGlobals "super" = some none) && (decide (PySem.W.nsIn K cStatics "thirdparty.any" = some none) && (decide (PySem.W.ks_superIn K (He.ga K d.cls) (He.ga K d.cls) "__init__" = some (some (.builtin "ValueError.__init__"))) &&
    (decide (PySem.W.subIn K (.ref (He.ga K d.cls)) (.type "ValueError") = some true) && (decide (PySem.W.mroIn K (He.ga K d.cls) (.ref (He.ga K d.cls)) = some true) && (oexB K (He.ga K d.cls) && (decide (PySem.W.findIn K (.ref (He.ga K d.cls)) d.fld = some none) &&
      (decide (PySem.W.findIn K (.ref (He.ga K d.cls)) "__init__" = some (some (.ref (He.fAd K (d.cls, some "__init__"))))) && decide (PySem.W.typeIn K (.ref (He.fAd K (d.cls, some "__init__"))) = some (.type "function"))))))))))
structure InitF (P : Program) (K : PySem.W.Frag) (d : DefI) (fd : FuncData) (cc cda : Addr) : Prop where
  sup : SupI P K (He.ga K d.cls) (He.fAd K (d.cls, some "__init__")) "__init__" d.qual d.params d.body d.scope fd cc cda
  fld : PySem.W.findIn K (.ref (He.ga K d.cls)) d.fld = some none
  ini : PySem.W.findIn K (.ref (He.ga K d.cls)) "__init__" = some (some (.ref (He.fAd K (d.cls, some "__init__"))))
  typ : PySem.W.typeIn K (.ref (He.fAd K (d.cls, some "__init__"))) = some (.type "function")
  nod : fd.defaults = .none
theorem DefI.made {P : Program} {K : PySem.W.Frag} {d : DefI} {file : Str} (hf : (P.main.file : Str) = file) (ht : (P.main.scope.names.lookup ("super" : Str)).isSome = false) (e : fnI K d.cls = d.val) (c : d.ok file K = true) : ∃ fd cc cda, InitF P K d fd cc cda := by
  unfold DefI.ok at c
  obtain ⟨c0, c⟩ := He.ba c
  obtain ⟨c1, c⟩ := He.ba c
  obtain ⟨c2, c⟩ := He.ba c
  obtain ⟨c3, c⟩ := He.ba c
  obtain ⟨c4, c⟩ := He.ba c
  obtain ⟨c5, c⟩ := He.ba c
  obtain ⟨c6, c⟩ := He.ba c
  obtain ⟨c7, c⟩ := He.ba c
  obtain ⟨c8, c9⟩ := He.ba c
  unfold fnI at e
  cases q : K.lookup (He.fAd K (d.cls, some "__init__")) with
  | none => rw [q] at c0; cases c0
  | some o =>
    obtain ⟨oc, od, dt, osl⟩ := o
    rw [q] at c0 e
    cases dt with
    | func fd =>
      simp only at c0 e
      obtain ⟨n1, n2, n3, n4, n5, n6, n7, n8, n9, n10, n11, n12, n13, n14, n15⟩ := fd
      have e2 : (some (n1, n2, n3, n4, n5, n6, n7.map (·.1), n15) : FnI) = (some (("__init__" : Str), d.qual, d.params, .stmts d.body, d.scope, mainGlobals, [("__class__" : Str)], builtinsNs) : FnI) := e
      simp only [Option.some.injEq, Prod.mk.injEq] at e2
      obtain ⟨h1, h2, h3, h4, h5, h6, h7, h8⟩ := e2
      obtain ⟨k1, k2⟩ := He.ba c0
      obtain ⟨k2, k3⟩ := He.ba k2
      obtain ⟨k4, k3⟩ := He.ba k3
      obtain ⟨nm, cc, cl, cld, csl, hcl, hcc⟩ := closCell_ok k1
      have hcl' : n7 = [(nm, cc)] := hcl
      subst hcl'
      have hnm : nm = "__class__" := by simpa using h7
      subst hnm
      obtain ⟨cda, ccl, cdd, vs, ccs, f, tf, hcd, hcda, hvs, hfile⟩ := codeFile_ok k2
      have hcd' : n13 = .ref cda := hcd
      subst hcd'
      subst h1 h2 h3 h4 h5 h6 h8
      exact ⟨_, cc, cda, ⟨⟨oc, od, n8, n9, n10, n11, n12, n14, osl, rfl, q⟩, ⟨cl, cld, csl, hcc⟩, k3, ⟨ccl, cdd, vs, ccs, f, tf, hcda, hvs, by rw [hf]; exact hfile⟩, ht, of_decide_eq_true c1, of_decide_eq_true c2, of_decide_eq_true c3, of_decide_eq_true c4, of_decide_eq_true c5, oexB_ok c6⟩,
        of_decide_eq_true c7, of_decide_eq_true c8, of_decide_eq_true c9, nonV_ok k4⟩
    | _ => cases c0
/-! ### defs by address -/
structure DefA where
  at_ : PySem.W.Frag → Addr
  name : Str
  qual : Str
  params : Arguments
  body : List Stmt
  scope : Scope
  dfl : List He.Dv := []
  kwd : List (Str × He.Dv) := []
def fnA (K : PySem.W.Frag) (a : Addr) : He.FnW := match K.lookup a with
  | some ⟨_, _, .func fd, _⟩ => some (fd.name, fd.qualname, fd.params, fd.body, fd.scope, fd.globals, fd.closure, fd.builtins)
  | _ => none
def DefA.val (d : DefA) : He.FnW := some (d.name, d.qual, d.params, .stmts d.body, d.scope, mainGlobals, [], builtinsNs)
def DefA.dvs (K : PySem.W.Frag) (d : DefA) : List V := d.dfl.map (He.Dv.v K)
def DefA.kws (K : PySem.W.Frag) (d : DefA) : List (Str × V) := d.kwd.map fun q => (q.1, q.2.v K)
def DefA.ok (K : PySem.W.Frag) (d : DefA) : Bool := PySem.W.keepIn K (.ref (d.at_ K)) && (match K.lookup (d.at_ K) with
  | some ⟨_, _, .func fd, _⟩ => PySem.W.codeIn K fd.code d.qual && (He.dflB K fd.defaults (d.dvs K) && He.kwdB K fd.kwdefaults (d.kws K))
  | _ => false)
theorem DefA.funD {K : PySem.W.Frag} {d : DefA} (e : fnA K (d.at_ K) = d.val) (c : d.ok K = true) : ∃ fd, FunD K d.name d.qual d.params d.body d.scope (d.dvs K) (d.kws K) (d.at_ K) fd := by
  obtain ⟨kp, c2⟩ := He.ba c
  unfold fnA at e
  cases q : K.lookup (d.at_ K) with
  | none =>
    rw [q] at c2
    cases c2
  | some o =>
    obtain ⟨oc, od, dt, osl⟩ := o
    rw [q] at c2 e
    cases dt with
    | func fd =>
      obtain ⟨n1, n2, n3, n4, n5, n6, n7, n8, n9, n10, n11, n12, n13, n14, n15⟩ := fd
      have e2 : (some (n1, n2, n3, n4, n5, n6, n7, n15) : He.FnW) = some (d.name, d.qual, d.params, .stmts d.body, d.scope, mainGlobals, [], builtinsNs) := e
      simp only [Option.some.injEq, Prod.mk.injEq] at e2
      obtain ⟨h1, h2, h3, h4, h5, h6, h7, h8⟩ := e2
      subst h1 h2 h3 h4 h5 h6 h7 h8
      have c3 : (PySem.W.codeIn K n13 d.qual && (He.dflB K n8 (d.dvs K) && He.kwdB K n9 (d.kws K))) = true := c2
      obtain ⟨k1, k2⟩ := He.ba c3
      obtain ⟨k3, k4⟩ := He.ba k2
      exact ⟨_, ⟨oc, od, n8, n9, n10, n11, n12, n13, n14, osl, rfl, q, k1, He.dflB_ok k3, He.kwdB_ok k4⟩, kp⟩
    | _ => cases c2
/-- a property's getter -/
def propA (c f : Str) (K : PySem.W.Frag) : Addr := match PySem.W.findIn K (.ref (He.ga K c)) f with
  | some (some (.ref p)) => (match PySem.W.recIn K p "property" with
    | some (.ref g :: _) => g
    | _ => 0)
  | _ => 0
def propB (c f : Str) (K : PySem.W.Frag) : Bool := match PySem.W.findIn K (.ref (He.ga K c)) f with
  | some (some (.ref p)) => decide (PySem.W.specialIn K (.ref p) "__get__" = some (some (.builtin "property.__get__"))) && (decide (PySem.W.takesIn K (.ref p) = some true) && (match PySem.W.recIn K p "property" with
    | some (.ref _ :: _) => true
    | _ => false))
  | _ => false
theorem propB_ok {c f : Str} {K : PySem.W.Frag} (h : propB c f K = true) : ∃ p, PropOf K (He.ga K c) f p (propA c f K) := by
  unfold propB at h
  cases hq : PySem.W.findIn K (.ref (He.ga K c)) f with
  | none => rw [hq] at h; cases h
  | some o =>
    rw [hq] at h
    cases o with
    | none => cases h
    | some v =>
      cases v with
      | ref p =>
        simp only at h
        obtain ⟨h1, h⟩ := He.ba h
        obtain ⟨h2, h3⟩ := He.ba h
        cases hr : PySem.W.recIn K p "property" with
        | none => rw [hr] at h3; cases h3
        | some l =>
          rw [hr] at h3
          cases l with
          | nil => cases h3
          | cons v rest =>
            cases v with
            | ref g =>
              have e : propA c f K = g := by unfold propA; rw [hq]; simp only; rw [hr]
              exact ⟨p, hq, of_decide_eq_true h1, of_decide_eq_true h2, rest, by rw [hr, e]⟩
            | _ => cases h3
      | _ => cases h
abbrev AlP : Type := Bool × (List He.FnW × List FnI)
def obsP (file : Str) (fx : PySem.W.Frag → Bool) (fa : List He.Fa) (fn : List DefA) (fi : List DefI) (K : PySem.W.Frag) : AlP := ((fa.all fun f => f.ok K) && ((fn.all fun d => d.ok K) && ((fi.all fun d => d.ok file K) && fx K)), (fn.map fun d => fnA K (d.at_ K)), (fi.map fun d => fnI K d.cls))
def valP (fn : List DefA) (fi : List DefI) : AlP := (true, fn.map DefA.val, fi.map DefI.val)
def SaysP (file : Str) (fx : PySem.W.Frag → Bool) (fa : List He.Fa) (fn : List DefA) (fi : List DefI) (K : PySem.W.Frag) : Prop := obsP file fx fa fn fi K = valP fn fi
def asP (g : Addr → Option Obj) (n : Nat) : List Addr := He.asD g n ++ [cStatics]
def obsPG (n : Nat) (file : Str) (fx : PySem.W.Frag → Bool) (fa : List He.Fa) (fn : List DefA) (fi : List DefI) (g : Addr → Option Obj) : AlP := obsP file fx fa fn fi (He.frG g (asP g n))
def hookP (n : Nat) (file : Str) (fx : PySem.W.Frag → Bool) (fa : List He.Fa) (fn : List DefA) (fi : List DefI) : PySem.W.Hook where
  α := AlP
  obs := fun s => obsPG n file fx fa fn fi s.heap.get?
  val := fun _ => valP fn fi
  says := fun _ h => ∃ K : PySem.W.Frag, K.In h ∧ SaysP file fx fa fn fi K
  of := fun _ _ e => ⟨_, He.frG_in, e⟩
  keeps := fun _ _ _ ⟨K, hK, c⟩ k => ⟨K, PySem.W.Frag.In.keeps hK k, c⟩
theorem obsPG_eq {n : Nat} {file : Str} {fx : PySem.W.Frag → Bool} {fa : List He.Fa} {fn : List DefA} {fi : List DefI} {g : Addr → Option Obj} {s : Shared} (h : ∀ a, g a = s.heap.get? a) : obsPG n file fx fa fn fi g = (hookP n file fx fa fn fi).obs s := by
  have e : g = s.heap.get? := funext h
  rw [e] <;> rfl
section
variable {file : Str} {fx : PySem.W.Frag → Bool} {fa : List He.Fa} {fn : List DefA} {fi : List DefI} {K : PySem.W.Frag}
theorem SaysP.all (c : SaysP file fx fa fn fi K) : (fa.all fun f => f.ok K) = true ∧ (fn.all fun d => d.ok K) = true ∧ (fi.all fun d => d.ok file K) = true ∧ fx K = true := by
  obtain ⟨h1, h⟩ := He.ba (show ((fa.all fun f => f.ok K) && ((fn.all fun d => d.ok K) && ((fi.all fun d => d.ok file K) && fx K))) = true from congrArg (fun z : AlP => z.1) c)
  obtain ⟨h2, h⟩ := He.ba h
  obtain ⟨h3, h4⟩ := He.ba h
  exact ⟨h1, h2, h3, h4⟩
theorem SaysP.fact (c : SaysP file fx fa fn fi K) (i : Nat) {f : He.Fa} (h : fa[i]? = some f := by rfl) : f.ok K = true := List.all_eq_true.mp c.all.1 f (List.mem_of_getElem? h)
theorem SaysP.def_ (c : SaysP file fx fa fn fi K) (i : Nat) {d : DefA} (h : fn[i]? = some d := by rfl) : ∃ fd, FunD K d.name d.qual d.params d.body d.scope (d.dvs K) (d.kws K) (d.at_ K) fd := by
  have e : fn.map (fun d => fnA K (d.at_ K)) = fn.map DefA.val := congrArg (fun z : AlP => z.2.1) c
  have e2 : (fn.map fun d => fnA K (d.at_ K))[i]? = (fn.map DefA.val)[i]? := by rw [e]
  rw [List.getElem?_map, List.getElem?_map, h] at e2
  exact DefA.funD (Option.some.inj e2) (List.all_eq_true.mp c.all.2.1 d (List.mem_of_getElem? h))
theorem SaysP.init {P : Program} (c : SaysP file fx fa fn fi K) (hf : (P.main.file : Str) = file) (ht : (P.main.scope.names.lookup ("super" : Str)).isSome = false) (i : Nat) {d : DefI} (h : fi[i]? = some d := by rfl) : ∃ fd cc cda, InitF P K d fd cc cda := by
  have e : fi.map (fun d => fnI K d.cls) = fi.map DefI.val := congrArg (fun z : AlP => z.2.2) c
  have e2 : (fi.map fun d => fnI K d.cls)[i]? = (fi.map DefI.val)[i]? := by rw [e]
  rw [List.getElem?_map, List.getElem?_map, h] at e2
  exact DefI.made hf ht (Option.some.inj e2) (List.all_eq_true.mp c.all.2.2.1 d (List.mem_of_getElem? h))
end
/-! ### records of callees -/
/-- the def x of the module keeps the promise F at the level k -/
structure Cl (P : Program) (w : World) (K : PySem.W.Frag) (mg : Str → Option Value) (base : Heap) (x : Str) (ps : List Str) (k : Nat) (F : M T) : Prop where
  ex : ∃ fd, FnOk P w K mg base (L2.CX P w) k (He.ga K x) fd ps (spOf K F) ∧ Binds K fd ps []
  gl : mg x = some (.ref (He.ga K x))
  kp : PySem.W.keepIn K (.ref (He.ga K x)) = true
/-- a method m of the class c -/
structure ClM (P : Program) (w : World) (K : PySem.W.Frag) (mg : Str → Option Value) (base : Heap) (c m : Str) (ps : List Str) (k : Nat) (F : M T) : Prop where
  ex : ∃ fd, FnOk P w K mg base (L2.CX P w) k (He.fAd K (c, some m)) fd ps (spOf K F) ∧ Binds K fd ps []
/-- an error class whose __init__ keeps its argument as f -/
structure ClE (P : Program) (w : World) (K : PySem.W.Frag) (mg : Str → Option Value) (base : Heap) (c f : Str) : Prop where
  ex : ∃ (fI : Addr) (fd : FuncData) (ps : List Str), OexC K (He.ga K c) ∧ PySem.W.findIn K (.ref (He.ga K c)) "__init__" = some (some (.ref fI)) ∧ PySem.W.typeIn K (.ref fI) = some (.type "function") ∧ FnOk P w K mg base (L2.CX P w) 1 fI fd ps (spEI (He.ga K c) f) ∧ Binds K fd ps []
  gl : mg c = some (.ref (He.ga K c))
section
variable {X : Cx} {rt : List V} {W : WX} {e o : Expr} {es : List Expr} {p p2 pos pos' apos : Pos} {x m c f : Str} {k j : Nat} {ps : List Str} {F : M T} {mr : M AV}
theorem d_callC {ms : M (List AV)} (C : Cl X.prog X.w X.K X.mg X.base x ps k F) (tk : L2.Takes X W) (hr : Room j X.A) (hj : k ≤ j) (hg : Gl X x) (ha : PQd X rt W (e :: es) ms) (hdb : (x == ("__debug__" : Str)) = false := by decide) (he : starEach (e :: es) X.env = (false, eval e X.env) :: starEach es X.env := by rfl) (hpl : (backTo pos (starEach es X.env)).any (·.1) = false := by rfl) :
    PEd X rt W (.Call (.Name x p) (e :: es) [] pos) (mCall F ms []) := by
  obtain ⟨fd, Fn, hb⟩ := C.ex
  exact d_call tk Fn (hr.mono hj) hg C.gl C.kp hb .nil .nil ha hdb he hpl
theorem st_raiseC {ms : M (List D)} (C : ClE X.prog X.w X.K X.mg X.base x f) (hc : X.calm = true) (tk : L2.Takes X W) (hr : Room j X.A) (hj : 2 ≤ j) (hg : Gl X x) (ha : PAs X rt W [e] ms)
    (hdb : (x == ("__debug__" : Str)) = false := by decide) (he : starEach [e] X.env = (false, eval e X.env) :: starEach [] X.env := by rfl) (hpl : (backTo pos (starEach [] X.env)).any (·.1) = false := by rfl) :
    PSd X rt W (.Raise (some (.Call (.Name x p) [e] [] pos)) none pos') (mRaise1 x f ms) := by
  obtain ⟨fI, fd, ps, T, iC, tI, F1, hb⟩ := C.ex
  exact st_raise1 hc tk T iC tI F1 (hr.mono hj) hb hg C.gl ha hdb he hpl
/-! ### len(x), x lent or owned -/
def T.len : T → Option Nat
  | .lst ts => some ts.length
  | .tup ts => some ts.length
  | .sh (.lst ds) => some ds.length
  | .sh (.tup ds) => some ds.length
  | .sh (.scr ds) => some ds.length
  | .sh (.str z) => if z.length ≤ sizeLine then some z.length else none
  | _ => none
def mLenV (i : Nat) : M D := fun ρ => match (ρ[i]?.bind Sl.t?).bind T.len with
  | some n => .ok (.int n) ρ
  | none => .bad
theorem len_T {K : PySem.W.Frag} {G H : Hp} {t : T} {v : V} {fp : List Addr} {n : Nat} {Q : VK} (s : Sub G H) (h : RT K G H t v fp) (e : t.len = some n) (q : Q (.int n) H) : rLenA K [v] H Q := by
  cases t with
  | lst ts =>
    cases e
    simp only [RT] at h
    obtain ⟨a, xs, f, rfl, h1, h2, _⟩ := h
    exact .inl ⟨a, xs, rfl, .inl (.of h1), by rw [← h2.length]; exact q⟩
  | tup ts =>
    cases e
    simp only [RT] at h
    obtain ⟨a, xs, f, rfl, h1, h2, _⟩ := h
    exact .inl ⟨a, xs, rfl, .inr (.of h1), by rw [← h2.length]; exact q⟩
  | sh d =>
    simp only [RT] at h
    obtain ⟨h, _⟩ := h
    cases d with
    | lst ds =>
      cases e
      simp only [Rp] at h
      obtain ⟨a, xs, rfl, h1, h2⟩ := h
      exact .inl ⟨a, xs, rfl, .inl (.of (s.lst h1)), by rw [← h2.length]; exact q⟩
    | tup ds =>
      cases e
      simp only [Rp] at h
      obtain ⟨a, xs, rfl, h1, h2⟩ := h
      exact .inl ⟨a, xs, rfl, .inr (s.tup h1), by rw [← h2.length]; exact q⟩
    | scr ds =>
      cases e
      simp only [Rp] at h
      obtain ⟨a, xs, rfl, h1, h2⟩ := h
      exact .inl ⟨a, xs, rfl, .inl (s.list h1), by rw [← h2.length]; exact q⟩
    | str z =>
      simp only [T.len] at e
      split at e
      · rename_i hz
        cases e
        simp only [Rp] at h
        subst h
        exact .inr ⟨z, rfl, hz, q⟩
      · cases e
    | _ => cases e
  | _ => cases e
theorem s_lenV (i : Nat) {y : Str} (hg : Gl X "len") (hmg : X.mg "len" = none) (hN : X.N[i]? = some y) (hv : Vis X.env.scope y)
    (he : starEach [Expr.Name y p2] X.env = (false, eval (.Name y p2) X.env) :: starEach [] X.env := by rfl) (hpl : (backTo pos (starEach [] X.env)).any (·.1) = false := by rfl) (hd : (y == ("__debug__" : Str)) = false := by decide) (hcd : (y == ("__classdict__" : Str)) = false := by decide) :
    PEs X rt W (.Call (.Name "len" p) [.Name y p2] [] pos) (mLenV i) := by
  refine ⟨_, pe_callB call_lenA hg hmg boot_len (pa_cons (pe_var hN hv hd hcd) pa_nil he) (by decide) (by decide) he hpl, fun H G cs Q r q => ?_⟩
  unfold mLenV at q
  cases hi : (slots cs)[i]?.bind Sl.t? with
  | none => rw [hi] at q; exact q.elim
  | some t =>
    rw [hi] at q
    simp only [Option.bind_some] at q
    rw [Option.bind_eq_some_iff] at hi
    obtain ⟨s, e1, e2⟩ := hi
    obtain ⟨cl, hcl, rfl⟩ := cell_at e1
    obtain ⟨y, ey, ht⟩ := (r.at hcl).tree e2
    have hx : (vals cs)[i]? = some (some y) := by rw [vals_at hcl, ey]
    cases hl : t.len with
    | none => rw [hl] at q; exact q.elim
    | some n =>
      rw [hl] at q
      exact ⟨y, hx, len_T (Q := Q) r.sub ht hl (q (.int n) cs H G rfl rfl Stp.refl r (by show Rp _ _ _ _; simp only [Rp]))⟩
/-! ### f(e, ..), e fresh and lent -/
def mDrop (n : Nat) : Out T → Out T
  | .ok t ρ' => if n < ρ'.length then .ok t (ρ'.take n) else .bad
  | .err x ρ' => if n < ρ'.length then .err x (ρ'.take n) else .bad
  | .bad => .bad
def mCallT (F : M T) (m : M T) (ms : M (List AV)) : M T := fun ρ => (m ρ).bind fun t ρ1 => (ms ρ1).bind fun as ρ2 => mDrop ρ2.length (callO F (.own ρ2.length :: as) (ρ2 ++ [.v t]))
theorem PostE.seqT {K : PySem.W.Frag} {H G : Hp} {cs : List Cell} {o : Out T} {f : T → M T} {Q Q1 : VK} (h : PostE K rt W H G cs (o.bind f) Q)
    (kk : ∀ t v ft cs' H' G', vals cs' = vals cs → Stp H G (fps cs) H' G' (ft ++ fps cs') → RR K rt G' H' (⟨.v t, some v, ft⟩ :: cs') → PostE K rt W H G cs (f t (slots cs')) Q → Q1 v H') : PostE K rt W H G cs o Q1 := by
  cases o with
  | ok t ρ' => exact fun v ft cs' H' G' h1 h2 h3 h4 => kk t v ft cs' H' G' h2 h3 h4 (by rw [h1]; exact h)
  | err x ρ' => exact h
  | bad => exact h
theorem callT_core {tq : TA} {te : TE} {m : M T} {ms : M (List AV)} {H G : Hp} {cs : List Cell} {Q : VK}
    (h2 : ∀ H G cs Q, RR X.K rt G H cs → PostE X.K rt W H G cs (m (slots cs)) Q → te (vals cs) H Q)
    (h4 : ∀ H G cs Q, RR X.K rt G H cs → PostK X.K rt W (kQ (vals cs)) H G cs (ms (slots cs)) Q → tq (vals cs) H Q)
    (r : RR X.K rt G H cs) (q : PostE X.K rt W H G cs (mCallT F m ms (slots cs)) Q) : tCallSD (spOf X.K F) [] (WE W) (tCons te tq) (vals cs) H Q := by
  refine h2 H G cs _ r (PostE.seqT q fun t v ft cs1 H1 G1 ev st r1 q1 => ?_)
  show tq (vals cs) H1 _
  rw [← ev]
  refine h4 H1 G1 cs1 _ r1.tail ?_
  cases hms : ms (slots cs1) with
  | bad => rw [hms] at q1; exact q1.elim
  | err ex ρ' =>
    rw [hms] at q1
    intro cls d cs2 H2 G2 e1 e2 st2 r2 hx
    have z := q1 cls d cs2 H2 G2 e1 (e2.trans ev) ((st.drop).trans st2) r2 hx
    rw [← ev] at z
    exact z
  | ok as ρ2 =>
    rw [hms] at q1
    intro ys cs2 H2 G2 e1 ev2 st2 r2 rp2
    have q2 : PostE X.K rt W H G cs (mDrop ρ2.length (callO F (.own ρ2.length :: as) (ρ2 ++ [.v t]))) Q := q1
    have hl : ρ2.length = cs2.length := by rw [← e1]; simp [slots]
    have rb : RR X.K rt G2 H2 ([⟨.v t, some v, ft⟩] ++ cs2) := RR.frame (A := [⟨.v t, some v, ft⟩]) (B := cs1) (B' := cs2) r1 st2 r2
    have rb' : RR X.K rt G2 H2 (cs2 ++ [⟨.v t, some v, ft⟩]) := rb.perm List.perm_append_comm
    have stB : Stp H G (fps cs) H2 G2 (fps (cs2 ++ [(⟨.v t, some v, ft⟩ : Cell)])) := (st.trans (st2.frame (A := ft))).mem (fun _ => Iff.rfl) fun a ha => by
      rw [fps_append] at ha
      rcases List.mem_append.mp ha with z | z
      · exact List.mem_append_right _ z
      · exact List.mem_append_left _ (by simpa [fps] using z)
    have evT : vals (cs2 ++ [(⟨.v t, some v, ft⟩ : Cell)]) = vals cs2 ++ [some v] := by simp [vals]
    have esT : slots (cs2 ++ [(⟨.v t, some v, ft⟩ : Cell)]) = ρ2 ++ [.v t] := by rw [← e1]; simp [slots]
    have rpT : (kQ (vals (cs2 ++ [(⟨.v t, some v, ft⟩ : Cell)]))).rel X.K G2 (.own cs2.length :: as) (v :: ys) := by
      rw [evT]
      refine .cons ?_ (kQ_snoc (by rw [ev2]; exact rp2))
      show (vals cs2 ++ [some v])[cs2.length]? = some (some v)
      rw [List.getElem?_append_right (by simp [vals])]
      simp [vals]
    have z := call_ok (F := F) (Q := Q) (W := fun cls d _ H' => W cls d (vals cs) H') rb' rpT ?_
    · show spOf X.K F ((v :: ys) ++ []) H2 Q (WE W (vals cs1))
      rw [List.append_nil, ev]
      exact z
    · rw [esT]
      rw [hl] at q2
      cases hcl : callO F (.own cs2.length :: as) (ρ2 ++ [.v t]) with
      | bad => rw [hcl] at q2; exact q2.elim
      | ok t' ρ' =>
        rw [hcl] at q2
        simp only [mDrop] at q2
        split at q2
        · intro v' fv cs3 H3 G3 k1 k2 st3 r3
          have l3 : cs3.length = cs2.length + 1 := by
            have z := congrArg List.length k2
            rw [evT] at z
            simpa [vals] using z
          have hsub : ∀ a, a ∈ fps (cs3.take cs2.length) → a ∈ fps cs3 := fun a ha => by
            obtain ⟨c, hc, h⟩ := mem_fps.mp ha
            exact mem_fps.mpr ⟨c, List.mem_of_mem_take hc, h⟩
          have r4 : RR X.K rt G3 H3 (⟨.v t', some v', fv⟩ :: cs3.take cs2.length) := by
            have z : RR X.K rt G3 H3 ((⟨.v t', some v', fv⟩ :: cs3.take cs2.length) ++ cs3.drop cs2.length) := by
              rw [List.cons_append, List.take_append_drop]
              exact r3
            exact z.left
          refine q2 v' fv (cs3.take cs2.length) H3 G3 (by unfold slots; rw [List.map_take]; exact congrArg _ k1) ?_ ((stB.trans st3).mem (fun _ => Iff.rfl) fun a ha => ?_) r4
          · have z := congrArg (List.take cs2.length) k2
            rw [evT, List.take_append_of_le_length (by simp [vals])] at z
            have z2 : vals (cs3.take cs2.length) = vals cs2 := by
              unfold vals at z ⊢
              rw [List.map_take, z]
              exact List.take_of_length_le (by simp)
            rw [z2, ev2, ev]
          · rcases List.mem_append.mp ha with z | z
            · exact List.mem_append_left _ z
            · exact List.mem_append_right _ (hsub a z)
        · exact q2.elim
      | err ex ρ' =>
        rw [hcl] at q2
        simp only [mDrop] at q2
        split at q2
        · intro cls d cs3 H3 G3 k1 k2 st3 r3 hx
          have l3 : cs3.length = cs2.length + 1 := by
            have z := congrArg List.length k2
            rw [evT] at z
            simpa [vals] using z
          have hsub : ∀ a, a ∈ fps (cs3.take cs2.length) → a ∈ fps cs3 := fun a ha => by
            obtain ⟨c, hc, h⟩ := mem_fps.mp ha
            exact mem_fps.mpr ⟨c, List.mem_of_mem_take hc, h⟩
          have r4 : RR X.K rt G3 H3 (cs3.take cs2.length) := by
            have z := r3
            rw [← List.take_append_drop cs2.length cs3] at z
            exact z.left
          refine q2 cls d (cs3.take cs2.length) H3 G3 (by unfold slots; rw [List.map_take]; exact congrArg _ k1) ?_ ((stB.trans st3).mem (fun _ => Iff.rfl) hsub) r4 hx
          have z := congrArg (List.take cs2.length) k2
          rw [evT, List.take_append_of_le_length (by simp [vals])] at z
          have z2 : vals (cs3.take cs2.length) = vals cs2 := by
            unfold vals at z ⊢
            rw [List.map_take, z]
            exact List.take_of_length_le (by simp)
          rw [z2, ev2, ev]
        · exact q2.elim
theorem d_callT {m : M T} {ms : M (List AV)} (C : Cl X.prog X.w X.K X.mg X.base x ps k F) (tk : L2.Takes X W) (hr : Room j X.A) (hj : k ≤ j) (hg : Gl X x) (h : PEd X rt W e m) (ha : PQd X rt W es ms) (hdb : (x == ("__debug__" : Str)) = false := by decide) (he : starEach (e :: es) X.env = (false, eval e X.env) :: starEach es X.env := by rfl) (hpl : (backTo pos (starEach es X.env)).any (·.1) = false := by rfl) :
    PEd X rt W (.Call (.Name x p) (e :: es) [] pos) (mCallT F m ms) := by
  obtain ⟨fd, Fn, hb⟩ := C.ex
  obtain ⟨te, h1, h2⟩ := h.ex
  obtain ⟨tq, h3, h4⟩ := ha.ex
  exact ⟨_, pe_callSD (E := fun σ => WE W σ) Fn (hr.mono hj) hg C.gl C.kp hb .nil (fun σ => L2.passAt tk σ) (pa_cons h1 h3 he) hdb he hpl, fun H G cs Q r q => callT_core h2 h4 r q⟩
end
end PD

set_option Elab.async false
set_option linter.all false
set_option maxRecDepth 100000
set_option maxHeartbeats 2000000
/-! PD: records of methods; chains of three; list(range); pop(i), insert. -/
namespace PD
open PySem PySem.Spec PyProof.Rows L2
/-! ### records -/
/-- the method m of the class c -/
structure ClF (P : Program) (w : World) (K : PySem.W.Frag) (mg : Str → Option Value) (base : Heap) (c m : Str) (ps : List Str) (k : Nat) (F : M T) : Prop where
  ex : ∃ fd, FnOk P w K mg base (L2.CX P w) k (He.ma K (He.ga K c) m) fd ps (spOf K F) ∧ Binds K fd ps []
  me : Meth K (He.ga K c) m (He.ma K (He.ga K c) m)
/-- a property of it -/
structure ClP (P : Program) (w : World) (K : PySem.W.Frag) (mg : Str → Option Value) (base : Heap) (c f : Str) (ps : List Str) (k : Nat) (F : M T) : Prop where
  ex : ∃ fd, FnOk P w K mg base (L2.CX P w) k (propA c f K) fd ps (spOf K F) ∧ Binds K fd ps []
  pr : ∃ p, PropOf K (He.ga K c) f p (propA c f K)
/-- its __init__ -/
structure ClI (P : Program) (w : World) (K : PySem.W.Frag) (mg : Str → Option Value) (base : Heap) (c : Str) (ps : List Str) (k : Nat) (F : M T) : Prop where
  ex : ∃ fd, FnOk P w K mg base (L2.CX P w) k (He.ma K (He.ga K c) "__init__") fd ps (spOf K F) ∧ Binds K fd ps []
  mkr : Mk K (He.ga K c) (He.ma K (He.ga K c) "__init__")
  gl : mg c = some (.ref (He.ga K c))
/-- a def called while an exception is handled -/
structure ClX (P : Program) (w : World) (K : PySem.W.Frag) (mg : Str → Option Value) (base : Heap) (x : Str) (ps : List Str) (k : Nat) (F : Addr → Option Addr → Str → M T) : Prop where
  ex : ∃ fd, FnHP P w K mg base k (He.ga K x) fd ps F ∧ Binds K fd ps []
  gl : mg x = some (.ref (He.ga K x))
  kp : PySem.W.keepIn K (.ref (He.ga K x)) = true
/-- an error class that is raised with a text -/
structure ClT (K : PySem.W.Frag) (mg : Str → Option Value) (c : Str) : Prop where
  ok : PySem.W.excIn K (He.ga K c) He.veBase "ValueError.__new__" = true ∧ PySem.W.keepIn K (.ref (He.ga K c)) = true ∧ PySem.W.subIn K (.ref (He.ga K c)) (.type "BaseException") = some true ∧ PySem.W.typeIn K (.ref (He.ga K c)) = some (.type "type")
  gl : mg c = some (.ref (He.ga K c))
section
variable {X : Cx} {rt : List V} {W : WX} {e o o2 a b c d value : Expr} {es : List Expr} {p p2 pos pos' apos : Pos} {x m f cl : Str} {k j : Nat} {ps : List Str} {F : M T} {mr mr2 : M AV}
theorem d_methC {pl : Sem Bool} {ms : M (List AV)} (C : ClF X.prog X.w X.K X.mg X.base cl m ps k F) (hc : Cls X.K (He.ga X.K cl)) (tk : L2.Takes X W) (hr : Room j X.A) (hj : k ≤ j) (ho : PRd X rt W o mr) (ha : PQd X rt W (e :: es) ms)
    (hst : starEach (e :: es) X.env = (false, eval e X.env) :: starEach es X.env := by rfl) (hpl : (backTo pos (starEach es X.env)).any (·.1) = false := by rfl)
    (ht : eval (.Call (.Attribute o m apos) (e :: es) [] pos) X.env = (do
      let ov ← eval o X.env
      standAt apos.atName
      let (f, first) ← holding [ov] (getMethod ov m pl)
      callWith pos f first (backTo pos (starEach (e :: es) X.env)) (backToKw pos (keywordEach [] X.env))) := by rfl) :
    PEd X rt W (.Call (.Attribute o m apos) (e :: es) [] pos) (mMeth cl m F mr ms []) := by
  obtain ⟨fd, Fn, hb⟩ := C.ex
  exact d_meth tk hc C.me Fn (hr.mono hj) hb .nil .nil ho ha hst hpl ht
theorem d_meth0C {pl : Sem Bool} (C : ClF X.prog X.w X.K X.mg X.base cl m ps k F) (hc : Cls X.K (He.ga X.K cl)) (tk : L2.Takes X W) (hr : Room j X.A) (hj : k ≤ j) (ho : PRd X rt W o mr)
    (ht : eval (.Call (.Attribute o m apos) [] [] pos) X.env = (do
      let ov ← eval o X.env
      standAt apos.atName
      let (f, first) ← holding [ov] (getMethod ov m pl)
      callWith pos f first (backTo pos (starEach [] X.env)) (backToKw pos (keywordEach [] X.env))) := by rfl) :
    PEd X rt W (.Call (.Attribute o m apos) [] [] pos) (mMeth cl m F mr qNil []) := by
  obtain ⟨fd, Fn, hb⟩ := C.ex
  exact d_meth0 tk hc C.me Fn (hr.mono hj) hb .nil .nil ho ht
theorem d_propC (C : ClP X.prog X.w X.K X.mg X.base cl f ps k F) (hc : Cls X.K (He.ga X.K cl)) (hr : Room j X.A) (hj : k + 1 ≤ j) (ho : PRd X rt W o mr)
    (hab : attributeBase o f X.env (eval o X.env) = eval o X.env := by rfl) : PEd X rt W (.Attribute o f pos) (mSpec cl F mr) := by
  obtain ⟨fd, Fn, hb⟩ := C.ex
  obtain ⟨pa, hp⟩ := C.pr
  exact d_prop hc hp Fn (hr.mono hj) hb ho hab
theorem d_lenOC (C : ClF X.prog X.w X.K X.mg X.base cl "__len__" ps k F) (hr : Room j X.A) (hj : k + 1 ≤ j) (hg : Gl X "len") (hmg : X.mg "len" = none) (ho : PRd X rt W o mr)
    (he : starEach [o] X.env = (false, eval o X.env) :: starEach [] X.env := by rfl) (hpl : (backTo pos (starEach [] X.env)).any (·.1) = false := by rfl) : PEd X rt W (.Call (.Name "len" p) [o] [] pos) (mLenO cl F mr) := by
  obtain ⟨fd, Fn, hb⟩ := C.ex
  exact d_lenO C.me Fn (hr.mono hj) hb hg hmg ho he hpl
theorem d_eqOC (C : ClF X.prog X.w X.K X.mg X.base cl "__eq__" ps k F) (hr : Room j X.A) (hj : k ≤ j) (ho : PRd X rt W o mr) (ho2 : PRd X rt W o2 mr2) (hmk : behindInMarks .Eq o2 = false) : PEd X rt W (.Compare o [.Eq] [o2] pos) (mEqO cl F mr mr2) := by
  obtain ⟨fd, Fn, hb⟩ := C.ex
  exact d_eqO C.me Fn (hr.mono hj) hb ho ho2 hmk
theorem d_makeC {ms : M (List AV)} (C : ClI X.prog X.w X.K X.mg X.base x ps k F) (tk : L2.Takes X W) (hr : Room j X.A) (hj : k + 1 ≤ j) (hg : Gl X x) (ha : PQd X rt W (e :: es) ms)
    (hdb : (x == ("__debug__" : Str)) = false := by decide) (he : starEach (e :: es) X.env = (false, eval e X.env) :: starEach es X.env := by rfl) (hpl : (backTo pos (starEach es X.env)).any (·.1) = false := by rfl) :
    PEd X rt W (.Call (.Name x p) (e :: es) [] pos) (mMake x F ms []) := by
  obtain ⟨fd, Fn, hb⟩ := C.ex
  exact d_make tk C.mkr Fn (hr.mono hj) hg C.gl hb .nil .nil ha hdb he hpl
theorem d_callXC {ad : Addr} {dd : Option Addr} {cx : Str} {FX : Addr → Option Addr → Str → M T} {ms : M (List AV)} (C : ClX X.prog X.w X.K X.mg X.base x ps k FX) (hE : HotE X ad dd cx) (tk : L2.Takes X W) (hr : L2H.RoomH j X.A) (hj : k ≤ j) (hg : Gl X x) (ha : PQd X rt W (e :: es) ms)
    (hdb : (x == ("__debug__" : Str)) = false := by decide) (he : starEach (e :: es) X.env = (false, eval e X.env) :: starEach es X.env := by rfl) (hpl : (backTo pos (starEach es X.env)).any (·.1) = false := by rfl) :
    PEd X rt W (.Call (.Name x p) (e :: es) [] pos) (mCall (FX ad dd cx) ms []) := by
  obtain ⟨fd, Fn, hb⟩ := C.ex
  exact d_callX Fn hE tk (hr.mono hj) hg C.gl C.kp hb .nil .nil ha hdb he hpl
theorem st_raiseTC {t : Str} {i : Nat} (C : ClT X.K X.mg x) (hc : X.calm = true) (tk : L2.Takes X W) (hg : Gl X x) (hdb : (x == ("__debug__" : Str)) = false := by decide) :
    PSd X rt W (.Raise (some (.Call (.Name x p) [.Constant (.str t) i p2] [] pos)) none pos') (mRaise0 x) :=
  st_raiseT hc tk C.ok.1 C.ok.2.1 C.ok.2.2.1 C.ok.2.2.2 hg C.gl hdb
/-! ### a op b op c op d, as a test -/
def mChain3 (f f' f'' : D → D → Option Bool) (ma mb mc md : M D) : M Bool := fun ρ => (ma ρ).bind fun d1 ρ1 => (mb ρ1).bind fun d2 ρ2 => match f d1 d2 with
  | some true => (mc ρ2).bind fun d3 ρ3 => (match f' d2 d3 with
    | some true => (md ρ3).bind fun d4 => M.ofO (f'' d3 d4)
    | some false => .ok false ρ3
    | none => .bad)
  | some false => .ok false ρ2
  | none => .bad
def tChain3T (r r' r'' : R2) (ta tb tc td : TE) : TT := fun σ H Q => ta σ H fun x H1 => tb σ H1 fun y H2 => r x y H2 fun z H3 => ∃ k, z = .bl k ∧
  (if k = true then tc σ H3 fun z' H4 => r' y z' H4 fun u H5 => ∃ k', u = .bl k' ∧ (if k' = true then td σ H5 fun w' H6 => r'' z' w' H6 fun v H7 => ∃ k'', v = .bl k'' ∧ Q k'' H7 else Q false H5) else Q false H3)
theorem pt_chain3 {op op' op'' : CmpOp} {r r' r'' : R2} {ta tb tc td : TE} (ho : OpR X (compareOp op) r) (ho' : OpR X (compareOp op') r') (ho'' : OpR X (compareOp op'') r'') (ha : PE X a ta) (hb : PE X b tb) (hc : PE X c tc) (hd : PE X d td)
    (hm : lastMarks [op, op', op''] [b, c, d] = false := by with_unfolding_all rfl) : PT X (.Compare a [op, op', op''] [b, c, d] pos) (tChain3T r r' r'' ta tb tc td) := by
  refine ⟨fun pins s σ H Q I h => ?_⟩
  refine isTrue_chain (thn (ha.run pins s σ H _ I h) fun v s1 ⟨x, H1, I1, r1, q1⟩ => test_link (thn (hb.run pins s1 σ H1 _ I1 q1) fun u s2 ⟨y, H2, I2, r2, q2⟩ =>
    thn (ho pins s2 σ H2 x y v u _ I2 r1 r2 q2) fun d s3 ⟨z, H3, I3, r3, k, e, q3⟩ => ?_)) hm
  subst e
  cases r3
  refine wpAny_truthy_bool ?_
  cases k with
  | false => exact ite_ff ⟨H3, I3, q3⟩
  | true =>
    refine ite_tt (test_link (thn (hc.run pins s3 σ H3 _ I3 q3) fun w' s4 ⟨z', H4, I4, r4, q4⟩ => thn (ho' pins s4 σ H4 y z' u w' _ I4 r2 r4 q4) fun d' s5 ⟨z2, H5, I5, r5, k2, e2, q5⟩ => ?_))
    subst e2
    cases r5
    refine wpAny_truthy_bool ?_
    cases k2 with
    | false => exact ite_ff ⟨H5, I5, q5⟩
    | true =>
      refine ite_tt (test_last (thn (hd.run pins s5 σ H5 _ I5 q5) fun w6 s6 ⟨z6, H6, I6, r6, q6⟩ => thn (ho'' pins s6 σ H6 z' z6 w' w6 _ I6 r4 r6 q6) fun d7 s7 ⟨z7, H7, I7, r7, k7, e7, q7⟩ => ?_))
      subst e7
      cases r7
      exact wpAny_truthy_bool ⟨H7, I7, q7⟩
theorem t_chain3 {op op' op'' : CmpOp} {r r' r'' : R2} {f f' f'' : D → D → Option Bool} {ma mb mc md : M D} (ho : OpR X (compareOp op) r) (ho' : OpR X (compareOp op') r') (ho'' : OpR X (compareOp op'') r'') (hf : CmT X.K r f) (hf' : CmT X.K r' f') (hf'' : CmT X.K r'' f'') (ha : PEs X rt W a ma) (hb : PEs X rt W b mb) (hc : PEs X rt W c mc) (hd : PEs X rt W d md)
    (hm : lastMarks [op, op', op''] [b, c, d] = false := by with_unfolding_all rfl) : PTd X rt W (.Compare a [op, op', op''] [b, c, d] pos) (mChain3 f f' f'' ma mb mc md) := by
  obtain ⟨ta, a1, a2⟩ := ha.ex
  obtain ⟨tb, b1, b2⟩ := hb.ex
  obtain ⟨tc, c1, c2⟩ := hc.ex
  obtain ⟨td, e1, e2⟩ := hd.ex
  refine ⟨_, pt_chain3 ho ho' ho'' a1 b1 c1 e1 hm, fun H G cs Q rr q => ?_⟩
  refine a2 H G cs _ rr (PostK.seqK q fun d1 x cs1 H1 G1 ev st r1 rp1 p1 => ?_)
  show tb (vals cs) H1 _
  rw [← ev]
  refine b2 H1 G1 cs1 _ r1 (PostK.seqK p1 fun d2 y cs2 H2 G2 ev2 st2 r2 rp2 p2 => ?_)
  cases hft : f d1 d2 with
  | none => simp only [hft] at p2; exact p2.elim
  | some k =>
    simp only [hft] at p2
    refine hf x y d1 d2 k G2 H2 _ r2.sub (Rp.mono st2.ext d1 x rp1) rp2 hft ⟨k, rfl, ?_⟩
    cases k with
    | false => exact p2 false cs2 H2 G2 rfl rfl Stp.refl r2 rfl
    | true =>
      show tc (vals cs1) H2 _
      rw [← ev2]
      refine c2 H2 G2 cs2 _ r2 (PostK.seqK p2 fun d3 z cs3 H3 G3 ev3 st3 r3 rp3 p3 => ?_)
      cases hft' : f' d2 d3 with
      | none => simp only [hft'] at p3; exact p3.elim
      | some k' =>
        simp only [hft'] at p3
        refine hf' y z d2 d3 k' G3 H3 _ r3.sub (Rp.mono st3.ext d2 y rp2) rp3 hft' ⟨k', rfl, ?_⟩
        cases k' with
        | false => exact p3 false cs3 H3 G3 rfl rfl Stp.refl r3 rfl
        | true =>
          show td (vals cs2) H3 _
          rw [← ev3]
          refine e2 H3 G3 cs3 _ r3 (PostK.seqK p3 fun d4 z4 cs4 H4 G4 ev4 st4 r4 rp4 p4 => ?_)
          unfold M.ofO at p4
          cases hft2 : f'' d3 d4 with
          | none => rw [hft2] at p4; exact p4.elim
          | some k2 =>
            rw [hft2] at p4
            exact hf'' z z4 d3 d4 k2 G4 H4 _ r4.sub (Rp.mono st4.ext d3 z rp3) rp4 hft2 ⟨k2, rfl, p4 k2 cs4 H4 G4 rfl rfl Stp.refl r4 rfl⟩
/-! ### list(range(..)) -/
def rgOkB (a b : Int) : Bool := decide (-(2 ^ 62) ≤ a ∧ a < 2 ^ 62 ∧ -(2 ^ 62) ≤ b ∧ b < 2 ^ 62 ∧ (b - a).toNat ≤ 2 ^ 24)
def mLRng1 (m : M D) : M T := fun ρ => (m ρ).bind fun d => match d with
  | .int n => if rgOkB 0 n = true then M.pure (.lst ((rngD 0 (n - 0).toNat).map .sh)) else fun _ => .bad
  | _ => fun _ => .bad
def mLRng2 (ma mb : M D) : M T := fun ρ => (ma ρ).bind fun d1 ρ1 => (mb ρ1).bind fun d2 => match d1, d2 with
  | .int i, .int n => if rgOkB i n = true then M.pure (.lst ((rngD i (n - i).toNat).map .sh)) else fun _ => .bad
  | _, _ => fun _ => .bad
theorem rp_rng {K : PySem.W.Frag} {G : Hp} (a b : Int) : RpL K G (rngD a (b - a).toNat) (rgV a b) := by
  unfold rngD rgV
  rw [RpL.iff]
  generalize (List.range (b - a).toNat) = l
  induction l with
  | nil => exact .nil
  | cons x l ih => exact .cons (by simp only [Rp]) ih
theorem d_lrng1 {m : M D} (hc : X.calm = true) (hg : Gl X "list") (hm : X.mg "list" = none) (hgr : Gl X "range") (hmr : X.mg "range" = none) (h : PEs X rt W a m)
    (na : starEach [a] X.env = (false, eval a X.env) :: starEach [] X.env := by rfl) (nb : starEach [Expr.Call (.Name "range" p2) [a] [] pos'] X.env = (false, eval (.Call (.Name "range" p2) [a] [] pos') X.env) :: starEach [] X.env := by rfl) :
    PEd X rt W (.Call (.Name "list" p) [.Call (.Name "range" p2) [a] [] pos'] [] pos) (mLRng1 m) := by
  obtain ⟨te, h1, h2⟩ := h.ex
  refine ⟨_, pe_listRg hc hg hm (prg_1 hgr hmr h1 na) nb, fun H G cs Q r q => h2 H G cs _ r (PostK.seqE q fun d v cs1 H1 G1 ev st r1 rp q1 => ?_)⟩
  cases d with
  | int n =>
    simp only at q1
    split at q1
    · rename_i hz
      simp only [kV, Rp] at rp
      exact ⟨n, rp, (show RgOk 0 n from of_decide_eq_true (p := -(2 ^ 62) ≤ (0 : Int) ∧ (0 : Int) < 2 ^ 62 ∧ -(2 ^ 62) ≤ n ∧ n < 2 ^ 62 ∧ (n - 0).toNat ≤ 2 ^ 24) hz), fun p hp => (PostE.fresh r1 q1).lst r1.sub (rp_rng 0 n) hp⟩
    · exact q1.elim
  | _ => exact q1.elim
theorem d_lrng2 {ma mb : M D} (hc : X.calm = true) (hg : Gl X "list") (hm : X.mg "list" = none) (hgr : Gl X "range") (hmr : X.mg "range" = none) (h : PEs X rt W a ma) (hb : PEs X rt W b mb)
    (na : starEach [a, b] X.env = (false, eval a X.env) :: starEach [b] X.env := by rfl) (nb : starEach [b] X.env = (false, eval b X.env) :: starEach [] X.env := by rfl) (hp : (backTo pos' (starEach [b] X.env)).any (·.1) = false := by rfl)
    (nc : starEach [Expr.Call (.Name "range" p2) [a, b] [] pos'] X.env = (false, eval (.Call (.Name "range" p2) [a, b] [] pos') X.env) :: starEach [] X.env := by rfl) :
    PEd X rt W (.Call (.Name "list" p) [.Call (.Name "range" p2) [a, b] [] pos'] [] pos) (mLRng2 ma mb) := by
  obtain ⟨te, h1, h2⟩ := h.ex
  obtain ⟨tb, h3, h4⟩ := hb.ex
  refine ⟨_, pe_listRg hc hg hm (prg_2 hgr hmr h1 h3 na nb hp) nc, fun H G cs Q r q => h2 H G cs _ r (PostK.seqE q fun d v cs1 H1 G1 ev st r1 rp q1 => ?_)⟩
  show tb (vals cs) H1 _
  rw [← ev]
  refine h4 H1 G1 cs1 _ r1 (PostK.seqE q1 fun d2 v2 cs2 H2 G2 ev2 st2 r2 rp2 q2 => ?_)
  cases d with
  | int i =>
    cases d2 with
    | int n =>
      simp only at q2
      split at q2
      · rename_i hz
        simp only [kV, Rp] at rp rp2
        exact ⟨i, n, rp, rp2, (show RgOk i n from of_decide_eq_true (p := -(2 ^ 62) ≤ i ∧ i < 2 ^ 62 ∧ -(2 ^ 62) ≤ n ∧ n < 2 ^ 62 ∧ (n - i).toNat ≤ 2 ^ 24) hz), fun p hp => (PostE.fresh r2 q2).lst r2.sub (rp_rng i n) hp⟩
      · exact q2.elim
    | _ => exact q2.elim
  | _ => exact q2.elim
end
end PD

set_option Elab.async false
set_option linter.all false
set_option maxRecDepth 100000
set_option maxHeartbeats 2000000
/-! PD: pop(i), insert(i, y) of an owned list whose moved item is plain. -/
namespace PD
open PySem PySem.Spec PyProof.Rows L2
section
variable {K : PySem.W.Frag} {rt : List V} {G H G' H' : Hp}
theorem lst_change {cs : List Cell} {i : Nat} {c : Cell} {ts1 ts' : List T} {a0 : Addr} {xs' : List V} {f1 : List Addr} (r : RR K rt G H cs) (hc : cs[i]? = some c) (hts : c.s.t? = some (.lst ts1))
    (ec : c.o = some (.ref a0)) (ef : c.fp = a0 :: f1) (hl2 : RTL K G H ts' xs' f1) :
    ∃ cs', slots cs' = (slots cs).set i (c.s.re (.lst ts')) ∧ vals cs' = vals cs ∧ Stp H G (fps cs) (upd H a0 (.lst xs')) G (fps cs') ∧ RR K rt G (upd H a0 (.lst xs')) cs' := by
  obtain ⟨cs_, co, cf⟩ := c
  have eco : co = some (.ref a0) := ec
  subst eco
  have ef' : cf = a0 :: f1 := ef
  subst ef'
  have rp := r.perm ((perm_at hc).trans (List.Perm.of_eq (show _ = [⟨cs_, some (.ref a0), a0 :: f1⟩] ++ (cs.take i ++ cs.drop (i + 1)) from rfl)))
  have nd := rp.nd
  rw [fps_append, fps_cons, fps_nil, List.append_nil] at nd
  obtain ⟨nd1, _, _⟩ := List.nodup_append.mp nd
  have hna : a0 ∉ f1 := (List.nodup_cons.mp nd1).1
  have hnew : RT K G (upd H a0 (.lst xs')) (.lst ts') (.ref a0) (a0 :: f1) := by
    simp only [RT]
    exact ⟨a0, xs', f1, rfl, upd_same, RTL.frame (Ext.refl _) _ _ f1 (fun b hb u hu => by rw [upd_ne (fun z => hna (by rw [← z]; exact hb))]; exact hu) hl2, rfl⟩
  have hcell : CellR K rt G H ⟨cs_, some (.ref a0), a0 :: f1⟩ := rp.cell _ (by simp)
  have rnew := RR.change (B := [⟨cs_, some (.ref a0), a0 :: f1⟩]) (R := cs.take i ++ cs.drop (i + 1)) (c' := ⟨cs_.re (.lst ts'), some (.ref a0), a0 :: f1⟩) (a := a0) (o := .lst xs') rp
    (by rw [fps_cons]; simp) (fun x hx => by rw [fps_cons, fps_nil, List.append_nil]; exact hx) nd1 (hcell.re hts hnew)
  have rset := rnew.perm (perm_set hc _).symm
  refine ⟨_, slots_set, vals_set_same (c' := ⟨cs_.re (.lst ts'), some (.ref a0), a0 :: f1⟩) hc rfl, ?_, rset⟩
  have m1 : ∀ x, x ∈ fps (cs.set i ⟨cs_.re (.lst ts'), some (.ref a0), a0 :: f1⟩) → x ∈ fps cs := fun x hx => by
    have e1 : (fps (cs.set i ⟨cs_.re (.lst ts'), some (.ref a0), a0 :: f1⟩)).Perm ((a0 :: f1) ++ fps (cs.take i ++ cs.drop (i + 1))) := (perm_set hc _).flatMap_right _
    have e2 : (fps cs).Perm ((a0 :: f1) ++ fps (cs.take i ++ cs.drop (i + 1))) := (perm_at hc).flatMap_right _
    exact e2.mem_iff.mpr (e1.mem_iff.mp hx)
  exact Stp.mut (mem_fps.mpr ⟨_, List.mem_of_getElem? hc, List.mem_cons_self⟩) m1
theorem RTL.erase : ∀ {ts : List T} {xs : List V} {f : List Addr} (j : Nat) {d : D}, RTL K G H ts xs f → ts[j]? = some (.sh d) → ∃ y, xs[j]? = some y ∧ Rp K G d y ∧ RTL K G H (ts.eraseIdx j) (xs.eraseIdx j) f
  | [], _, _, j, _, _, h => by simp at h
  | u :: ts, xs, f, 0, d, h, e => by
    simp only [RTL] at h
    obtain ⟨y, r, f1, f2, rfl, h1, h2, rfl⟩ := h
    have e' : u = .sh d := by simpa using e
    subst e'
    simp only [RT] at h1
    obtain ⟨h1, rfl⟩ := h1
    exact ⟨y, rfl, h1, by simpa using h2⟩
  | u :: ts, xs, f, j + 1, d, h, e => by
    simp only [RTL] at h
    obtain ⟨y, r, f1, f2, rfl, h1, h2, rfl⟩ := h
    obtain ⟨z, e2, h3, h4⟩ := RTL.erase j h2 (by simpa using e)
    exact ⟨z, by simpa using e2, h3, by simp only [List.eraseIdx_cons_succ, RTL]; exact ⟨y, _, f1, f2, rfl, h1, h4, rfl⟩⟩
theorem RTL.ins : ∀ {ts : List T} {xs : List V} {f : List Addr} (j : Nat) {d : D} {y : V}, RTL K G H ts xs f → Rp K G d y → RTL K G H (ts.take j ++ [.sh d] ++ ts.drop j) (xs.take j ++ [y] ++ xs.drop j) f
  | [], xs, f, j, d, y, h, hy => by
    simp only [RTL] at h
    obtain ⟨rfl, rfl⟩ := h
    simpa using RTL.one (by simp only [RT]; exact ⟨hy, trivial⟩)
  | u :: ts, xs, f, 0, d, y, h, hy => by
    simp only [List.take_zero, List.nil_append, List.drop_zero, List.cons_append]
    simp only [RTL]
    refine ⟨y, xs, [], f, rfl, by simp only [RT]; exact ⟨hy, trivial⟩, ?_, rfl⟩
    simpa only [RTL] using h
  | u :: ts, xs, f, j + 1, d, y, h, hy => by
    simp only [RTL] at h
    obtain ⟨z, r, f1, f2, rfl, h1, h2, rfl⟩ := h
    have k := RTL.ins j h2 hy
    simp only [List.take_succ_cons, List.drop_succ_cons, List.cons_append, RTL]
    exact ⟨z, _, f1, f2, rfl, h1, k, rfl⟩
end
section
variable {X : Cx} {rt : List V} {W : WX} {e e2 : Expr} {pos p p2 apos : Pos}
def mPopAt (i : Nat) (m : M D) : M D := fun ρ => match ρ[i]?.bind Sl.t? with
  | some (.lst _) => (m ρ).bind fun k ρ1 => (match k with
    | .int k => (match ρ1[i]? with
      | some s => (match s.t? with
        | some (.lst ts) => (match ixN ts.length k with
          | some j => (match ts[j]? with
            | some (.sh d) => if k < 2 ^ 63 ∧ -(2 ^ 63) ≤ k then .ok d (ρ1.set i (s.re (.lst (ts.eraseIdx j)))) else .bad
            | _ => .bad)
          | none => .bad)
        | _ => .bad)
      | none => .bad)
    | _ => .bad)
  | _ => .bad
theorem s_popAt (i : Nat) {x : Str} {m : M D} (hN : X.N[i]? = some x) (hv : Vis X.env.scope x) (h : PEs X rt W e m)
    (hd : (x == ("__debug__" : Str)) = false := by decide) (hcd : (x == ("__classdict__" : Str)) = false := by decide)
    (hbm : ∀ {te : TE}, PE X e te → ∃ ts, PE X (.Call (.Attribute (.Name x p) "pop" apos) [e] [] p2) ts ∧ ts = tBM X.K "list" rPopAt (tVar i) (tCons te tNil)) :
    PEs X rt W (.Call (.Attribute (.Name x p) "pop" apos) [e] [] p2) (mPopAt i m) := by
  obtain ⟨te, h1, h2⟩ := h.ex
  obtain ⟨ts, h3, rfl⟩ := hbm h1
  refine ⟨_, h3, fun H G cs Q r q => ?_⟩
  unfold mPopAt at q
  split at q
  · rename_i ts0 h0
    rw [Option.bind_eq_some_iff] at h0
    obtain ⟨sl0, e0, e0'⟩ := h0
    obtain ⟨c0, hc0, rfl⟩ := cell_at e0
    obtain ⟨x0, ex0, ht0⟩ := (r.at hc0).tree e0'
    simp only [RT] at ht0
    obtain ⟨a0, xs0, f0, rfl, ha0, _, _⟩ := ht0
    refine ⟨.ref a0, by rw [vals_at hc0, ex0], .inl ⟨rfl, xs0, .of ha0⟩, ?_⟩
    show te (vals cs) H _
    refine h2 H G cs _ r (PostK.seqK q fun kd y cs1 H1 G1 ev st r1 rp1 q1 => ?_)
    cases kd with
    | int k =>
      have rp1' : Rp X.K G1 (.int k) y := rp1
      simp only [Rp] at rp1'
      subst rp1'
      cases hsl : (slots cs1)[i]? with
      | none => simp only [hsl] at q1; exact q1.elim
      | some sl =>
        simp only [hsl] at q1
        obtain ⟨c, hc, rfl⟩ := cell_at hsl
        split at q1
        · rename_i ts1 hts
          obtain ⟨x1, ex1, ht1⟩ := (r1.at hc).tree hts
          have e5 : x1 = .ref a0 := by
            have v1 : (vals cs1)[i]? = some (some (.ref a0)) := by rw [ev, vals_at hc0, ex0]
            rw [vals_at hc, ex1] at v1
            exact Option.some.inj (Option.some.inj v1)
          subst e5
          simp only [RT] at ht1
          obtain ⟨a1, xs1, f1, e6, ha1, hl1, ef⟩ := ht1
          cases e6
          split at q1
          · rename_i j hj
            split at q1
            · rename_i d hd
              split at q1
              · rename_i hb
                obtain ⟨y, hy, rd, hl2⟩ := RTL.erase j hl1 hd
                refine ⟨a0, xs1, k, j, y, rfl, rfl, ha1, hb.2, hb.1, by rw [← hl1.length]; exact (ixN_seq hj).1, hy, ?_⟩
                obtain ⟨cs', g1, g2, g3, g4⟩ := lst_change r1 hc hts ex1 ef hl2
                exact q1 y cs' _ G1 g1 g2 g3 g4 rd
              · exact q1.elim
            · exact q1.elim
          · exact q1.elim
        · exact q1.elim
    | _ => exact q1.elim
  · exact q.elim
def rIns : V → List V → Hp → VK → Prop := fun x vs H Q => ∃ (l : Addr) (xs : List V) (i : Int) (y : V), x = .ref l ∧ vs = [.int i, y] ∧ H l = some (.lst xs) ∧ xs.length < sizeLine ∧ 0 ≤ i ∧ i < 2 ^ 63 ∧
    Q .non (upd H l (.lst (xs.take i.toNat ++ [y] ++ xs.drop i.toNat)))
def mIns (i : Nat) (m1 m2 : M D) : MS := fun ρ => match ρ[i]?.bind Sl.t? with
  | some (.lst _) => (m1 ρ).bindS fun k ρ1 => (m2 ρ1).bindS fun d ρ2 => (match k with
    | .int k => (match ρ2[i]? with
      | some s => (match s.t? with
        | some (.lst ts) => if ts.length < sizeLine ∧ 0 ≤ k ∧ k < 2 ^ 63 then .nx (ρ2.set i (s.re (.lst (ts.take k.toNat ++ [.sh d] ++ ts.drop k.toNat)))) else .bad
        | _ => .bad)
      | none => .bad)
    | _ => .bad)
  | _ => .bad
theorem st_ins {i : Nat} {x : Str} {m1 m2 : M D} (hN : X.N[i]? = some x) (hv : Vis X.env.scope x) (h : PEs X rt W e m1) (h' : PEs X rt W e2 m2)
    (hs : swapsWith (.Call (.Attribute (.Name x p) "insert" apos) [e, e2] [] p2) none pos.line X.env = pure false := by rfl)
    (hd : (x == ("__debug__" : Str)) = false := by decide) (hcd : (x == ("__classdict__" : Str)) = false := by decide)
    (hbm : ∀ {te te2 : TE}, PE X e te → PE X e2 te2 → ∃ ts, PE X (.Call (.Attribute (.Name x p) "insert" apos) [e, e2] [] p2) ts ∧ ts = tBM X.K "list" rIns (tVar i) (tCons te (tCons te2 tNil))) :
    PSd X rt W (.Expr (.Call (.Attribute (.Name x p) "insert" apos) [e, e2] [] p2) pos) (mIns i m1 m2) := by
  obtain ⟨te, h1, h2⟩ := h.ex
  obtain ⟨te2, h1', h2'⟩ := h'.ex
  obtain ⟨ts, h3, rfl⟩ := hbm h1 h1'
  refine ⟨_, ps_expr h3 hs, fun H G cs D r q => ?_⟩
  unfold mIns at q
  split at q
  · rename_i ts0 h0
    rw [Option.bind_eq_some_iff] at h0
    obtain ⟨sl0, e0, e0'⟩ := h0
    obtain ⟨c0, hc0, rfl⟩ := cell_at e0
    obtain ⟨x0, ex0, ht0⟩ := (r.at hc0).tree e0'
    simp only [RT] at ht0
    obtain ⟨a0, xs0, f0, rfl, ha0, _, _⟩ := ht0
    have v0 : (vals cs)[i]? = some (some (.ref a0)) := by rw [vals_at hc0, ex0]
    refine ⟨.ref a0, v0, .inl ⟨rfl, xs0, .of ha0⟩, ?_⟩
    show te (vals cs) H _
    refine h2 H G cs _ r (PostK.seqS q fun kd y cs1 H1 G1 ev st r1 rp1 q1 => ?_)
    show te2 (vals cs) H1 _
    rw [← ev]
    refine h2' H1 G1 cs1 _ r1 (PostK.seqS q1 fun d v cs2 H2 G2 ev2 st2 r2 rp2 q2 => ?_)
    cases kd with
    | int k =>
      have rp1' : Rp X.K G1 (.int k) y := rp1
      simp only [Rp] at rp1'
      subst rp1'
      cases hsl : (slots cs2)[i]? with
      | none => simp only [hsl] at q2; exact q2.elim
      | some sl =>
        simp only [hsl] at q2
        obtain ⟨c, hc, rfl⟩ := cell_at hsl
        split at q2
        · rename_i ts1 hts
          obtain ⟨x1, ex1, ht1⟩ := (r2.at hc).tree hts
          have e5 : x1 = .ref a0 := by
            have v1 : (vals cs2)[i]? = some (some (.ref a0)) := by rw [ev2, ev, v0]
            rw [vals_at hc, ex1] at v1
            exact Option.some.inj (Option.some.inj v1)
          subst e5
          simp only [RT] at ht1
          obtain ⟨a1, xs1, f1, e6, ha1, hl1, ef⟩ := ht1
          cases e6
          split at q2
          · rename_i hb
            refine ⟨a0, xs1, k, v, rfl, rfl, ha1, by rw [← hl1.length]; exact hb.1, hb.2.1, hb.2.2, ?_⟩
            obtain ⟨cs', g1, g2, g3, g4⟩ := lst_change r2 hc hts ex1 ef (RTL.ins k.toNat hl1 rp2)
            have z := q2 _ _ G2 g1 g3 g4
            rw [g2, ev2] at z
            exact z
          · exact q2.elim
        · exact q2.elim
    | _ => exact q2.elim
  · exact q.elim
end
end PD

set_option Elab.async false
set_option linter.all false
set_option maxRecDepth 100000
set_option maxHeartbeats 2000000
/-! PD: the denotations, computed by simp. -/
namespace PD
open PySem PySem.Spec PyProof.Rows L2
section
variable {α β γ : Type}
@[simp] theorem ob_ok (a : α) (ρ : List Sl) (f : α → M β) : (Out.ok a ρ).bind f = f a ρ := rfl
@[simp] theorem ob_err (x : Exn) (ρ : List Sl) (f : α → M β) : (Out.err x ρ : Out α).bind f = .err x ρ := rfl
@[simp] theorem ob_bad (f : α → M β) : (Out.bad : Out α).bind f = .bad := rfl
@[simp] theorem obs_ok (a : α) (ρ : List Sl) (f : α → MS) : (Out.ok a ρ).bindS f = f a ρ := rfl
@[simp] theorem obs_err (x : Exn) (ρ : List Sl) (f : α → MS) : (Out.err x ρ : Out α).bindS f = .err x ρ := rfl
@[simp] theorem obs_bad (f : α → MS) : (Out.bad : Out α).bindS f = .bad := rfl
@[simp] theorem e_bind (m : M α) (f : α → M β) (ρ : List Sl) : M.bind m f ρ = (m ρ).bind f := rfl
@[simp] theorem e_pure (a : α) (ρ : List Sl) : (M.pure a : M α) ρ = .ok a ρ := rfl
@[simp] theorem e_ofO_some (a : α) (ρ : List Sl) : (M.ofO (some a) : M α) ρ = .ok a ρ := rfl
@[simp] theorem e_ofO_none (ρ : List Sl) : (M.ofO none : M α) ρ = .bad := rfl
@[simp] theorem e_mSh (m : M D) (ρ : List Sl) : mSh m ρ = (m ρ).bind fun d => M.pure (.sh d) := rfl
@[simp] theorem e_mGv (m : M T) (ρ : List Sl) : mGv m ρ = (m ρ).bind fun t => M.pure t.d := rfl
/-- the name's slot, then -/
def nmS (i : Nat) (ρ : List Sl) : Option Sl → Out D
  | some (.v (.sh d)) => .ok d ρ
  | some (.v t) => .ok t.d (ρ.set i (.v (.sh t.d)))
  | _ => .bad
@[simp] theorem e_mName (i : Nat) (ρ : List Sl) : mName i ρ = nmS i ρ ρ[i]? := by
  unfold mName nmS
  rfl
@[simp] theorem nmS_sh (i : Nat) (ρ : List Sl) (d : D) : nmS i ρ (some (.v (.sh d))) = .ok d ρ := rfl
@[simp] theorem nmS_lst (i : Nat) (ρ : List Sl) (ts : List T) : nmS i ρ (some (.v (.lst ts))) = .ok (T.lst ts).d (ρ.set i (.v (.sh (T.lst ts).d))) := rfl
@[simp] theorem nmS_tup (i : Nat) (ρ : List Sl) (ts : List T) : nmS i ρ (some (.v (.tup ts))) = .ok (T.tup ts).d (ρ.set i (.v (.sh (T.tup ts).d))) := rfl
@[simp] theorem nmS_ins (i : Nat) (ρ : List Sl) (c : Str) (ns : List Str) (ts : List T) : nmS i ρ (some (.v (.ins c ns ts))) = .ok (T.ins c ns ts).d (ρ.set i (.v (.sh (T.ins c ns ts).d))) := rfl
@[simp] theorem e_mOp2 (f : D → D → Option T) (ma mb : M D) (ρ : List Sl) : mOp2 f ma mb ρ = (ma ρ).bind fun d1 ρ1 => (mb ρ1).bind fun d2 => M.ofO (f d1 d2) := rfl
@[simp] theorem e_mOp1 (f : D → Option T) (ma : M D) (ρ : List Sl) : mOp1 f ma ρ = (ma ρ).bind fun d1 => M.ofO (f d1) := rfl
@[simp] theorem e_mOpN (f : List D → Option T) (ma : M (List D)) (ρ : List Sl) : mOpN f ma ρ = (ma ρ).bind fun d1 => M.ofO (f d1) := rfl
@[simp] theorem e_mCmp (f : D → D → Option Bool) (ma mb : M D) (ρ : List Sl) : mCmp f ma mb ρ = (ma ρ).bind fun d1 ρ1 => (mb ρ1).bind fun d2 => M.ofO (f d1 d2) := rfl
@[simp] theorem e_mB (m : M Bool) (ρ : List Sl) : mB m ρ = (m ρ).bind fun b => M.pure (.bl b) := rfl
@[simp] theorem e_mNil (ρ : List Sl) : mNil ρ = .ok [] ρ := rfl
@[simp] theorem e_mCons (m : M D) (ms : M (List D)) (ρ : List Sl) : mCons m ms ρ = (m ρ).bind fun d ρ1 => (ms ρ1).bind fun ds => M.pure (d :: ds) := rfl
def starO (o : Option (List D)) (ms : M (List D)) (ρ : List Sl) : Out (List D) := match o with
  | some ds0 => (ms ρ).bind fun ds => M.pure (ds0 ++ ds)
  | none => .bad
@[simp] theorem starO_some (ds0 : List D) (ms : M (List D)) (ρ : List Sl) : starO (some ds0) ms ρ = (ms ρ).bind fun ds => M.pure (ds0 ++ ds) := rfl
@[simp] theorem e_mStar (m : M D) (ms : M (List D)) (ρ : List Sl) : mStar m ms ρ = (m ρ).bind fun d ρ1 => starO d.its? ms ρ1 := rfl
@[simp] theorem e_mOpD (f : D → D → Option D) (ma mb : M D) (ρ : List Sl) : mOpD f ma mb ρ = (ma ρ).bind fun d1 ρ1 => (mb ρ1).bind fun d2 => M.ofO (f d1 d2) := rfl
def partO : D → M (Option Int)
  | .int i => M.pure (some i)
  | _ => fun _ => .bad
@[simp] theorem partO_int (i : Int) : partO (.int i) = M.pure (some i) := rfl
@[simp] theorem e_mPart (m : M D) (ρ : List Sl) : mPart m ρ = (m ρ).bind partO := rfl
@[simp] theorem e_mSl (m : M D) (lo hi : M (Option Int)) (ρ : List Sl) : mSl m lo hi ρ = (m ρ).bind fun d ρ1 => (lo ρ1).bind fun l ρ2 => (hi ρ2).bind fun h => M.ofO (fSl d l h) := rfl
@[simp] theorem e_mMap (f : D → Option D) (m : M D) (ρ : List Sl) : mMap f m ρ = (m ρ).bind fun d => M.ofO (f d) := rfl
@[simp] theorem e_mTru (m : M D) (ρ : List Sl) : mTru m ρ = (m ρ).bind fun d => M.ofO d.tru := rfl
@[simp] theorem e_mNot (m : M Bool) (ρ : List Sl) : mNot m ρ = (m ρ).bind fun k => M.pure (!k) := rfl
@[simp] theorem e_mAnd (ma mb : M Bool) (ρ : List Sl) : mAnd ma mb ρ = (ma ρ).bind fun k => if k = true then mb else M.pure false := rfl
@[simp] theorem e_mOr (ma mb : M Bool) (ρ : List Sl) : mOr ma mb ρ = (ma ρ).bind fun k => if k = true then M.pure true else mb := rfl
def andO (mb : M D) : D → M D
  | .bl true => mb
  | .bl false => M.pure (.bl false)
  | _ => fun _ => .bad
@[simp] theorem andO_bl (mb : M D) (b : Bool) : andO mb (.bl b) = if b = true then mb else M.pure (.bl false) := by cases b <;> rfl
@[simp] theorem e_mAndV (ma mb : M D) (ρ : List Sl) : mAndV ma mb ρ = (ma ρ).bind (andO mb) := rfl
def orO (mb : M D) : D → M D
  | .bl true => M.pure (.bl true)
  | .bl false => mb
  | _ => fun _ => .bad
@[simp] theorem orO_bl (mb : M D) (b : Bool) : orO mb (.bl b) = if b = true then M.pure (.bl true) else mb := by cases b <;> rfl
@[simp] theorem e_mOrV (ma mb : M D) (ρ : List Sl) : mOrV ma mb ρ = (ma ρ).bind (orO mb) := rfl
@[simp] theorem e_mIf (mt : M Bool) (ma mb : M α) (ρ : List Sl) : mIf mt ma mb ρ = (mt ρ).bind fun k => if k = true then ma else mb := rfl
@[simp] theorem ite_ap {p : Prop} [Decidable p] (f g : M α) (ρ : List Sl) : (if p then f else g) ρ = if p then f ρ else g ρ := by split <;> rfl
@[simp] theorem ite_aps {p : Prop} [Decidable p] (f g : MS) (ρ : List Sl) : (if p then f else g) ρ = if p then f ρ else g ρ := by split <;> rfl
@[simp] theorem e_mChain (f f' : D → D → Option Bool) (ma mb mc : M D) (ρ : List Sl) : mChain f f' ma mb mc ρ = (ma ρ).bind fun d1 ρ1 => (mb ρ1).bind fun d2 ρ2 => match f d1 d2 with
  | some true => (mc ρ2).bind fun d3 => M.ofO (f' d2 d3)
  | some false => .ok false ρ2
  | none => .bad := rfl
@[simp] theorem e_mIsT (ts : List Ty) (m : M D) (ρ : List Sl) : mIsT ts m ρ = (m ρ).bind fun d => M.ofO ((isTs ts d).map D.bl) := rfl
@[simp] theorem e_mIsO (yes no : List Str) (m : M D) (ρ : List Sl) : mIsO yes no m ρ = (m ρ).bind fun d => M.ofO ((askO yes no d).map D.bl) := rfl
/-! ### statements -/
def SOut.seq (o : SOut) (m : MS) : SOut := match o with
  | .nx ρ1 => m ρ1
  | o => o
@[simp] theorem seq_nx (ρ : List Sl) (m : MS) : (SOut.nx ρ).seq m = m ρ := rfl
@[simp] theorem seq_bk (ρ : List Sl) (m : MS) : (SOut.bk ρ).seq m = .bk ρ := rfl
@[simp] theorem seq_ct (ρ : List Sl) (m : MS) : (SOut.ct ρ).seq m = .ct ρ := rfl
@[simp] theorem seq_rt (t : T) (ρ : List Sl) (m : MS) : (SOut.rt t ρ).seq m = .rt t ρ := rfl
@[simp] theorem seq_err (x : Exn) (ρ : List Sl) (m : MS) : (SOut.err x ρ).seq m = .err x ρ := rfl
@[simp] theorem seq_bad (m : MS) : SOut.bad.seq m = .bad := rfl
@[simp] theorem e_mSeq (m1 m2 : MS) (ρ : List Sl) : mSeq m1 m2 ρ = (m1 ρ).seq m2 := by
  unfold mSeq SOut.seq
  cases m1 ρ <;> rfl
@[simp] theorem e_mSkip (ρ : List Sl) : mSkip ρ = .nx ρ := rfl
@[simp] theorem e_mExpr (m : M T) (ρ : List Sl) : mExpr m ρ = (m ρ).bindS fun _ => mSkip := rfl
@[simp] theorem e_mRet (m : M T) (ρ : List Sl) : mRet m ρ = (m ρ).bindS fun t ρ' => .rt t ρ' := rfl
@[simp] theorem e_mIfS (mt : M Bool) (m1 m2 : MS) (ρ : List Sl) : mIfS mt m1 m2 ρ = (mt ρ).bindS fun k => if k = true then m1 else m2 := rfl
/-- a slot that may be set -/
def Sl.np : Sl → Bool
  | .p _ _ => false
  | _ => true
@[simp] theorem np_un : Sl.np .un = true := rfl
@[simp] theorem np_v (t : T) : Sl.np (.v t) = true := rfl
@[simp] theorem setV_z (t : T) (s : Sl) (ρ : List Sl) (h : s.np = true) : setV 0 t (s :: ρ) = some (.v t :: ρ) := by
  cases s with
  | p k u => cases h
  | _ => rfl
@[simp] theorem setV_un (t : T) (ρ : List Sl) : setV 0 t (.un :: ρ) = some (.v t :: ρ) := rfl
@[simp] theorem setV_v (t u : T) (ρ : List Sl) : setV 0 t (.v u :: ρ) = some (.v t :: ρ) := rfl
@[simp] theorem setV_s (i : Nat) (t : T) (s : Sl) (ρ : List Sl) : setV (i + 1) t (s :: ρ) = (setV i t ρ).map (s :: ·) := by
  unfold setV
  simp only [List.getElem?_cons_succ, List.set_cons_succ]
  split <;> rfl
@[simp] theorem nxO_some (ρ : List Sl) : nxO (some ρ) = .nx ρ := rfl
@[simp] theorem e_mSet (i : Nat) (m : M T) (ρ : List Sl) : mSet i m ρ = (m ρ).bindS fun t ρ' => nxO (setV i t ρ') := rfl
@[simp] theorem e_mAsg (g : D → List Sl → Option (List Sl)) (m : M D) (ρ : List Sl) : mAsg g m ρ = (m ρ).bindS fun d ρ' => nxO (g d ρ') := rfl
@[simp] theorem e_tgN (i : Nat) (d : D) (ρ : List Sl) : tgN i d ρ = setV i (.sh d) ρ := rfl
@[simp] theorem e_tgT (g : List D → List Sl → Option (List Sl)) (n : Nat) (ds : List D) (ρ : List Sl) : tgT g n (.tup ds) ρ = if ds.length = n then g ds ρ else none := rfl
@[simp] theorem e_tgNil (ρ : List Sl) : tgNil [] ρ = some ρ := rfl
@[simp] theorem e_tgCons (g : D → List Sl → Option (List Sl)) (gs : List D → List Sl → Option (List Sl)) (d : D) (r : List D) (ρ : List Sl) : tgCons g gs (d :: r) ρ = (g d ρ).bind fun ρ1 => gs r ρ1 := rfl
def augO (i : Nat) (f : D → D → Option T) (m : M D) (ρ : List Sl) : Option Sl → SOut
  | some (.v (.sh d0)) => (m ρ).bindS fun d ρ' => match f d0 d with
    | some t => nxO (setV i t ρ')
    | none => .bad
  | _ => .bad
@[simp] theorem augO_sh (i : Nat) (f : D → D → Option T) (m : M D) (ρ : List Sl) (d0 : D) : augO i f m ρ (some (.v (.sh d0))) = (m ρ).bindS fun d ρ' => match f d0 d with
    | some t => nxO (setV i t ρ')
    | none => .bad := rfl
@[simp] theorem e_mAug (i : Nat) (f : D → D → Option T) (m : M D) (ρ : List Sl) : mAug i f m ρ = augO i f m ρ ρ[i]? := by
  unfold mAug augO
  rfl
@[simp] theorem e_mForS (g : D → List Sl → Option (List Sl)) (mi : M (List D)) (body : MS) (ρ : List Sl) : mForS g mi body ρ = (mi ρ).bindS fun ds => mFor g body ds := rfl
@[simp] theorem e_mFor_nil (g : D → List Sl → Option (List Sl)) (body : MS) (ρ : List Sl) : mFor g body [] ρ = .nx ρ := rfl
/-- one turn's end -/
def SOut.turn (o : SOut) (k : MS) : SOut := match o with
  | .nx ρ2 => k ρ2
  | .ct ρ2 => k ρ2
  | .bk ρ2 => .nx ρ2
  | o => o
@[simp] theorem turn_nx (ρ : List Sl) (m : MS) : (SOut.nx ρ).turn m = m ρ := rfl
@[simp] theorem turn_bk (ρ : List Sl) (m : MS) : (SOut.bk ρ).turn m = .nx ρ := rfl
@[simp] theorem turn_ct (ρ : List Sl) (m : MS) : (SOut.ct ρ).turn m = m ρ := rfl
@[simp] theorem turn_rt (t : T) (ρ : List Sl) (m : MS) : (SOut.rt t ρ).turn m = .rt t ρ := rfl
@[simp] theorem turn_err (x : Exn) (ρ : List Sl) (m : MS) : (SOut.err x ρ).turn m = .err x ρ := rfl
def forO (g : D → List Sl → Option (List Sl)) (body : MS) (ds : List D) : Option (List Sl) → SOut
  | none => .bad
  | some ρ1 => (body ρ1).turn (mFor g body ds)
@[simp] theorem forO_some (g : D → List Sl → Option (List Sl)) (body : MS) (ds : List D) (ρ : List Sl) : forO g body ds (some ρ) = (body ρ).turn (mFor g body ds) := rfl
theorem e_mFor_cons (g : D → List Sl → Option (List Sl)) (body : MS) (d : D) (ds : List D) (ρ : List Sl) : mFor g body (d :: ds) ρ = forO g body ds (g d ρ) := by
  simp only [mFor]
  cases g d ρ with
  | none => rfl
  | some ρ1 =>
    simp only [forO_some]
    cases body ρ1 <;> rfl
@[simp] theorem e_mRng (f : List D → Option (List D)) (ms : M (List D)) (ρ : List Sl) : mRng f ms ρ = (ms ρ).bind fun ds => M.ofO (f ds) := rfl
@[simp] theorem e_mSeqs (m : M D) (ρ : List Sl) : mSeqs m ρ = (m ρ).bind fun d => M.ofO d.seq? := rfl
@[simp] theorem e_mRaise0 (c : Str) (ρ : List Sl) : mRaise0 c ρ = .err ⟨c, [], []⟩ ρ := rfl
@[simp] theorem e_mRaise1 (c f : Str) (ms : M (List D)) (ρ : List Sl) : mRaise1 c f ms ρ = (ms ρ).bindS fun ds ρ' => match ds with
  | [d] => .err ⟨c, [f], [d]⟩ ρ'
  | _ => .bad := rfl
/-! ### calls -/
@[simp] theorem e_qNil (ρ : List Sl) : qNil ρ = .ok [] ρ := rfl
@[simp] theorem e_qCons (m : M D) (ms : M (List AV)) (ρ : List Sl) : qCons m ms ρ = (m ρ).bind fun d ρ1 => (ms ρ1).bind fun ds => M.pure (.d d :: ds) := rfl
def ownO (i : Nat) (ms : M (List AV)) (ρ : List Sl) : Option T → Out (List AV)
  | some _ => (ms ρ).bind fun ds => M.pure (.own i :: ds)
  | none => .bad
@[simp] theorem ownO_some (i : Nat) (ms : M (List AV)) (ρ : List Sl) (t : T) : ownO i ms ρ (some t) = (ms ρ).bind fun ds => M.pure (.own i :: ds) := rfl
@[simp] theorem e_qOwn (i : Nat) (ms : M (List AV)) (ρ : List Sl) : qOwn i ms ρ = ownO i ms ρ (ρ[i]?.bind Sl.t?) := rfl
@[simp] theorem t_v (t : T) : Sl.t? (.v t) = some t := rfl
@[simp] theorem t_p (k : Nat) (t : T) : Sl.t? (.p k t) = some t := rfl
@[simp] theorem t_un : Sl.t? .un = none := rfl
@[simp] theorem re_v (t u : T) : Sl.re (.v t) u = .v u := rfl
@[simp] theorem re_p (k : Nat) (t u : T) : Sl.re (.p k t) u = .p k u := rfl
@[simp] theorem takeO_nil (ρ : List Sl) : takeO [] ρ = some ([], ρ) := rfl
@[simp] theorem takeO_d (d : D) (r : List AV) (ρ : List Sl) : takeO (.d d :: r) ρ = (takeO r ρ).map fun z => (.v (.sh d) :: z.1, z.2) := rfl
def takeS (i : Nat) (r : List AV) (ρ : List Sl) : Option T → Option (List Sl × List Sl)
  | some t => (takeO r (ρ.set i .un)).map fun z => (.v t :: z.1, z.2)
  | none => none
@[simp] theorem takeS_some (i : Nat) (r : List AV) (ρ : List Sl) (t : T) : takeS i r ρ (some t) = (takeO r (ρ.set i .un)).map fun z => (.v t :: z.1, z.2) := rfl
@[simp] theorem takeO_own (i : Nat) (r : List AV) (ρ : List Sl) : takeO (.own i :: r) ρ = takeS i r ρ (ρ[i]?.bind Sl.t?) := rfl
@[simp] theorem putO_nil (ρ0 ρ : List Sl) : putO [] ρ0 [] ρ = some ρ := rfl
@[simp] theorem putO_d (d : D) (r : List AV) (ρ0 : List Sl) (s : Sl) (as ρ : List Sl) : putO (.d d :: r) ρ0 (s :: as) ρ = putO r ρ0 as ρ := rfl
def putS (i : Nat) (r : List AV) (ρ0 as ρ : List Sl) (t : T) : Option Sl → Option (List Sl)
  | some s => putO r ρ0 as (ρ.set i (s.re t))
  | none => none
@[simp] theorem putS_some (i : Nat) (r : List AV) (ρ0 as ρ : List Sl) (t : T) (s : Sl) : putS i r ρ0 as ρ t (some s) = putO r ρ0 as (ρ.set i (s.re t)) := rfl
@[simp] theorem putO_own (i : Nat) (r : List AV) (ρ0 : List Sl) (t : T) (as ρ : List Sl) : putO (.own i :: r) ρ0 (.v t :: as) ρ = putS i r ρ0 as ρ t ρ0[i]? := rfl
def okO (a : α) : Option (List Sl) → Out α
  | some ρ' => .ok a ρ'
  | none => .bad
@[simp] theorem okO_some (a : α) (ρ : List Sl) : okO a (some ρ) = .ok a ρ := rfl
def errO (x : Exn) : Option (List Sl) → Out α
  | some ρ' => .err x ρ'
  | none => .bad
@[simp] theorem errO_some (x : Exn) (ρ : List Sl) : (errO x (some ρ) : Out α) = .err x ρ := rfl
@[simp] theorem putO_ok (as : List AV) (ρ0 ρr : List Sl) (a : α) (ρ : List Sl) : Out.putO as ρ0 ρr (.ok a ρ) = okO a (PD.putO as ρ0 ρ ρr) := rfl
@[simp] theorem putO_err (as : List AV) (ρ0 ρr : List Sl) (x : Exn) (ρ : List Sl) : (Out.putO as ρ0 ρr (.err x ρ) : Out α) = errO x (PD.putO as ρ0 ρ ρr) := rfl
@[simp] theorem putO_bad (as : List AV) (ρ0 ρr : List Sl) : (Out.putO as ρ0 ρr .bad : Out α) = .bad := rfl
def callS (F : M T) (as : List AV) (ρ1 : List Sl) : Option (List Sl × List Sl) → Out T
  | some z => Out.putO as ρ1 z.2 (F z.1)
  | none => .bad
@[simp] theorem callS_some (F : M T) (as : List AV) (ρ1 : List Sl) (z : List Sl × List Sl) : callS F as ρ1 (some z) = Out.putO as ρ1 z.2 (F z.1) := rfl
@[simp] theorem e_callO (F : M T) (as : List AV) (ρ : List Sl) : callO F as ρ = callS F as ρ (takeO as ρ) := by
  unfold callO callS
  cases takeO as ρ <;> rfl
@[simp] theorem e_mCall (F : M T) (ms : M (List AV)) (dfl : List D) (ρ : List Sl) : mCall F ms dfl ρ = (ms ρ).bind fun as => callO F (as ++ dfl.map .d) := rfl
@[simp] theorem startS_nil (k : Nat) : startS k [] [] = some [] := rfl
@[simp] theorem startS_t (k : Nat) (os : List Bool) (t : T) (ρ : List Sl) : startS k (true :: os) (.v t :: ρ) = (startS (k + 1) os ρ).map (.p k t :: ·) := rfl
@[simp] theorem startS_f (k : Nat) (os : List Bool) (d : D) (ρ : List Sl) : startS k (false :: os) (.v (.sh d) :: ρ) = (startS (k + 1) os ρ).map (.v (.sh d) :: ·) := rfl
@[simp] theorem finS_nil (k : Nat) (ρ : List Sl) : finS k [] [] ρ = some [] := rfl
@[simp] theorem finS_t (k : Nat) (os : List Bool) (s : Sl) (ρ : List Sl) (t : T) (ρ' : List Sl) : finS k (true :: os) (s :: ρ) (.p k t :: ρ') = (finS (k + 1) os ρ ρ').map (.v t :: ·) := by simp [finS]
@[simp] theorem finS_f (k : Nat) (os : List Bool) (s s' : Sl) (ρ ρ' : List Sl) : finS k (false :: os) (s :: ρ) (s' :: ρ') = (finS (k + 1) os ρ ρ').map (s :: ·) := by simp [finS]
def endF (own : List Bool) (ρ : List Sl) : SOut → Out T
  | .rt t ρ' => okO t (finS 0 own ρ ρ')
  | .nx ρ' => okO (.sh .non) (finS 0 own ρ ρ')
  | .err x ρ' => errO x (finS 0 own ρ ρ')
  | _ => .bad
@[simp] theorem endF_rt (own : List Bool) (ρ : List Sl) (t : T) (ρ' : List Sl) : endF own ρ (.rt t ρ') = okO t (finS 0 own ρ ρ') := rfl
@[simp] theorem endF_nx (own : List Bool) (ρ : List Sl) (ρ' : List Sl) : endF own ρ (.nx ρ') = okO (.sh .non) (finS 0 own ρ ρ') := rfl
@[simp] theorem endF_err (own : List Bool) (ρ : List Sl) (x : Exn) (ρ' : List Sl) : endF own ρ (.err x ρ') = errO x (finS 0 own ρ ρ') := rfl
def runS (own : List Bool) (n : Nat) (m : MS) (ρ : List Sl) : Option (List Sl) → Out T
  | some ρ1 => endF own ρ (m (ρ1 ++ List.replicate (n - own.length) .un))
  | none => .bad
@[simp] theorem runS_some (own : List Bool) (n : Nat) (m : MS) (ρ ρ1 : List Sl) : runS own n m ρ (some ρ1) = endF own ρ (m (ρ1 ++ List.replicate (n - own.length) .un)) := rfl
theorem e_runF (own : List Bool) (n : Nat) (m : MS) (ρ : List Sl) : runF own n m ρ = runS own n m ρ (startS 0 own ρ) := by
  unfold runF runS
  cases startS 0 own ρ with
  | none => rfl
  | some ρ1 =>
    simp only
    cases m (ρ1 ++ List.replicate (n - own.length) .un) with
    | rt t ρ' => simp only [endF_rt]; cases finS 0 own ρ ρ' <;> rfl
    | nx ρ' => simp only [endF_nx]; cases finS 0 own ρ ρ' <;> rfl
    | err x ρ' => simp only [endF_err]; cases finS 0 own ρ ρ' <;> rfl
    | _ => rfl
@[simp] theorem rep_lit (n : Nat) (a : α) : List.replicate (n + 1) a = a :: List.replicate n a := rfl
end
end PD

set_option Elab.async false
set_option linter.all false
set_option maxRecDepth 100000
set_option maxHeartbeats 2000000
/-! PD: more rules for simp; lists of ints; loops and comprehensions as recursion. -/
namespace PD
open PySem PySem.Spec PyProof.Rows L2
section
variable {α β γ : Type}
theorem ixN_in {n : Nat} {i : Int} (h0 : 0 ≤ i) (h1 : i < n) : ixN n i = some i.toNat := by
  unfold ixN
  rw [if_pos h0, if_pos h1]
theorem ixN_neg {n : Nat} {i : Int} (h0 : i < 0) (h1 : -(n : Int) ≤ i) : ixN n i = some (i + n).toNat := by
  unfold ixN
  rw [if_neg (by omega), if_pos (by omega)]
theorem atI_in {xs : List α} {i : Int} (h0 : 0 ≤ i) (h1 : i < xs.length) : atI xs i = xs[i.toNat]? := by
  unfold atI
  rw [ixN_in h0 h1]
  rfl
@[simp] theorem atI_map (f : α → β) (xs : List α) (i : Int) : atI (xs.map f) i = (atI xs i).map f := by
  unfold atI
  rw [List.length_map]
  cases ixN xs.length i with
  | none => rfl
  | some j => simp
def shT : T → Option D
  | .sh d => some d
  | _ => none
@[simp] theorem shT_sh (d : D) : shT (.sh d) = some d := rfl
@[simp] theorem item_sh (d : D) (i : Int) : (T.sh d).item i = fIx d (.int i) := rfl
@[simp] theorem item_lst (ts : List T) (i : Int) : (T.lst ts).item i = (atI ts i).bind shT := rfl
@[simp] theorem item_tup (ts : List T) (i : Int) : (T.tup ts).item i = (atI ts i).bind shT := rfl
@[simp] theorem fIx_lst (ds : List D) (i : Int) : fIx (.lst ds) (.int i) = atI ds i := rfl
@[simp] theorem fIx_scr (ds : List D) (i : Int) : fIx (.scr ds) (.int i) = atI ds i := rfl
@[simp] theorem fIx_tup (ds : List D) (i : Int) : fIx (.tup ds) (.int i) = atI ds i := rfl
@[simp] theorem atI_0 (x : α) (xs : List α) : atI (x :: xs) 0 = some x := by
  rw [atI_in (by decide) (by simp only [List.length_cons]; omega)]
  rfl
@[simp] theorem atI_1 (x y : α) (xs : List α) : atI (x :: y :: xs) 1 = some y := by
  rw [atI_in (by decide) (by simp only [List.length_cons]; omega)]
  rfl
@[simp] theorem atI_2 (x y z : α) (xs : List α) : atI (x :: y :: z :: xs) 2 = some z := by
  rw [atI_in (by decide) (by simp only [List.length_cons]; omega)]
  rfl
@[simp] theorem ixN_0 (n : Nat) : ixN (n + 1) 0 = some 0 := ixN_in (by decide) (by omega)
@[simp] theorem ixN_1 (n : Nat) : ixN (n + 2) 1 = some 1 := ixN_in (by decide) (by omega)
@[simp] theorem ixN_2 (n : Nat) : ixN (n + 3) 2 = some 2 := ixN_in (by decide) (by omega)
def peek2 (ρ : List Sl) : Option D → Out D
  | some r => .ok r ρ
  | none => .bad
@[simp] theorem peek2_some (r : D) (ρ : List Sl) : peek2 ρ (some r) = .ok r ρ := rfl
def peek1 (i : Nat) : D → M D
  | .int k => fun ρ1 => peek2 ρ1 ((ρ1[i]?.bind Sl.t?).bind fun t => t.item k)
  | _ => fun _ => .bad
@[simp] theorem peek1_int (i : Nat) (k : Int) (ρ1 : List Sl) : peek1 i (.int k) ρ1 = peek2 ρ1 ((ρ1[i]?.bind Sl.t?).bind fun t => t.item k) := rfl
def peek0 (i : Nat) (mb : M D) (ρ : List Sl) : Option T → Out D
  | none => .bad
  | some _ => (mb ρ).bind (peek1 i)
@[simp] theorem peek0_some (i : Nat) (mb : M D) (ρ : List Sl) (t : T) : peek0 i mb ρ (some t) = (mb ρ).bind (peek1 i) := rfl
@[simp] theorem e_mPeek (i : Nat) (mb : M D) (ρ : List Sl) : mPeek i mb ρ = peek0 i mb ρ (ρ[i]?.bind Sl.t?) := by
  unfold mPeek
  cases ρ[i]?.bind Sl.t? with
  | none => rfl
  | some t =>
    simp only [peek0_some]
    congr 1
    funext d ρ1
    cases d <;> rfl
def six4 (i : Nat) (s : Sl) (d : D) (ts : List T) (ρ : List Sl) : Option Nat → SOut
  | some j => .nx (ρ.set i (s.re (.lst (ts.set j (.sh d)))))
  | none => .bad
@[simp] theorem six4_some (i : Nat) (s : Sl) (d : D) (ts : List T) (ρ : List Sl) (j : Nat) : six4 i s d ts ρ (some j) = .nx (ρ.set i (s.re (.lst (ts.set j (.sh d))))) := rfl
def six3 (i : Nat) (s : Sl) (d : D) (k : Int) (ρ : List Sl) : Option T → SOut
  | some (.lst ts) => six4 i s d ts ρ (ixN ts.length k)
  | _ => .bad
@[simp] theorem six3_lst (i : Nat) (s : Sl) (d : D) (k : Int) (ρ : List Sl) (ts : List T) : six3 i s d k ρ (some (.lst ts)) = six4 i s d ts ρ (ixN ts.length k) := rfl
def six2 (i : Nat) (d : D) (k : Int) (ρ : List Sl) : Option Sl → SOut
  | some s => six3 i s d k ρ s.t?
  | none => .bad
@[simp] theorem six2_some (i : Nat) (d : D) (k : Int) (ρ : List Sl) (s : Sl) : six2 i d k ρ (some s) = six3 i s d k ρ s.t? := rfl
def six1 (i : Nat) (d : D) : D → MS
  | .int k => fun ρ => six2 i d k ρ ρ[i]?
  | _ => fun _ => .bad
@[simp] theorem six1_int (i : Nat) (d : D) (k : Int) (ρ : List Sl) : six1 i d (.int k) ρ = six2 i d k ρ ρ[i]? := rfl
def six0 (i : Nat) (mi : M D) (d : D) (ρ : List Sl) : Option T → SOut
  | some (.lst _) => (mi ρ).bindS (six1 i d)
  | _ => .bad
@[simp] theorem six0_lst (i : Nat) (mi : M D) (d : D) (ρ : List Sl) (ts : List T) : six0 i mi d ρ (some (.lst ts)) = (mi ρ).bindS (six1 i d) := rfl
@[simp] theorem e_mSetIx (i : Nat) (mi me : M D) (ρ : List Sl) : mSetIx i mi me ρ = (me ρ).bindS fun d ρ1 => six0 i mi d ρ1 (ρ1[i]?.bind Sl.t?) := by
  unfold mSetIx
  congr 1
  funext d ρ1
  cases ρ1[i]?.bind Sl.t? with
  | none => rfl
  | some t =>
    cases t <;> try rfl
    show (mi ρ1).bindS _ = (mi ρ1).bindS _
    congr 1
    funext k ρ2
    cases k <;> rfl
def moveS (i : Nat) (ρ : List Sl) : Option Sl → Out T
  | some (.v t) => .ok t (ρ.set i .un)
  | _ => .bad
@[simp] theorem moveS_v (i : Nat) (ρ : List Sl) (t : T) : moveS i ρ (some (.v t)) = .ok t (ρ.set i .un) := rfl
@[simp] theorem e_mMove (i : Nat) (ρ : List Sl) : mMove i ρ = moveS i ρ ρ[i]? := by
  unfold mMove moveS
  rfl
def app2 (i : Nat) (t : T) (s : Sl) (ρ : List Sl) : Option T → SOut
  | some (.lst ts) => if ts.length < sizeLine then .nx (ρ.set i (s.re (.lst (ts ++ [t])))) else .bad
  | _ => .bad
@[simp] theorem app2_lst (i : Nat) (t : T) (s : Sl) (ρ : List Sl) (ts : List T) (h : ts.length < sizeLine) : app2 i t s ρ (some (.lst ts)) = .nx (ρ.set i (s.re (.lst (ts ++ [t])))) := by
  show (if _ then _ else _) = _
  rw [if_pos h]
def app1 (i : Nat) (t : T) (ρ : List Sl) : Option Sl → SOut
  | some s => app2 i t s ρ s.t?
  | none => .bad
@[simp] theorem app1_some (i : Nat) (t : T) (ρ : List Sl) (s : Sl) : app1 i t ρ (some s) = app2 i t s ρ s.t? := rfl
def app0 (i : Nat) (m : M T) (ρ : List Sl) : Option T → SOut
  | some (.lst _) => (m ρ).bindS fun t ρ' => app1 i t ρ' ρ'[i]?
  | _ => .bad
@[simp] theorem app0_lst (i : Nat) (m : M T) (ρ : List Sl) (ts : List T) : app0 i m ρ (some (.lst ts)) = (m ρ).bindS fun t ρ' => app1 i t ρ' ρ'[i]? := rfl
@[simp] theorem e_mApp (i : Nat) (m : M T) (ρ : List Sl) : mApp i m ρ = app0 i m ρ (ρ[i]?.bind Sl.t?) := by
  unfold mApp
  cases ρ[i]?.bind Sl.t? with
  | none => rfl
  | some t =>
    cases t <;> try rfl
/-! ### values of operators -/
@[simp] theorem f_add (i j : Int) : fAdd (.int i) (.int j) = some (.sh (.int (i + j))) := rfl
@[simp] theorem f_sub (i j : Int) : fSub (.int i) (.int j) = some (.sh (.int (i - j))) := rfl
theorem f_mul (i j : Int) (h : CMul i j) : fMul (.int i) (.int j) = some (.sh (.int (i * j))) := by
  show (if _ then _ else _) = _
  rw [if_pos h]
theorem f_fdiv (i j : Int) (h : CDiv i j) : fFdiv (.int i) (.int j) = some (.sh (.int (i / j))) := by
  show (if _ then _ else _) = _
  rw [if_pos h]
theorem f_mod (i j : Int) (h : 0 < j) : fMod (.int i) (.int j) = some (.sh (.int (i % j))) := by
  show (if _ then _ else _) = _
  rw [if_pos h]
@[simp] theorem f_lt (i j : Int) : fLt (.int i) (.int j) = some (decide (i < j)) := rfl
@[simp] theorem f_le (i j : Int) : fLe (.int i) (.int j) = some (decide (i ≤ j)) := rfl
@[simp] theorem f_gt (i j : Int) : fGt (.int i) (.int j) = some (decide (j < i)) := rfl
@[simp] theorem f_ge (i j : Int) : fGe (.int i) (.int j) = some (decide (j ≤ i)) := rfl
@[simp] theorem f_int (i : Int) : fInt [.int i] = some (.sh (.int i)) := rfl
@[simp] theorem f_eq (i j : Int) : fEq (.int i) (.int j) = some (decide (i = j)) := by
  show (if D.shal 60 (.int i) = true ∧ D.shal 60 (.int j) = true then some (D.eqv (.int i) (.int j)) else none) = _
  rw [if_pos ⟨by simp [D.shal], by simp [D.shal]⟩]
  simp only [D.eqv]
  rfl
@[simp] theorem f_ne (i j : Int) : fNe (.int i) (.int j) = some (!decide (i = j)) := by
  show (if D.shal 60 (.int i) = true ∧ D.shal 60 (.int j) = true then some (!D.eqv (.int i) (.int j)) else none) = _
  rw [if_pos ⟨by simp [D.shal], by simp [D.shal]⟩]
  simp only [D.eqv]
  rfl
@[simp] theorem f_len (ds : List D) : fLen [.lst ds] = some (.sh (.int ds.length)) := rfl
@[simp] theorem f_len_scr (ds : List D) : fLen [.scr ds] = some (.sh (.int ds.length)) := rfl
@[simp] theorem f_len_tup (ds : List D) : fLen [.tup ds] = some (.sh (.int ds.length)) := rfl
@[simp] theorem f_not (b : Bool) : fNot (.bl b) = some (.bl (!b)) := rfl
@[simp] theorem f_neg (i : Int) : fNeg (.int i) = some (.int (-i)) := rfl
@[simp] theorem td_sh (d : D) : (T.sh d).d = d := rfl
@[simp] theorem td_lst (ts : List T) : (T.lst ts).d = .lst (ts.map T.d) := by
  simp [T.d, T.ds_map]
@[simp] theorem td_tup (ts : List T) : (T.tup ts).d = .tup (ts.map T.d) := by
  simp [T.d, T.ds_map]
@[simp] theorem td_ins (c : Str) (ns : List Str) (ts : List T) : (T.ins c ns ts).d = .ins c ns (ts.map T.d) := by
  simp [T.d, T.ds_map]
@[simp] theorem d_comp : T.d ∘ T.sh = id := rfl
@[simp] theorem d_comp2 {δ : Type} (f : δ → D) : T.d ∘ (T.sh ∘ f) = f := rfl
@[simp] theorem tru_bl (b : Bool) : (D.bl b).tru = some b := rfl
@[simp] theorem isInt_int (i : Int) : isTs [.int] (.int i) = some true := rfl
@[simp] theorem isBool_int (i : Int) : isTs [.bool] (.int i) = some false := rfl
@[simp] theorem isList_lst (ds : List D) : isTs [.list] (.lst ds) = some true := rfl
@[simp] theorem isTuple_tup (ds : List D) : isTs [.tuple] (.tup ds) = some true := rfl
@[simp] theorem isBool_bl (b : Bool) : isTs [.bool] (.bl b) = some true := rfl
@[simp] theorem f_lst0 : fLstD [] = some (.lst []) := if_pos (by simp [sizeLine])
@[simp] theorem f_lst1 (a : D) : fLstD [a] = some (.lst [.sh a]) := if_pos (by simp [sizeLine])
@[simp] theorem f_lst2 (a b : D) : fLstD [a, b] = some (.lst [.sh a, .sh b]) := if_pos (by simp [sizeLine])
@[simp] theorem f_lst3 (a b c : D) : fLstD [a, b, c] = some (.lst [.sh a, .sh b, .sh c]) := if_pos (by simp [sizeLine])
@[simp] theorem f_lst4 (a b c d : D) : fLstD [a, b, c, d] = some (.lst [.sh a, .sh b, .sh c, .sh d]) := if_pos (by simp [sizeLine])
@[simp] theorem f_tup0 : fTupD [] = some (.tup []) := if_pos (by simp [sizeLine])
@[simp] theorem f_tup1 (a : D) : fTupD [a] = some (.tup [.sh a]) := if_pos (by simp [sizeLine])
@[simp] theorem f_tup2 (a b : D) : fTupD [a, b] = some (.tup [.sh a, .sh b]) := if_pos (by simp [sizeLine])
@[simp] theorem f_tup3 (a b c : D) : fTupD [a, b, c] = some (.tup [.sh a, .sh b, .sh c]) := if_pos (by simp [sizeLine])
theorem f_pow (i j : Int) (h : CPowW i j) : fPow (.int i) (.int j) = some (.sh (.int (i ^ j.toNat))) := by
  show (if CPowW i j then some (T.sh (.int (i ^ j.toNat))) else none) = _
  rw [if_pos h]
theorem f_tup (ds : List D) (h : ds.length ≤ sizeLine) : fTupD ds = some (.tup (ds.map .sh)) := if_pos h
theorem f_lst (ds : List D) (h : ds.length ≤ sizeLine) : fLstD ds = some (.lst (ds.map .sh)) := if_pos h
end
end PD
namespace PD
open PySem PySem.Spec PyProof.Rows L2
@[simp] theorem seq_lst (ds : List D) : (D.lst ds).seq? = some ds := rfl
@[simp] theorem seq_scr (ds : List D) : (D.scr ds).seq? = some ds := rfl
@[simp] theorem seq_tup (ds : List D) : (D.tup ds).seq? = some ds := rfl
@[simp] theorem its_lst (ds : List D) : (D.lst ds).its? = some ds := rfl
@[simp] theorem its_scr (ds : List D) : (D.scr ds).its? = some ds := rfl
@[simp] theorem its_tup (ds : List D) : (D.tup ds).its? = some ds := rfl
@[simp] theorem fl_lst (ds : List D) : fList [.lst ds] = some (.lst (ds.map .sh)) := rfl
@[simp] theorem fl_scr (ds : List D) : fList [.scr ds] = some (.lst (ds.map .sh)) := rfl
@[simp] theorem fl_tup (ds : List D) : fList [.tup ds] = some (.lst (ds.map .sh)) := rfl
/-- a list of ints -/
abbrev il (xs : List Int) : D := .lst (xs.map .int)
abbrev iS (i : Int) : Sl := .v (.sh (.int i))
abbrev dS (d : D) : Sl := .v (.sh d)
@[simp] theorem map_d_sh (ds : List D) : (ds.map T.sh).map T.d = ds := by simp
@[simp] theorem td_lst_sh (ds : List D) : (T.lst (ds.map T.sh)).d = .lst ds := by simp
@[simp] theorem td_tup_sh (ds : List D) : (T.tup (ds.map T.sh)).d = .tup ds := by simp
theorem fLst_ints (xs : List Int) (h : xs.length ≤ 1000000) : fLstD (xs.map D.int) = some (.lst ((xs.map D.int).map .sh)) := if_pos (by simp [sizeLine]; omega)
end PD

set_option Elab.async false
set_option linter.all false
set_option maxRecDepth 100000
set_option maxHeartbeats 2000000
/-! PD: rules for simp: instances, methods, texts. -/
namespace PD
open PySem PySem.Spec PyProof.Rows L2
theorem ofString_inj {a b : String} (h : Str.ofString a = Str.ofString b) : a = b := by
  rw [Str.ofString_eq_toList, Str.ofString_eq_toList] at h
  have h1 : a.toList.map Char.toNat = b.toList.map Char.toNat := by
    have := congrArg (fun s : Str => s.cps.toList) h
    simpa using this
  have h2 : a.toList = b.toList := by
    exact (List.map_inj_right fun x y e => Char.toNat_inj.mp e).mp h1
  exact String.toList_inj.mp h2
@[simp] theorem str_eq (a b : String) : (Str.ofString a = Str.ofString b) = (a = b) := propext ⟨ofString_inj, fun h => by rw [h]⟩
@[simp] theorem str_beq (a b : String) : (Str.ofString a == Str.ofString b) = (a == b) := by
  by_cases h : a = b
  · subst h
    simp
  · have h' : ¬ Str.ofString a = Str.ofString b := fun e => h (ofString_inj e)
    rw [beq_eq_false_iff_ne.mpr h, beq_eq_false_iff_ne.mpr h']
section
variable {α β γ : Type}
@[simp] theorem e_mRv (m : M D) (ρ : List Sl) : mRv m ρ = (m ρ).bind fun d => M.pure (.d d) := rfl
def roO (i : Nat) (ρ : List Sl) : Option T → Out AV
  | some _ => .ok (.own i) ρ
  | none => .bad
@[simp] theorem roO_some (i : Nat) (ρ : List Sl) (t : T) : roO i ρ (some t) = .ok (.own i) ρ := rfl
@[simp] theorem e_mRo (i : Nat) (ρ : List Sl) : mRo i ρ = roO i ρ (ρ[i]?.bind Sl.t?) := by
  unfold mRo roO
  rfl
@[simp] theorem insOf_d (c : Str) (ns : List Str) (vs : List D) (ρ : List Sl) : insOf (.d (.ins c ns vs)) ρ = some (c, ns) := rfl
@[simp] theorem insOf_own (i : Nat) (ρ : List Sl) : insOf (.own i) ρ = (ρ[i]?.bind Sl.t?).bind T.ins? := rfl
@[simp] theorem ins_sh (c : Str) (ns : List Str) (vs : List D) : T.ins? (.sh (.ins c ns vs)) = some (c, ns) := rfl
@[simp] theorem ins_ins (c : Str) (ns : List Str) (ts : List T) : T.ins? (.ins c ns ts) = some (c, ns) := rfl
def methS (c m : Str) (F : M T) (ms : M (List AV)) (dfl : List D) (a : AV) (ρ1 : List Sl) : Option (Str × List Str) → Out T
  | some (c', ns) => if c' = c ∧ m ∉ ns then (ms ρ1).bind fun as => callO F (a :: as ++ dfl.map .d) else .bad
  | none => .bad
@[simp] theorem methS_some (c m : Str) (F : M T) (ms : M (List AV)) (dfl : List D) (a : AV) (ρ1 : List Sl) (c' : Str) (ns : List Str) : methS c m F ms dfl a ρ1 (some (c', ns)) = if c' = c ∧ m ∉ ns then (ms ρ1).bind fun as => callO F (a :: as ++ dfl.map .d) else .bad := rfl
@[simp] theorem e_mMeth (c m : Str) (F : M T) (mr : M AV) (ms : M (List AV)) (dfl : List D) (ρ : List Sl) : mMeth c m F mr ms dfl ρ = (mr ρ).bind fun a ρ1 => methS c m F ms dfl a ρ1 (insOf a ρ1) := by
  unfold mMeth
  congr 1
@[simp] theorem calm_ok (a : α) (ρ : List Sl) : (Out.ok a ρ).calm = .ok a ρ := rfl
def specS (c : Str) (F : M T) (a : AV) (ρ1 : List Sl) : Option (Str × List Str) → Out T
  | some (c', _) => if c' = c then (callO F [a] ρ1).calm else .bad
  | none => .bad
@[simp] theorem specS_some (c : Str) (F : M T) (a : AV) (ρ1 : List Sl) (c' : Str) (ns : List Str) : specS c F a ρ1 (some (c', ns)) = if c' = c then (callO F [a] ρ1).calm else .bad := rfl
@[simp] theorem e_mSpec (c : Str) (F : M T) (mr : M AV) (ρ : List Sl) : mSpec c F mr ρ = (mr ρ).bind fun a ρ1 => specS c F a ρ1 (insOf a ρ1) := by
  unfold mSpec
  congr 1
def lenS (ρ' : List Sl) : T → Out T
  | .sh (.int n) => if 0 ≤ n ∧ n < 2 ^ 63 then .ok (.sh (.int n)) ρ' else .bad
  | _ => .bad
@[simp] theorem lenS_int (ρ' : List Sl) (n : Int) : lenS ρ' (.sh (.int n)) = if 0 ≤ n ∧ n < 9223372036854775808 then .ok (.sh (.int n)) ρ' else .bad := by
  have e : (2 : Int) ^ 63 = 9223372036854775808 := by decide
  show (if 0 ≤ n ∧ n < 2 ^ 63 then Out.ok (T.sh (.int n)) ρ' else .bad) = _
  rw [e]
@[simp] theorem e_mLenO (c : Str) (F : M T) (mr : M AV) (ρ : List Sl) : mLenO c F mr ρ = (mSpec c F mr ρ).bind fun t ρ' => lenS ρ' t := by
  unfold mLenO
  congr 1
  funext t ρ'
  cases t with
  | sh d => cases d <;> rfl
  | _ => rfl
def eqE : Out T → Out T
  | .ok (.sh (.bl k)) ρ' => .ok (.sh (.bl k)) ρ'
  | _ => .bad
@[simp] theorem eqE_ok (k : Bool) (ρ' : List Sl) : eqE (.ok (.sh (.bl k)) ρ') = .ok (.sh (.bl k)) ρ' := rfl
def eqS (c : Str) (F : M T) (a b : AV) (ρ2 : List Sl) : Option (Str × List Str) → Option (Str × List Str) → Out T
  | some (c1, _), some (c2, _) => if c1 = c ∧ c2 = c then eqE (callO F [a, b] ρ2) else .bad
  | _, _ => .bad
@[simp] theorem eqS_some (c : Str) (F : M T) (a b : AV) (ρ2 : List Sl) (c1 c2 : Str) (n1 n2 : List Str) : eqS c F a b ρ2 (some (c1, n1)) (some (c2, n2)) = if c1 = c ∧ c2 = c then eqE (callO F [a, b] ρ2) else .bad := rfl
@[simp] theorem e_mEqO (c : Str) (F : M T) (ma mb : M AV) (ρ : List Sl) : mEqO c F ma mb ρ = (ma ρ).bind fun a ρ1 => (mb ρ1).bind fun b ρ2 => eqS c F a b ρ2 (insOf a ρ2) (insOf b ρ2) := by
  unfold mEqO
  congr 1
def makeT (n : Nat) (ρ' : List Sl) : Option Sl → Out T
  | some (.v t) => .ok t (ρ'.take n)
  | _ => .bad
@[simp] theorem makeT_v (n : Nat) (ρ' : List Sl) (t : T) : makeT n ρ' (some (.v t)) = .ok t (ρ'.take n) := rfl
@[simp] theorem makeE_ok (n : Nat) (ρ' : List Sl) : mMakeEnd n (.ok (.sh .non) ρ') = makeT n ρ' ρ'[n]? := by
  simp only [mMakeEnd]
  cases ρ'[n]? with
  | none => rfl
  | some s => cases s <;> rfl
@[simp] theorem makeE_err (n : Nat) (x : Exn) (ρ' : List Sl) : mMakeEnd n (.err x ρ') = if n < ρ'.length then .err x (ρ'.take n) else .bad := rfl
@[simp] theorem e_mMake (c : Str) (F : M T) (ms : M (List AV)) (dfl : List D) (ρ : List Sl) : mMake c F ms dfl ρ = (ms ρ).bind fun as ρ1 => mMakeEnd ρ1.length (callO F (.own ρ1.length :: as ++ dfl.map .d) (ρ1 ++ [.v (.ins c [] [])])) := rfl
def fldS (cls : List Str) (f : Str) : D → M D
  | .ins c ns ds => if c ∈ cls then M.ofO ((ns.zip ds).lookup f) else fun _ => .bad
  | _ => fun _ => .bad
@[simp] theorem fldS_ins (cls : List Str) (f : Str) (c : Str) (ns : List Str) (ds : List D) : fldS cls f (.ins c ns ds) = if c ∈ cls then M.ofO ((ns.zip ds).lookup f) else fun _ => .bad := rfl
@[simp] theorem e_mFld (cls : List Str) (f : Str) (m : M D) (ρ : List Sl) : mFld cls f m ρ = (m ρ).bind (fldS cls f) := rfl
def setF2 (i : Nat) (c f : Str) (t : T) (s : Sl) (ρ' : List Sl) : Option T → SOut
  | some (.ins c' ns ts) => if c' = c ∧ ns.length = ts.length ∧ ns.length < 1000 then .nx (ρ'.set i (s.re (.ins c (putN f ns) (putL f t ns ts)))) else .bad
  | _ => .bad
@[simp] theorem setF2_ins (i : Nat) (c f : Str) (t : T) (s : Sl) (ρ' : List Sl) (c' : Str) (ns : List Str) (ts : List T) : setF2 i c f t s ρ' (some (.ins c' ns ts)) = if c' = c ∧ ns.length = ts.length ∧ ns.length < 1000 then .nx (ρ'.set i (s.re (.ins c (putN f ns) (putL f t ns ts)))) else .bad := rfl
def setF1 (i : Nat) (c f : Str) (t : T) (ρ' : List Sl) : Option Sl → SOut
  | some s => setF2 i c f t s ρ' s.t?
  | none => .bad
@[simp] theorem setF1_some (i : Nat) (c f : Str) (t : T) (ρ' : List Sl) (s : Sl) : setF1 i c f t ρ' (some s) = setF2 i c f t s ρ' s.t? := rfl
def setF0 (i : Nat) (c f : Str) (m : M T) (ρ : List Sl) : Option T → SOut
  | some _ => (m ρ).bindS fun t ρ' => setF1 i c f t ρ' ρ'[i]?
  | none => .bad
@[simp] theorem setF0_some (i : Nat) (c f : Str) (m : M T) (ρ : List Sl) (t : T) : setF0 i c f m ρ (some t) = (m ρ).bindS fun t ρ' => setF1 i c f t ρ' ρ'[i]? := rfl
@[simp] theorem e_mSetF (i : Nat) (c f : Str) (m : M T) (ρ : List Sl) : mSetF i c f m ρ = setF0 i c f m ρ (ρ[i]?.bind Sl.t?) := by
  unfold mSetF
  cases ρ[i]?.bind Sl.t? with
  | none => rfl
  | some t =>
    simp only [setF0_some]
    congr 1
@[simp] theorem putN_nil (f : Str) : putN f [] = [f] := rfl
@[simp] theorem putN_cons (f g : Str) (r : List Str) : putN f (g :: r) = if g = f then g :: r else g :: putN f r := rfl
@[simp] theorem putL_nil (f : Str) (y : α) (xs : List α) : putL f y [] xs = [y] := rfl
@[simp] theorem putL_cons (f g : Str) (y x : α) (r : List Str) (xs : List α) : putL f y (g :: r) (x :: xs) = if g = f then y :: xs else x :: putL f y r xs := rfl
def fldO (i : Nat) (cls : List Str) (f : Str) (ρ : List Sl) : Option T → Out D
  | some (.ins c ns ts) => if c ∈ cls then (match (ns.zip ts).lookup f with
    | some (.sh d) => .ok d ρ
    | _ => .bad) else .bad
  | some (.sh (.ins c ns ds)) => if c ∈ cls then (match (ns.zip ds).lookup f with
    | some d => .ok d ρ
    | _ => .bad) else .bad
  | _ => .bad
@[simp] theorem e_mFldO (i : Nat) (cls : List Str) (f : Str) (ρ : List Sl) : mFldO i cls f ρ = fldO i cls f ρ (ρ[i]?.bind Sl.t?) := by
  unfold mFldO fldO
  rfl
@[simp] theorem ask_lst (yes no : List Str) (ds : List D) : askO yes no (.lst ds) = some false := rfl
@[simp] theorem ask_int (yes no : List Str) (i : Int) : askO yes no (.int i) = some false := rfl
@[simp] theorem ask_non (yes no : List Str) : askO yes no .non = some false := rfl
@[simp] theorem ask_ins (yes no : List Str) (c : Str) (ns : List Str) (vs : List D) : askO yes no (.ins c ns vs) = if c ∈ yes then some true else if c ∈ no then some false else none := rfl
@[simp] theorem e_mTry (i : Nat) (catches : Str → Option Bool) (body : MS) (mh : Exn → MS) (ρ : List Sl) : mTry i catches body mh ρ = match body ρ with
  | .err x ρ' => if i < ρ'.length then (match catches x.c with
    | some true => mh x (ρ'.set i .un)
    | some false => .err x ρ'
    | none => .bad) else .bad
  | o => o := rfl
@[simp] theorem f_isN (d : D) : fIsN d .non = some d.isN := rfl
@[simp] theorem f_notN (d : D) : fNotN d .non = some (!d.isN) := rfl
end
end PD
namespace PD
open PySem PySem.Spec PyProof.Rows L2
@[simp] theorem lk_cons {α : Type} (a k : Str) (b : α) (es : List (Str × α)) : List.lookup a ((k, b) :: es) = if a = k then some b else List.lookup a es := by
  rw [List.lookup_cons]
  by_cases h : a = k
  · simp [h]
  · rw [beq_eq_false_iff_ne.mpr h, if_neg h]
@[simp] theorem fSl_lst (ds : List D) (lo hi : Option Int) : fSl (.lst ds) lo hi = some (.lst ((cut ds lo hi).map .sh)) := rfl
theorem sIx_pos (n d : Nat) (k : Int) (h : 0 ≤ k) : HT.sIx n d (some k) = min k.toNat n := by
  show (if k < 0 then (k + (n : Int)).toNat else min k.toNat n) = _
  rw [if_neg (by omega)]
theorem cut_from {α : Type} (xs : List α) (k : Int) (h : 0 ≤ k) : cut xs (some k) none = xs.drop k.toNat := by
  unfold cut
  rw [sIx_pos _ _ _ h, HT.sIx_none]
  rcases Nat.le_total k.toNat xs.length with z | z
  · rw [Nat.min_eq_left z, List.take_of_length_le (by simp)]
  · rw [Nat.min_eq_right z, List.drop_of_length_le (Nat.le_refl _), List.drop_of_length_le z]
    simp
theorem cut_to {α : Type} (xs : List α) (k : Int) (h : 0 ≤ k) : cut xs none (some k) = xs.take k.toNat := by
  unfold cut
  rw [sIx_pos _ _ _ h, HT.sIx_none]
  rcases Nat.le_total k.toNat xs.length with z | z
  · rw [Nat.min_eq_left z]
    simp
  · rw [Nat.min_eq_right z, List.take_of_length_le z]
    simp
@[simp] theorem fSl_tup1 (x : D) (xs : List D) : fSl (.tup (x :: xs)) (some 1) none = some (.tup (xs.map .sh)) := by
  have e : HT.sIx (x :: xs).length 0 (some 1) = 1 := by
    rw [sIx_pos _ _ _ (by decide)]
    simp
  have c := cut_from (x :: xs) 1 (by decide)
  simp only [fSl]
  rw [if_neg (by rw [e]; simp), c]
  rfl
end PD

set_option Elab.async false
set_option linter.all false
set_option maxRecDepth 100000
set_option maxHeartbeats 2000000
/-! PD: a list comprehension as filter and map; ranges. -/
namespace PD
open PySem PySem.Spec PyProof.Rows L2
theorem mLcGo_eq {vs : List Nat} {g : D → List Sl → Option (List Sl)} {mt : M Bool} {me : M T} {ρw : List Sl} (p : D → Bool) (f : D → T) (ρd : D → List Sl) :
    ∀ (ds : List D) (acc : List T), acc.length + ds.length ≤ sizeLine →
    (∀ d ∈ ds, g d ρw = some (ρd d) ∧ mt (ρd d) = .ok (p d) (ρd d) ∧ wipeS (ρd d) vs = ρw ∧ (p d = true → me (ρd d) = .ok (f d) (ρd d))) →
    mLcGo g mt me vs ds acc ρw = .ok (.lst (acc ++ (ds.filter p).map f)) ρw
  | [], acc, _, _ => by simp [mLcGo]
  | d :: ds, acc, hz, h => by
    obtain ⟨h1, h2, h3, h4⟩ := h d List.mem_cons_self
    have ih := fun acc hz => mLcGo_eq p f ρd ds acc hz fun e he => h e (List.mem_cons_of_mem _ he)
    simp only [List.length_cons] at hz
    cases hp : p d with
    | true =>
      rw [hp] at h2
      simp only [mLcGo, h1, h2, h4 hp]
      rw [if_pos (by omega), h3, ih _ (by simp; omega), List.filter_cons_of_pos hp]
      simp
    | false =>
      rw [hp] at h2
      simp only [mLcGo, h1, h2]
      rw [h3, ih _ (by omega), List.filter_cons_of_neg (by simp [hp])]
theorem mLc_eq {vs : List Nat} {g : D → List Sl → Option (List Sl)} {mi : M (List D)} {mt : M Bool} {me : M T} {ρ ρ1 : List Sl} {ds : List D} (p : D → Bool) (f : D → T) (ρd : D → List Sl)
    (hi : mi ρ = .ok ds ρ1) (hl : litS ρ1 vs = true) (hr : restS ρ1 (wipeS ρ1 vs) vs = ρ1) (hz : ds.length ≤ sizeLine)
    (h : ∀ d ∈ ds, g d (wipeS ρ1 vs) = some (ρd d) ∧ mt (ρd d) = .ok (p d) (ρd d) ∧ wipeS (ρd d) vs = wipeS ρ1 vs ∧ (p d = true → me (ρd d) = .ok (f d) (ρd d))) :
    mLc vs g mi mt me ρ = .ok (.lst ((ds.filter p).map f)) ρ1 := by
  unfold mLc
  rw [hi, ob_ok, if_pos hl, mLcGo_eq p f ρd ds [] (by simpa using hz) h]
  simp only [mLcEnd, hr, List.nil_append]
@[simp] theorem wipe1 (ρ : List Sl) (v : Nat) : wipeS ρ [v] = ρ.set v .un := rfl
@[simp] theorem wipe2 (ρ : List Sl) (v w : Nat) : wipeS ρ [v, w] = (ρ.set w .un).set v .un := rfl
@[simp] theorem rest1 (ρ ρ' : List Sl) (v : Nat) : restS ρ ρ' [v] = ρ'.set v (ρ[v]?.getD .un) := rfl
@[simp] theorem rest2 (ρ ρ' : List Sl) (v w : Nat) : restS ρ ρ' [v, w] = (ρ'.set w (ρ[w]?.getD .un)).set v (ρ[v]?.getD .un) := rfl
@[simp] theorem e_mYes (ρ : List Sl) : mYes ρ = .ok true ρ := rfl
theorem rngD_int (lo : Int) (n : Nat) : rngD lo n = ((List.range n).map fun (i : Nat) => lo + (i : Int)).map D.int := by
  simp [rngD, Function.comp_def]
theorem f_rng1 (j : Int) (h : 0 ≤ j) (h1 : j < 1000000000) : fRng1 [.int j] = some (((List.range j.toNat).map fun (i : Nat) => (i : Int)).map D.int) := by
  show (if -(2 ^ 62) ≤ j ∧ j < 2 ^ 62 then some (rngD 0 j.toNat) else none) = _
  rw [if_pos ⟨by omega, by omega⟩, rngD_int]
  simp
theorem f_rng2 (i j : Int) (h : -1000000000 ≤ i) (h1 : i < 1000000000) (h2 : -1000000000 ≤ j) (h3 : j < 1000000000) : fRng2 [.int i, .int j] = some (((List.range (j - i).toNat).map fun (k : Nat) => i + (k : Int)).map D.int) := by
  show (if -(2 ^ 62) ≤ i ∧ i < 2 ^ 62 ∧ -(2 ^ 62) ≤ j ∧ j < 2 ^ 62 then some (rngD i (j - i).toNat) else none) = _
  rw [if_pos ⟨by omega, by omega, by omega, by omega⟩, rngD_int]
end PD
namespace PD
open PySem PySem.Spec PyProof.Rows L2
theorem eqvs_ints : ∀ xs ys : List Int, D.eqvs (xs.map .int) (ys.map .int) = decide (xs = ys)
  | [], [] => by simp [D.eqvs]
  | [], y :: ys => by simp [D.eqvs]
  | x :: xs, [] => by simp [D.eqvs]
  | x :: xs, y :: ys => by
    simp only [List.map_cons, D.eqvs, eqvs_ints xs ys, D.eqv]
    by_cases h : x = y <;> by_cases h2 : xs = ys <;> simp [h, h2]
theorem shal_ints (n : Nat) (xs : List Int) : (xs.map D.int).all (D.shal n) = true := by
  induction xs with
  | nil => rfl
  | cons x xs ih => simp
@[simp] theorem f_eq_il (xs ys : List Int) : fEq (.lst (xs.map .int)) (.lst (ys.map .int)) = some (decide (xs = ys)) := by
  show (if D.shal 60 _ = true ∧ D.shal 60 _ = true then some (D.eqv _ _) else none) = _
  rw [if_pos ⟨by rw [D.shal_lst]; exact shal_ints _ _, by rw [D.shal_lst]; exact shal_ints _ _⟩]
  simp only [D.eqv, eqvs_ints]
@[simp] theorem f_ne_il (xs ys : List Int) : fNe (.lst (xs.map .int)) (.lst (ys.map .int)) = some (!decide (xs = ys)) := by
  show (if D.shal 60 _ = true ∧ D.shal 60 _ = true then some (!D.eqv _ _) else none) = _
  rw [if_pos ⟨by rw [D.shal_lst]; exact shal_ints _ _, by rw [D.shal_lst]; exact shal_ints _ _⟩]
  simp only [D.eqv, eqvs_ints]
theorem f_eq_it (xs ys : List Int) : fEq (.tup (xs.map .int)) (.tup (ys.map .int)) = some (decide (xs = ys)) := by
  show (if D.shal 60 _ = true ∧ D.shal 60 _ = true then some (D.eqv _ _) else none) = _
  rw [if_pos ⟨by rw [D.shal_tup]; exact shal_ints _ _, by rw [D.shal_tup]; exact shal_ints _ _⟩]
  simp only [D.eqv, eqvs_ints]
theorem f_ne_it (xs ys : List Int) : fNe (.tup (xs.map .int)) (.tup (ys.map .int)) = some (!decide (xs = ys)) := by
  show (if D.shal 60 _ = true ∧ D.shal 60 _ = true then some (!D.eqv _ _) else none) = _
  rw [if_pos ⟨by rw [D.shal_tup]; exact shal_ints _ _, by rw [D.shal_tup]; exact shal_ints _ _⟩]
  simp only [D.eqv, eqvs_ints]
@[simp] theorem f_eq_bl (a b : Bool) : fEq (.bl a) (.bl b) = some (a == b) := by
  show (if D.shal 60 _ = true ∧ D.shal 60 _ = true then some (D.eqv _ _) else none) = _
  rw [if_pos ⟨by simp, by simp⟩]
  simp only [D.eqv]
theorem mem_ints (v : Int) : ∀ xs : List Int, D.mem (.int v) (xs.map .int) = decide (v ∈ xs)
  | [] => by simp [D.mem]
  | x :: xs => by
    have ih := mem_ints v xs
    simp only [D.mem] at ih ⊢
    rw [List.map_cons, List.any_cons, ih]
    simp only [D.eqv]
    by_cases h : x = v
    · subst h
      simp
    · have h' : ¬ v = x := fun e => h e.symm
      have hb : (x == v) = false := beq_eq_false_iff_ne.mpr h
      by_cases h2 : v ∈ xs <;> simp [h', hb, h2]
@[simp] theorem f_in_il (v : Int) (xs : List Int) : fIn (.int v) (.lst (xs.map .int)) = some (decide (v ∈ xs)) := by
  show (if D.shal 60 (.int v) = true ∧ (xs.map D.int).all (D.shal 59) = true then some (D.mem (.int v) (xs.map .int)) else none) = _
  rw [if_pos ⟨by simp, shal_ints _ _⟩, mem_ints]
@[simp] theorem f_nin_il (v : Int) (xs : List Int) : fNotIn (.int v) (.lst (xs.map .int)) = some (!decide (v ∈ xs)) := by
  show (fIn _ _).map _ = _
  rw [f_in_il]
  rfl
end PD
namespace PD
open PySem PySem.Spec PyProof.Rows L2
theorem atI_ints (xs : List Int) (i : Int) (h0 : 0 ≤ i) (h1 : i < xs.length) : atI (xs.map D.int) i = some (.int (xs.getD i.toNat 0)) := by
  rw [atI_map, atI_in h0 h1]
  have : i.toNat < xs.length := by omega
  simp [List.getD, List.getElem?_eq_getElem this]
end PD

set_option Elab.async false
set_option linter.all false
set_option maxRecDepth 100000
set_option maxHeartbeats 2000000
/-! PD: owned lists of ints, as simp sees them. -/
namespace PD
open PySem PySem.Spec PyProof.Rows L2
/-- an owned list of ints -/
def tl (xs : List Int) : T := .lst (xs.map fun i => .sh (.int i))
@[simp] theorem tl_fold (xs : List Int) : T.lst (List.map (T.sh ∘ D.int) xs) = tl xs := rfl
@[simp] theorem tl_fold2 (xs : List Int) : T.lst (List.map (fun i => T.sh (D.int i)) xs) = tl xs := rfl
@[simp] theorem tl_nil : T.lst [] = tl [] := rfl
@[simp] theorem tl_d (xs : List Int) : (tl xs).d = il xs := by
  simp [tl, Function.comp_def, -tl_fold, -tl_fold2]
@[simp] theorem nmS_tl (i : Nat) (ρ : List Sl) (xs : List Int) : nmS i ρ (some (.v (tl xs))) = .ok (il xs) (ρ.set i (dS (il xs))) := by
  show Out.ok (tl xs).d (ρ.set i (.v (.sh (tl xs).d))) = _
  rw [tl_d]
@[simp] theorem item_tl (xs : List Int) (i : Int) : (tl xs).item i = (atI xs i).map .int := by
  show (atI _ i).bind shT = _
  have e : (xs.map fun i => T.sh (D.int i)) = xs.map (fun i => T.sh (D.int i)) := rfl
  rw [atI_map]
  cases atI xs i <;> rfl
@[simp] theorem app0_tl (i : Nat) (m : M T) (ρ : List Sl) (xs : List Int) : app0 i m ρ (some (tl xs)) = (m ρ).bindS fun t ρ' => app1 i t ρ' ρ'[i]? := rfl
@[simp] theorem app2_tl (i : Nat) (x : Int) (s : Sl) (ρ : List Sl) (xs : List Int) (h : xs.length ≤ 1000000) : app2 i (.sh (.int x)) s ρ (some (tl xs)) = .nx (ρ.set i (s.re (tl (xs ++ [x])))) := by
  unfold tl
  rw [app2_lst _ _ _ _ _ (by simp [sizeLine]; omega)]
  simp [tl, -tl_fold, -tl_fold2]
@[simp] theorem six0_tl (i : Nat) (mi : M D) (d : D) (ρ : List Sl) (xs : List Int) : six0 i mi d ρ (some (tl xs)) = (mi ρ).bindS (six1 i d) := rfl
def sixT (i : Nat) (s : Sl) (x : Int) (ρ : List Sl) (xs : List Int) : Option Nat → SOut
  | some j => .nx (ρ.set i (s.re (tl (xs.set j x))))
  | none => .bad
@[simp] theorem sixT_some (i : Nat) (s : Sl) (x : Int) (ρ : List Sl) (xs : List Int) (j : Nat) : sixT i s x ρ xs (some j) = .nx (ρ.set i (s.re (tl (xs.set j x)))) := rfl
@[simp] theorem six3_tl (i : Nat) (s : Sl) (x : Int) (k : Int) (ρ : List Sl) (xs : List Int) : six3 i s (.int x) k ρ (some (tl xs)) = sixT i s x ρ xs (ixN xs.length k) := by
  show six4 i s (.int x) _ ρ (ixN _ k) = _
  rw [List.length_map]
  cases ixN xs.length k with
  | none => rfl
  | some j =>
    simp [tl, List.map_set, -tl_fold, -tl_fold2]
@[simp] theorem fLst_tl (xs : List Int) (h : xs.length ≤ 1000000) : fLstD (xs.map D.int) = some (tl xs) := by
  rw [fLst_ints xs h]
  simp
end PD
namespace PD
open PySem PySem.Spec PyProof.Rows L2
theorem rng1 (ms : M (List D)) (ρ ρ1 : List Sl) (j : Int) (h : ms ρ = .ok [.int j] ρ1) (h0 : 0 ≤ j) (h1 : j < 1000000000) : mRng fRng1 ms ρ = .ok (((List.range j.toNat).map fun (i : Nat) => (i : Int)).map D.int) ρ1 := by
  have r := f_rng1 j h0 h1
  generalize fRng1 = f at *
  rw [e_mRng, h, ob_ok, r, e_ofO_some]
theorem rng2 (ms : M (List D)) (ρ ρ1 : List Sl) (i j : Int) (h : ms ρ = .ok [.int i, .int j] ρ1) (h0 : -1000000000 ≤ i) (h1 : i < 1000000000) (h2 : -1000000000 ≤ j) (h3 : j < 1000000000) : mRng fRng2 ms ρ = .ok (((List.range (j - i).toNat).map fun (k : Nat) => i + (k : Int)).map D.int) ρ1 := by
  have r := f_rng2 i j h0 h1 h2 h3
  generalize fRng2 = f at *
  rw [e_mRng, h, ob_ok, r, e_ofO_some]
end PD

set_option Elab.async false
set_option linter.all false
set_option maxRecDepth 100000
set_option maxHeartbeats 2000000
/-! PD: rules for simp: slots hidden and lent, pop and insert, list(range()), calls of fresh values. -/
namespace PD
open PySem PySem.Spec PyProof.Rows L2
section
variable {α β γ : Type}
@[simp] theorem map_ok (f : List Sl → List Sl) (a : α) (ρ : List Sl) : (Out.ok a ρ).map f = .ok a (f ρ) := rfl
def hideO (j : Nat) (m : M α) (ρ : List Sl) : Option Sl → Out α
  | some s => (m (ρ.set j .un)).map fun ρ' => ρ'.set j s
  | none => .bad
@[simp] theorem hideO_some (j : Nat) (m : M α) (ρ : List Sl) (s : Sl) : hideO j m ρ (some s) = (m (ρ.set j .un)).map fun ρ' => ρ'.set j s := rfl
@[simp] theorem e_mHide (j : Nat) (m : M α) (ρ : List Sl) : mHide j m ρ = hideO j m ρ ρ[j]? := by
  unfold mHide hideO
  rfl
open Classical in
noncomputable def borR (i : Nat) (ρ : List Sl) (t : T) : Out T → Out T
  | .ok r ρ' => if r.scal = true ∧ ρ' = ρ.set i (.v (.sh t.d)) ∧ (ρ.set i (.v (.sh t.d))).all Sl.okB = true then .ok r ρ else .bad
  | _ => .bad
theorem borR_ok (i : Nat) (ρ : List Sl) (t r : T) (ρ' : List Sl) (h1 : r.scal = true) (h2 : ρ' = ρ.set i (.v (.sh t.d))) (h3 : (ρ.set i (.v (.sh t.d))).all Sl.okB = true) : borR i ρ t (.ok r ρ') = .ok r ρ := by
  simp only [borR]
  rw [if_pos ⟨h1, h2, h3⟩]
theorem bor_eq (i : Nat) (m : M T) (ρ : List Sl) (s : Sl) (t r : T) (h0 : ρ[i]? = some s) (h1 : s.t? = some t) (h2 : m (ρ.set i (.v (.sh t.d))) = .ok r (ρ.set i (.v (.sh t.d)))) (h3 : r.scal = true) (h4 : (ρ.set i (.v (.sh t.d))).all Sl.okB = true) : mBor i m ρ = .ok r ρ := by
  unfold mBor
  simp only [h0, h1, h2]
  rw [if_pos ⟨h3, trivial, h4⟩]
@[simp] theorem scal_bl (b : Bool) : (T.sh (.bl b)).scal = true := rfl
@[simp] theorem scal_int (b : Int) : (T.sh (.int b)).scal = true := rfl
@[simp] theorem okB_un : Sl.okB .un = true := rfl
@[simp] theorem okB_sh (d : D) : Sl.okB (.v (.sh d)) = true := rfl
theorem okB_v (t : T) (h : t.scal = true) : Sl.okB (.v t) = true := by
  cases t <;> first | rfl | exact h
theorem okB_p (k : Nat) (t : T) (h : t.scal = true) : Sl.okB (.p k t) = true := h
theorem scal_lst (ts : List T) (h : ts.all T.scal = true) : (T.lst ts).scal = true := by
  rw [T.scal, T.scals_all]
  exact h
theorem scal_tl (xs : List Int) : (tl xs).scal = true := by
  unfold tl
  refine scal_lst _ ?_
  simp
@[simp] theorem okB_tl (xs : List Int) : Sl.okB (.v (tl xs)) = true := okB_v _ (scal_tl xs)
def lenV1 (ρ : List Sl) : Option Nat → Out D
  | some n => .ok (.int n) ρ
  | none => .bad
@[simp] theorem lenV1_some (ρ : List Sl) (n : Nat) : lenV1 ρ (some n) = .ok (.int n) ρ := rfl
@[simp] theorem e_mLenV (i : Nat) (ρ : List Sl) : mLenV i ρ = lenV1 ρ ((ρ[i]?.bind Sl.t?).bind T.len) := by
  unfold mLenV lenV1
  rfl
@[simp] theorem len_tl (xs : List Int) : (tl xs).len = some xs.length := by
  show some (List.map _ xs).length = _
  rw [List.length_map]
@[simp] theorem len_sh_lst (ds : List D) : (T.sh (.lst ds)).len = some ds.length := rfl
@[simp] theorem drop_ok (n : Nat) (t : T) (ρ : List Sl) : mDrop n (.ok t ρ) = if n < ρ.length then .ok t (ρ.take n) else .bad := rfl
@[simp] theorem e_mCallT (F m : M T) (ms : M (List AV)) (ρ : List Sl) : mCallT F m ms ρ = (m ρ).bind fun t ρ1 => (ms ρ1).bind fun as ρ2 => mDrop ρ2.length (callO F (.own ρ2.length :: as) (ρ2 ++ [.v t])) := rfl
theorem pop_tl (i : Nat) (m : M D) (ρ : List Sl) (xs : List Int) (k : Nat) (h0 : ρ[i]? = some (.v (tl xs))) (h1 : m ρ = .ok (.int k) ρ) (hk : k < xs.length) (hz : xs.length ≤ 1000000) :
    mPopAt i m ρ = .ok (.int (xs.getD k 0)) (ρ.set i (.v (tl (xs.eraseIdx k)))) := by
  have e1 : ρ[i]?.bind Sl.t? = some (tl xs) := by
    rw [h0]
    rfl
  have e2 : (xs.map fun i => T.sh (D.int i))[k]? = some (T.sh (.int (xs.getD k 0))) := by
    simp [List.getD, List.getElem?_eq_getElem hk]
  have e3 : ixN (xs.map fun i => T.sh (D.int i)).length (k : Int) = some k := by
    rw [ixN_in (by omega) (by rw [List.length_map]; omega)]
    rfl
  have e5 : T.lst ((xs.map fun i => T.sh (D.int i)).eraseIdx k) = tl (xs.eraseIdx k) := by
    unfold tl
    simp [List.eraseIdx_eq_take_drop_succ, List.map_take, List.map_drop, -tl_fold, -tl_fold2]
  unfold mPopAt
  rw [e1]
  show (m ρ).bind _ = _
  rw [h1, ob_ok]
  simp only [h0, t_v, tl, e3, e2]
  rw [if_pos ⟨by omega, by omega⟩, e5]
  rfl
theorem ins_tl (i : Nat) (m1 m2 : M D) (ρ : List Sl) (xs : List Int) (k : Nat) (x : Int) (h0 : ρ[i]? = some (.v (tl xs))) (h1 : m1 ρ = .ok (.int k) ρ) (h2 : m2 ρ = .ok (.int x) ρ) (hk : k ≤ 1000000) (hz : xs.length ≤ 1000000) :
    mIns i m1 m2 ρ = .nx (ρ.set i (.v (tl (xs.take k ++ x :: xs.drop k)))) := by
  have e1 : ρ[i]?.bind Sl.t? = some (tl xs) := by
    rw [h0]
    rfl
  have e5 : T.lst ((xs.map fun i => T.sh (D.int i)).take k ++ [T.sh (.int x)] ++ (xs.map fun i => T.sh (D.int i)).drop k) = tl (xs.take k ++ x :: xs.drop k) := by
    unfold tl
    simp [List.map_take, List.map_drop, -tl_fold, -tl_fold2]
  unfold mIns
  rw [e1]
  show (m1 ρ).bindS _ = _
  rw [h1, obs_ok, h2, obs_ok]
  simp only [h0, t_v, tl]
  rw [if_pos ⟨by simp [sizeLine]; omega, by omega, by omega⟩, Int.toNat_natCast, e5]
  rfl
theorem lrng2_eq (ma mb : M D) (ρ : List Sl) (i n : Int) (h1 : ma ρ = .ok (.int i) ρ) (h2 : mb ρ = .ok (.int n) ρ) (a : -1000000 ≤ i ∧ i ≤ 1000000) (b : -1000000 ≤ n ∧ n ≤ 1000000) :
    mLRng2 ma mb ρ = .ok (tl ((List.range (n - i).toNat).map fun (k : Nat) => i + (k : Int))) ρ := by
  unfold mLRng2
  rw [h1, ob_ok, h2, ob_ok]
  have g : rgOkB i n = true := by
    unfold rgOkB
    rw [decide_eq_true_eq]
    refine ⟨by omega, by omega, by omega, by omega, by omega⟩
  simp only [g, if_true]
  rw [rngD_int]
  simp [tl, -tl_fold, -tl_fold2]
theorem f_add_il (xs ys : List Int) (h : xs.length + ys.length ≤ 1000000) : fAdd (.lst (xs.map .int)) (.lst (ys.map .int)) = some (tl (xs ++ ys)) := by
  show (if _ then _ else _) = _
  rw [if_pos (by simp [sizeLine]; omega)]
  simp [tl, -tl_fold, -tl_fold2, Function.comp_def]
end
end PD

set_option Elab.async false
set_option linter.all false
set_option maxRecDepth 100000
set_option maxHeartbeats 2000000
/-! PD: a for in a generator's body. -/
namespace PD
open PySem PySem.Spec PyProof.Rows L2 GenW
section
variable {X : Cx} {tg iter : Expr} {body : List Stmt} {pos : Pos} {wi : TI} {g : TG} {tb : TGn}
def tGFor (wi : TI) (g : TG) (tb : TGn) : TGn := fun D ys σ H => wi σ H fun J H1 => ∃ W : Nat → Nat → List V → L2.St → Hp → Prop, (∃ m, W 0 m ys σ H1) ∧ ∀ i m ys σ H, W i m ys σ H →
  (J.stop i H ∧ D.nx ys σ H) ∨ (J.go i H ∧ ∃ N : List V → L2.St → Hp → Prop, (∀ ys' σ' H', N ys' σ' H' → ∃ m', m' < m ∧ W (i + 1) m' ys' σ' H') ∧
    ∀ x H', J.yld i H x H' → g x σ H' fun σ2 H2 => tb { D with nx := N, ct := N, bk := D.nx } ys σ2 H2)
theorem gs_for (hp : PassesOwn (model X.prog X.w) X.A X.env X.xe) (hc : X.calm = true) (hi : PI X tg iter wi) (hg : PG X tg g) (hb : GSs X body tb)
    (hs : ∀ x, foldedSetIterable iter X.env x = pure x := by intro _; rfl) : GS X (.For tg iter body [] pos) (tGFor wi g tb) := by
  refine ⟨fun A S ip R n ys s₀ c fs K J gd lv s σ H D gc hn k hI ht => ?_⟩
  obtain ⟨acc, cc, r, I⟩ := hI
  rw [exec_For]
  refine seg_bind_wrap (wpAny_standAt ?_)
  refine seg_bind_wrap ?_
  rw [gc.over]
  refine wpAny_mono (hi.run _ s σ H _ I ht) (fun v s1 h1 => ?_) fun x s' hx => k.exc n s₀ x s' hx
  refine seg_bind_wrap (wpAny_of_eq (hs v) ?_)
  refine seg_bind_wrap (wpAny_standAt ?_)
  refine seg_bind_wrap (wpAny_holding ?_)
  rw [gc.over]
  refine wpAny_mono h1 (fun itv s2 h2 => ?_) fun x s' hx => k.exc n s₀ x s' hx
  obtain ⟨it, fp, tn, Jt, H2, e, I2, T, st2, f2, W, ⟨m0, w0⟩, turn⟩ := h2
  subst e
  refine seg_call fun p => ?_
  have hfs : ∀ b ∈ fp, S ≠ b := fun b hb => (f2 b hb).2.2.2.2.2 (S, lstObj acc cc) (List.mem_append_right _ List.mem_cons_self)
  have hfi : ∀ b ∈ fp, ∀ q ∈ X.pn ++ ip, q.1 ≠ b := fun b hb q hq => (f2 b hb).2.2.2.2.2 q (by
    rcases List.mem_append.mp hq with h | h
    · exact List.mem_append_left _ h
    · exact List.mem_append_right _ (List.mem_cons_of_mem _ h))
  have stat : ∀ {acc' : Array Value} {c' : Nat} {H' : Hp}, (∀ b ∈ fp, H' b = none) → ∀ b ∈ fp, FpOk X ((S, lstObj acc' c') :: ip) H' b := fun {acc' c' H'} hn b hb => by
    obtain ⟨_, a2, a3, a4, a5, _⟩ := f2 b hb
    refine ⟨hn b hb, a2, a3, a4, a5, fun q hq => ?_⟩
    rcases List.mem_append.mp hq with h | h
    · exact hfi b hb q (List.mem_append_left _ h)
    · rcases List.mem_cons.mp h with h | h
      · rw [h]
        exact hfs b hb
      · exact hfi b hb q (List.mem_append_right _ h)
  have gl := fun (kk : Result → Sem PySem.Fin) => gc_loop (k := kk) (c' := .forLoop tg (.ref it) body [] X.env) (l := lv []) (kp := []) (p := p) gc rfl rfl
  have loop : ∀ (m i n : Nat) (ys : List V) (s₀ s : Shared) (σ : L2.St) (H : Hp), n + ys.length = sizeLine → W i m ys σ H → GI X S ip ys σ H s → tn i s.heap → (∀ b ∈ fp, H b = none) →
      Seg (model X.prog X.w) A R (GY X S) n s₀ (.forLoop tg (.ref it) body [] X.env) ((model X.prog X.w).den (.forLoop tg (.ref it) body [] X.env))
        (.ret (fun z => ((match z with | .ok h => (.pure h : Sem Flow) | .error y => .raise y).onRaise (cameBack X.env)).wrap K J gd lv) none (gd false) (lv []) c p [] :: fs) s := by
    intro m
    induction m using Nat.strongRecOn with
    | ind m ih =>
      intro i n ys s₀ s σ H hn w hI st fr
      have ee : ∀ (n : Nat) (s₀ : Shared) (x : Value) (s' : Shared), X.xe x s' → Seg (model X.prog X.w) A R (GY X S) n s₀ (.forLoop tg (.ref it) body [] X.env)
          ((do noteFrame x X.env; theTreesLotGoes x : Sem Unit).bind fun _ => .raise x)
          (.ret (fun z => ((match z with | .ok h => (.pure h : Sem Flow) | .error y => .raise y).onRaise (cameBack X.env)).wrap K J gd lv) none (gd false) (lv []) c p [] :: fs) s' := fun n s₀ x s' hx => by
        rw [Sem.bind_eq_wrap]
        refine seg_wrap ?_
        rw [(gl _).over]
        refine wpAny_bind (wpAny_mono (hp x s' hx) (fun _ s8 back => wpAny_theTreesLotGoes ?_) fun y s8 back => ?_)
        · exact seg_leaf (.error x) (seg_cameBack gc k back)
        · exact seg_leaf (.error y) (seg_cameBack gc k back)
      obtain ⟨acc, cc, r, I⟩ := hI
      show Seg _ A R _ _ _ _ ((forTurn tg (.ref it) body [] X.env).onRaise (fun x => do noteFrame x X.env; theTreesLotGoes x)) _ _
      unfold forTurn
      rw [Sem.onRaise_eq_wrap]
      refine seg_bind_wrap (wpAny_standAt ?_)
      refine seg_bind_wrap ?_
      rw [(gl _).over]
      rcases turn i m ys σ H w with ⟨stop, qn⟩ | ⟨go, N, hN, step⟩
      · refine wpAny_onRaise (wpAny_mono (T.done X rfl rfl rfl hc i _ s σ H (fun _ _ => False) I (stat fr) st stop) (fun u s4 hu => ?_) fun _ _ x => x.elim)
        obtain ⟨rfl, I4⟩ := hu
        refine seg_again rfl ?_
        refine seg_leaf (.ok .next) ?_
        exact k.ok n ys s₀ s4 .next hn ⟨σ, H, ⟨acc, cc, r, I4⟩, qn⟩
      · refine wpAny_onRaise (wpAny_mono (T.item X rfl rfl rfl hc i _ s σ H (fun _ _ => False) I (stat fr) st go) (fun u s4 hu => ?_) fun _ _ x => x.elim)
        obtain ⟨v, rfl, h4⟩ := hu
        refine seg_bind_wrap ?_
        rw [(gl _).over]
        refine wpAny_mono h4 (fun _ s5 h5 => ?_) fun _ _ x => x.elim
        obtain ⟨x, H5, I5, r5, y5, st5, fr5⟩ := h5
        have J5 := I5.pinned (stat fr5) (T.obj _ _ st5)
        refine seg_bind_wrap ?_
        rw [(gl _).over]
        refine wpAny_mono (hg.run _ s5 σ H5 x v _ J5 r5 (step x H5 y5)) (fun _ s6 h6 => ?_) fun x s' hx => ee n s₀ x s' hx
        obtain ⟨σ6, H6, I6, q6⟩ := h6
        have glb := gl (fun z => ((match z with | .ok h => (.pure h : Sem Flow) | .error y => .raise y).onRaise (cameBack X.env)).wrap K J gd lv)
        have gb : GC X S (ip ++ pinsAt fp s5.heap) A (.forLoop tg (.ref it) body [] X.env) (.ret (fun z => ((match z with | .ok h => (.pure h : Sem Flow) | .error y => .raise y).onRaise (cameBack X.env)).wrap K J gd lv) none (gd false) (lv []) c p [] :: fs) id :=
          ⟨glb.pn, fun q hq => by
            rcases List.mem_append.mp hq with h | h
            · exact glb.ip q h
            · exact (hfs q.1 (of_pinsAt h).1).symm, glb.apart, glb.over, glb.split, glb.guard, glb.gd⟩
        have down : ∀ {ys' : List V} {σ' : L2.St} {H' : Hp} {s' : Shared}, GI X S (ip ++ pinsAt fp s5.heap) ys' σ' H' s' → GI X S ip ys' σ' H' s' ∧ tn (i + 1) s'.heap ∧ ∀ b ∈ fp, H' b = none := fun {ys' σ' H' s'} hG => by
          obtain ⟨a', c', r', J'⟩ := hG
          have J2 : Inv X (((S, lstObj a' c') :: ip) ++ pinsAt fp s5.heap) σ' H' s' := J'
          refine ⟨⟨a', c', r', J2.pins_of fun q hq => ?_⟩, T.keep _ _ _ st5 fun b hb o e => (J2.pin (b, o) (List.mem_append_right _ (List.mem_append_right _ (mem_pinsAt hb e)))).1, fun b hb => ?_⟩
          · exact J2.pin q (List.mem_append_right _ (List.mem_append_left _ hq))
          · obtain ⟨o, e, d⟩ := T.obj _ _ st5 b hb
            exact (J2.pin (b, o) (List.mem_append_right _ (List.mem_append_right _ (mem_pinsAt hb e)))).2.1
        rw [Sem.bind_eq_wrap', Sem.wrap_wrap]
        refine hb.run A S (ip ++ pinsAt fp s5.heap) R n ys s₀ _ _ _ _ _ _ s6 σ6 H6 { D with nx := N, ct := N, bk := D.nx } gb hn ⟨fun n' ys' s₀' s7 f hn' hs7 => ?_, fun n' s₀' x' s' hx => ee n' s₀' x' s' hx⟩ ⟨acc, cc, r, I6⟩ q6
        cases f with
        | next =>
          obtain ⟨σ7, H7, G7, n7⟩ := hs7
          obtain ⟨m', hm, w7⟩ := hN ys' σ7 H7 n7
          obtain ⟨d1, d2, d3⟩ := down G7
          exact seg_again rfl (ih m' hm (i + 1) n' ys' s₀' s7 σ7 H7 hn' w7 d1 d2 d3)
        | cont =>
          obtain ⟨σ7, H7, G7, n7⟩ := hs7
          obtain ⟨m', hm, w7⟩ := hN ys' σ7 H7 n7
          obtain ⟨d1, d2, d3⟩ := down G7
          exact seg_again rfl (ih m' hm (i + 1) n' ys' s₀' s7 σ7 H7 hn' w7 d1 d2 d3)
        | brk =>
          obtain ⟨σ7, H7, G7, n7⟩ := hs7
          exact seg_leaf (.ok .next) (k.ok n' ys' s₀' s7 .next hn' ⟨σ7, H7, (down G7).1, n7⟩)
        | ret v7 =>
          obtain ⟨x7, σ7, H7, G7, r7, n7⟩ := hs7
          exact seg_leaf (.ok (.ret v7)) (k.ok n' ys' s₀' s7 (.ret v7) hn' ⟨x7, σ7, H7, (down G7).1, r7, n7⟩)
  exact loop m0 0 n ys s₀ s2 σ H2 hn w0 ⟨acc, cc, r, I2⟩ st2 fun b hb => (f2 b hb).1
end
end PD

set_option Elab.async false
set_option linter.all false
set_option maxRecDepth 100000
set_option maxHeartbeats 2000000
/-! PD: list(f(..)) of a generator def that may raise. -/
namespace PD
open PySem PySem.Spec PyProof.Rows L2 GenW
section
variable {X : Cx} {k : Nat} {f : Addr} {fd : FuncData} {ps : List Str} {sp : SpG} {ds : List Value} {dvs : List V} {x : Str} {p pos' pos : Pos}
/-- a generator that has not begun; its exception's wish may look at the store -/
structure PGenS (X : Cx) (k : Nat) (e : Expr) (tg : TGen) (E : L2.St → XK) : Prop where
  go : ∀ (pl : List (Addr × Obj)) (s : Shared) (σ : L2.St) (H : Hp) (goal : List V → Hp → Prop), Inv X pl σ H s → tg σ H goal →
    wpAny (model X.prog X.w) X.A (eval e X.env) (fun u s1 => ∃ H1 sc ex, Inv X pl σ H1 sc ∧ ExOk X pl ex ∧ GMade X.prog X.w k X.stack H1 sc ex goal (E σ) u s1) X.xe s
def tCallGS (sp : SpG) (dvs : List V) (E : L2.St → XK) (t : TA) : TGen := fun σ H goal => t σ H fun vs H1 => sp (vs ++ dvs) H1 goal (E σ)
theorem pgenS_call {E : L2.St → XK} {e : Expr} {es : List Expr} {t : TA} (F : GFn X.prog X.w X.K X.mg X.base k f fd ps sp) (hr : Room k X.A) (hg : Gl X x) (hm : X.mg x = some (.ref f)) (hk : PySem.W.keepIn X.K (.ref f) = true) (hb : Binds X.K fd ps ds) (hd : Vals dvs ds)
    (ha : PA X (e :: es) t) (hdb : (x == ("__debug__" : Str)) = false := by decide) (he : starEach (e :: es) X.env = (false, eval e X.env) :: starEach es X.env := by rfl) (hpl : (backTo pos' (starEach es X.env)).any (·.1) = false := by rfl) :
    PGenS X k (.Call (.Name x p) (e :: es) [] pos') (tCallGS sp dvs E t) E := by
  refine ⟨fun pl s σ H goal I h => ?_⟩
  refine wpAny_Call_Name_kw (ld_glob I hg hm ?_ hdb)
  exact PySem.W.callWith_K (h₀ := X.base) I.ok.mod.kin hk (thn (ha.run pos' pl s σ H _ I h) fun us s1 ⟨vs, H1, J, r, q⟩ => ⟨J.kIn, run_gfn F hr hb hd J r q⟩) he hpl
/-- list(g) -/
theorem pe_listGS {e : Expr} {tg : TGen} {E : L2.St → XK} {nm : Str} (h : PGenS X k e tg E) (hx : ∀ σ, PassesAt (CX X.prog X.w) X σ (E σ)) (hns : ∀ σ, NoStop X.K (E σ)) (hr : Room (k + 3) X.A) (hg : Gl X nm) (hmg : X.mg nm = none) (hv : bootBuiltins nm = some (.type "list")) (hnm : nm ≠ "__name__" := by decide) (hdb : (nm == ("__debug__" : Str)) = false := by decide)
    (he : starEach [e] X.env = (false, eval e X.env) :: starEach [] X.env := by rfl) : PE X (.Call (.Name nm p) [e] [] pos) (tListG tg) := by
  refine ⟨fun pl s σ H Q I hq => ?_⟩
  refine wpAny_Call_Name_kw (ld_blt I hg hmg hv ?_ hnm hdb)
  refine PyProof.Rows.callWith_type1 ?_ he rfl
  rw [he]
  show wpAny _ _ (spliced ((false, eval e X.env) :: backTo pos (starEach [] X.env))) _ _ s
  refine Calls.spliced_cons (thn (h.go pl s σ H _ I hq) fun u s1 ⟨H1, sc, ex, J, hex, hG⟩ => Calls.spliced_nil ?_)
  have hsz : sc.heap.objs.size ≤ s1.heap.objs.size := by
    obtain ⟨a, g, c, _, g1, g2, _⟩ := hG
    exact Nat.le_trans g1 (Nat.le_of_lt g2)
  refine call_list_new hr J.ok.frames hG (fun S s2 acc c H2 ys q0 q1 q2 hl q3 q4 q5 q6 q7 q8 => ⟨.ref S, upd H2 S (.lst ys), J.drained (Nat.le_trans hsz q0) hl q1 q2 hex q3 q4 q5 q6 q7, rfl, q8 S q7⟩) fun e s2 g hc => ?_
  have kin : X.K.In s2.heap := by
    obtain ⟨a, B, H2, cls, d, _, fl, _, ub, _⟩ := id hc
    refine J.ok.mod.kin.keeps fun b o eb => fl.1 b o (ub.keep b o (J.bs b o eb).1 (J.bs b o eb).2 fun hm => ?_)
    rcases List.mem_cons.mp (J.stkSub b hm) with z | z
    · have g1 := Heap.lt_size eb
      have g2 := Nat.le_trans J.ok.bsz J.ok.above
      rw [z] at g1
      exact absurd (Nat.lt_of_lt_of_le g1 g2) (Nat.lt_irrefl _)
    · exact J.ok.nofr eb z
  refine ⟨notStop_of (hns σ) kin hc, hx σ pl H1 sc e _ J ?_⟩
  obtain ⟨a, B, H2, cls, d, z1, fl, z2, ub, z3, z4, z5, z6⟩ := hc
  exact ⟨a, B, H2, cls, d, z1, fl, z2, ub, z3, z4, allBare_setGen z5 rfl, z6⟩
end
end PD

set_option Elab.async false
set_option linter.all false
set_option maxRecDepth 100000
set_option maxHeartbeats 2000000
/-! PD: generator defs: what a body hands out; the def's promise; list(f(..)). -/
namespace PD
open PySem PySem.Spec PyProof.Rows L2 GenW
/-- a statement of a generator: what is out so far, the slots; what is out then, how it ends -/
abbrev MG := List D → List Sl → List D × SOut
section
variable (K : PySem.W.Frag) (rt : List V) (W : WX)
def PostG (H G : Hp) (cs : List Cell) (z : List D × SOut) (Z : GEnds) : Prop := match z.2 with
  | .nx ρ' => ∀ ys cs' H' G', slots cs' = ρ' → Stp H G (fps cs) H' G' (fps cs') → RR K rt G' H' cs' → RpL K G' z.1 ys → Z.nx ys (vals cs') H'
  | .bk ρ' => ∀ ys cs' H' G', slots cs' = ρ' → Stp H G (fps cs) H' G' (fps cs') → RR K rt G' H' cs' → RpL K G' z.1 ys → Z.bk ys (vals cs') H'
  | .ct ρ' => ∀ ys cs' H' G', slots cs' = ρ' → Stp H G (fps cs) H' G' (fps cs') → RR K rt G' H' cs' → RpL K G' z.1 ys → Z.ct ys (vals cs') H'
  | .rt t ρ' => ∀ ys v f cs' H' G', slots cs' = ρ' → Stp H G (fps cs) H' G' (f ++ fps cs') → RR K rt G' H' (⟨.v t, some v, f⟩ :: cs') → RpL K G' z.1 ys → Z.rt ys v H'
  | .err x ρ' => ∀ cls d cs' H' G', slots cs' = ρ' → Stp H G (fps cs) H' G' (fps cs') → RR K rt G' H' cs' → XR K G' H' x cls d → W cls d (vals cs') H'
  | .bad => False
end
section
variable {K : PySem.W.Frag} {rt : List V} {W : WX} {H G H1 G1 : Hp} {cs cs1 : List Cell} {Z : GEnds}
theorem PostG.step {z : List D × SOut} (s : Stp H G (fps cs) H1 G1 (fps cs1)) (h : PostG K rt W H G cs z Z) : PostG K rt W H1 G1 cs1 z Z := by
  obtain ⟨ds, o⟩ := z
  cases o with
  | nx ρ' => exact fun ys cs' H' G' h1 h3 h4 => h ys cs' H' G' h1 (s.trans h3) h4
  | bk ρ' => exact fun ys cs' H' G' h1 h3 h4 => h ys cs' H' G' h1 (s.trans h3) h4
  | ct ρ' => exact fun ys cs' H' G' h1 h3 h4 => h ys cs' H' G' h1 (s.trans h3) h4
  | rt t ρ' => exact fun ys v f cs' H' G' h1 h3 h4 => h ys v f cs' H' G' h1 (s.trans h3) h4
  | err x ρ' => exact fun cls d cs' H' G' h1 h3 h4 h5 => h cls d cs' H' G' h1 (s.trans h3) h4 h5
  | bad => exact h
theorem rpl_len {K : PySem.W.Frag} {G : Hp} : ∀ (ds : List D) (xs : List V), RpL K G ds xs → ds.length = xs.length
  | [], xs, h => by
    simp only [RpL] at h
    rw [h]
    rfl
  | d :: ds, xs, h => by
    simp only [RpL] at h
    obtain ⟨x, r, rfl, _, h2⟩ := h
    simp only [List.length_cons, rpl_len ds r h2]
theorem rpl_app {K : PySem.W.Frag} {G : Hp} : ∀ (ds es : List D) (xs ys : List V), RpL K G ds xs → RpL K G es ys → RpL K G (ds ++ es) (xs ++ ys)
  | [], es, xs, ys, h, h' => by
    simp only [RpL] at h
    rw [h]
    exact h'
  | d :: ds, es, xs, ys, h, h' => by
    simp only [RpL] at h
    obtain ⟨x, r, rfl, h1, h2⟩ := h
    simp only [List.cons_append, RpL]
    exact ⟨x, _, rfl, h1, rpl_app ds es r ys h2 h'⟩
theorem rpl_mono {K : PySem.W.Frag} {G G' : Hp} (e : Ext G G') : ∀ (ds : List D) (xs : List V), RpL K G ds xs → RpL K G' ds xs
  | [], xs, h => by simpa only [RpL] using h
  | d :: ds, xs, h => by
    simp only [RpL] at h ⊢
    obtain ⟨x, r, h0, h1, h2⟩ := h
    exact ⟨x, r, h0, Rp.mono e d x h1, rpl_mono e ds r h2⟩
end
structure PGnd (X : Cx) (rt : List V) (W : WX) (s : Stmt) (m : MG) : Prop where
  ex : ∃ t, GS X s t ∧ ∀ H G cs Z ds ys, RR X.K rt G H cs → RpL X.K G ds ys → PostG X.K rt W H G cs (m ds (slots cs)) Z → t Z ys (vals cs) H
structure PGnsd (X : Cx) (rt : List V) (W : WX) (s : List Stmt) (m : MG) : Prop where
  ex : ∃ t, GSs X s t ∧ ∀ H G cs Z ds ys, RR X.K rt G H cs → RpL X.K G ds ys → PostG X.K rt W H G cs (m ds (slots cs)) Z → t Z ys (vals cs) H
section
variable {X : Cx} {rt : List V} {W : WX} {e : Expr} {s : Stmt} {ss : List Stmt} {pos yp : Pos}
def gPlain (m : MS) : MG := fun ds ρ => (ds, m ρ)
theorem gn_plain {m : MS} (h : PSd X rt W s m) : PGnd X rt W s (gPlain m) := by
  obtain ⟨t, h1, h2⟩ := h.ex
  refine ⟨_, gs_ps h1, fun H G cs Z ds ys r hy q => h2 H G cs _ r ?_⟩
  unfold gPlain at q
  cases hm : m (slots cs) with
  | nx ρ' => rw [hm] at q; exact fun cs' H' G' e st r' => q ys cs' H' G' e st r' (rpl_mono st.ext _ _ hy)
  | bk ρ' => rw [hm] at q; exact fun cs' H' G' e st r' => q ys cs' H' G' e st r' (rpl_mono st.ext _ _ hy)
  | ct ρ' => rw [hm] at q; exact fun cs' H' G' e st r' => q ys cs' H' G' e st r' (rpl_mono st.ext _ _ hy)
  | rt t ρ' => rw [hm] at q; exact fun v f cs' H' G' e st r' => q ys v f cs' H' G' e st r' (rpl_mono st.ext _ _ hy)
  | err x ρ' => rw [hm] at q; exact fun cls d cs' H' G' e st r' hx => q cls d cs' H' G' e st r' hx
  | bad => rw [hm] at q; exact q
def gSkip : MG := fun ds ρ => (ds, .nx ρ)
theorem gns_nil : PGnsd X rt W [] gSkip := ⟨_, gss_nil, fun H G cs Z ds ys r hy q => q ys cs H G rfl Stp.refl r hy⟩
def gThen (m2 : MG) : List D × SOut → List D × SOut
  | (ds', .nx ρ') => m2 ds' ρ'
  | z => z
def gSeq (m1 m2 : MG) : MG := fun ds ρ => gThen m2 (m1 ds ρ)
theorem gns_cons {m1 m2 : MG} (h1 : PGnd X rt W s m1) (h2 : PGnsd X rt W ss m2) : PGnsd X rt W (s :: ss) (gSeq m1 m2) := by
  obtain ⟨t1, a1, a2⟩ := h1.ex
  obtain ⟨t2, b1, b2⟩ := h2.ex
  refine ⟨_, gss_cons a1 b1, fun H G cs Z ds ys r hy q => ?_⟩
  refine a2 H G cs { Z with nx := fun ys' σ' H' => t2 Z ys' σ' H' } ds ys r hy ?_
  unfold gSeq at q
  cases hm : m1 ds (slots cs) with
  | mk ds' o =>
    rw [hm] at q
    cases o with
    | nx ρ' =>
      intro ys' cs' H' G' e1 st r' hy'
      refine b2 H' G' cs' Z ds' ys' r' hy' ?_
      rw [e1]
      exact PostG.step st q
    | bk ρ' => exact q
    | ct ρ' => exact q
    | rt t ρ' => exact q
    | err x ρ' => exact q
    | bad => exact q
def gYieldO (ds : List D) : Out D → List D × SOut
  | .ok d ρ' => (ds ++ [d], .nx ρ')
  | .err x ρ' => (ds, .err x ρ')
  | .bad => (ds, .bad)
def gYield (m : M D) : MG := fun ds ρ => if ds.length < sizeLine then gYieldO ds (m ρ) else (ds, .bad)
theorem gn_yield {m : M D} (h : PEs X rt W e m) (hco : X.env.scope.isCoroutine = false := by rfl) (hi : interactive X.env = false := by rfl) : PGnd X rt W (.Expr (.Yield (some e) yp) pos) (gYield m) := by
  obtain ⟨te, h1, h2⟩ := h.ex
  refine ⟨_, gs_yield h1 hco hi, fun H G cs Z ds ys r hy q => ?_⟩
  unfold gYield at q
  have hy1 := rpl_len ds ys hy
  by_cases hl : ds.length < sizeLine
  · rw [if_pos hl] at q
    refine ⟨by omega, h2 H G cs _ r ?_⟩
    cases hm : m (slots cs) with
    | ok d ρ' =>
      rw [hm] at q
      intro v cs' H' G' e1 e2 st r' hv
      show Z.nx (ys ++ [v]) (vals cs) H'
      rw [← e2]
      exact q (ys ++ [v]) cs' H' G' e1 st r' (rpl_app _ _ _ _ (rpl_mono st.ext _ _ hy) (by simp only [RpL]; exact ⟨v, [], rfl, hv, rfl⟩))
    | err x ρ' =>
      rw [hm] at q
      intro cls d cs' H' G' h1 h2 h3 h4 h5
      rw [← h2]
      exact q cls d cs' H' G' h1 h3 h4 h5
    | bad => rw [hm] at q; exact q.elim
  · rw [if_neg hl] at q
    exact q.elim
def gForT (k : MG) : List D × SOut → List D × SOut
  | (ds, .nx ρ) => k ds ρ
  | (ds, .ct ρ) => k ds ρ
  | (ds, .bk ρ) => (ds, .nx ρ)
  | z => z
def gFor (g : D → List Sl → Option (List Sl)) (body : MG) : List D → MG
  | [] => fun ds ρ => (ds, .nx ρ)
  | x :: xs => fun ds ρ => match g x ρ with
    | none => (ds, .bad)
    | some ρ1 => gForT (gFor g body xs) (body ds ρ1)
def gForO (g : D → List Sl → Option (List Sl)) (body : MG) (ds : List D) : Out (List D) → List D × SOut
  | .ok xs ρ' => gFor g body xs ds ρ'
  | .err x ρ' => (ds, .err x ρ')
  | .bad => (ds, .bad)
def gForS (g : D → List Sl → Option (List Sl)) (mi : M (List D)) (body : MG) : MG := fun ds ρ => gForO g body ds (mi ρ)
theorem gn_for {tg iter : Expr} {g : D → List Sl → Option (List Sl)} {mi : M (List D)} {m : MG} (hp : PassesOwn (model X.prog X.w) X.A X.env X.xe) (hc : X.calm = true) (hi : PId X rt W tg iter mi) (hg : PGd X rt tg g) (hb : PGnsd X rt W ss m)
    (hs : ∀ x, foldedSetIterable iter X.env x = pure x := by intro _; rfl) : PGnd X rt W (.For tg iter ss [] pos) (gForS g mi m) := by
  obtain ⟨wi, i1, i2⟩ := hi.ex
  obtain ⟨tg', g1, g2⟩ := hg.ex
  obtain ⟨tb, b1, b2⟩ := hb.ex
  refine ⟨_, gs_for hp hc i1 g1 b1 hs, fun H G cs Z ds0 ys0 r hy q => i2 H G cs _ r ?_⟩
  unfold gForS at q
  cases hmi : mi (slots cs) with
  | err x ρ' =>
    rw [hmi] at q
    intro cls d cs' H' G' h1 h2 h3 h4 h5
    rw [← h2]
    exact q cls d cs' H' G' h1 h3 h4 h5
  | bad => rw [hmi] at q; exact q.elim
  | ok xs ρ' =>
    rw [hmi] at q
    intro J cs1 H1 G1 e1 ev st r1 hJ
    have q1 : PostG X.K rt W H1 G1 cs1 (gFor g m xs ds0 (slots cs1)) Z := by
      rw [e1]
      exact PostG.step st q
    refine ⟨fun i mm ys σ H2 => mm = xs.length - i ∧ i ≤ xs.length ∧ ∃ G2 cs2 ds, vals cs2 = σ ∧ Ext G1 G2 ∧ RR X.K rt G2 H2 cs2 ∧ RpL X.K G2 ds ys ∧ PostG X.K rt W H2 G2 cs2 (gFor g m (xs.drop i) ds (slots cs2)) Z,
      ⟨xs.length, rfl, Nat.zero_le _, G1, cs1, ds0, ev, Ext.refl _, r1, rpl_mono st.ext _ _ hy, q1⟩, ?_⟩
    rintro i mm ys σ H2 ⟨rfl, hi, G2, cs2, ds, rfl, ex2, r2, hy2, q2⟩
    obtain ⟨k1, k2⟩ := hJ i H2 G2 ex2 r2.sub
    by_cases hlt : i < xs.length
    · have hd : xs[i]? = some xs[i] := List.getElem?_eq_getElem hlt
      obtain ⟨go, yl⟩ := k2 _ hd
      have edrop : xs.drop i = xs[i] :: xs.drop (i + 1) := (List.getElem_cons_drop (h := hlt)).symm
      rw [edrop] at q2
      refine .inr ⟨go, fun ys' σ' H' => ∃ G2' cs2' ds', vals cs2' = σ' ∧ Ext G1 G2' ∧ RR X.K rt G2' H' cs2' ∧ RpL X.K G2' ds' ys' ∧ PostG X.K rt W H' G2' cs2' (gFor g m (xs.drop (i + 1)) ds' (slots cs2')) Z,
        fun ys' σ' H' ⟨G', cs', ds', h1, h2, h3, h4, h5⟩ => ⟨xs.length - (i + 1), by omega, rfl, hlt, G', cs', ds', h1, h2, h3, h4, h5⟩, fun x H3 y => ?_⟩
      obtain ⟨G3, st3, sub3, rp3⟩ := yl x H3 y
      have r3 : RR X.K rt G3 H3 cs2 := by
        have z : RR X.K rt G3 H3 (cs2 ++ []) := RR.frame (A := cs2) (B := []) (B' := []) (by rw [List.append_nil]; exact r2) st3 ⟨fun c hc => by (cases hc), List.nodup_nil, fun a ha => (by cases ha), sub3⟩
        rw [List.append_nil] at z
        exact z
      have st3' : Stp H2 G2 (fps cs2) H3 G3 (fps cs2) := (st3.frame (A := fps cs2)).mem (fun x => by simp) (fun x hx => by simpa using hx)
      have q3 := PostG.step st3' q2
      simp only [gFor] at q3
      cases hgd : g xs[i] (slots cs2) with
      | none => simp only [hgd] at q3; exact q3.elim
      | some ρ1 =>
        simp only [hgd] at q3
        refine g2 H3 G3 cs2 xs[i] x _ ρ1 r3 rp3 hgd fun cs4 j1 j2 j3 => ?_
        have q4 := PostG.step (cs1 := cs4) (Stp.refl.mem (fun _ => Iff.rfl) j3) q3
        rw [← j1] at q4
        refine b2 H3 G3 cs4 _ ds ys j2 (rpl_mono st3.ext _ _ hy2) ?_
        have ex4 : Ext G1 G3 := ex2.trans st3.ext
        cases hm : m ds (slots cs4) with
        | mk ds' o =>
          rw [hm] at q4
          cases o with
          | nx ρ2 =>
            intro ys5 cs5 H5 G5 k1 k2 k3 k4
            exact ⟨G5, cs5, ds', rfl, ex4.trans k2.ext, k3, k4, by rw [k1]; exact PostG.step k2 q4⟩
          | ct ρ2 =>
            intro ys5 cs5 H5 G5 k1 k2 k3 k4
            exact ⟨G5, cs5, ds', rfl, ex4.trans k2.ext, k3, k4, by rw [k1]; exact PostG.step k2 q4⟩
          | bk ρ2 => exact q4
          | rt t ρ2 => exact q4
          | err x ρ2 => exact q4
          | bad => exact q4
    · have e : i = xs.length := by omega
      subst e
      refine .inl ⟨k1 rfl, ?_⟩
      rw [List.drop_length] at q2
      exact q2 ys cs2 H2 G2 rfl Stp.refl r2 hy2
end
end PD

set_option Elab.async false
set_option linter.all false
set_option maxRecDepth 100000
set_option maxHeartbeats 2000000
/-! PD: a generator def as a whole, and list(f(..)) of it. -/
namespace PD
open PySem PySem.Spec PyProof.Rows L2 GenW
def shS : Sl → Bool
  | .v (.sh _) => true
  | _ => false
def endG (ρ : List Sl) : List D × SOut → Out (List D)
  | (ds, .nx _) => .ok ds ρ
  | (ds, .rt (.sh .non) _) => .ok ds ρ
  | (_, .err x _) => .err x ρ
  | _ => .bad
/-- a generator def: k parameters, n names -/
def runG (k n : Nat) (m : MG) : M (List D) := fun ρ => if ρ.length = k ∧ ρ.all shS = true then endG ρ (m [] (ρ ++ List.replicate (n - k) .un)) else .bad
def spG (K : PySem.W.Frag) (F : M (List D)) : SpG := fun vs H Q E => ∃ G cs, RR K [] G H cs ∧ vals cs = vs.map some ∧ PostK K [] (WE0 E) kA H G cs (F (slots cs)) Q
section
variable {P : Program} {w : World} {K : PySem.W.Frag} {mg : Str → Option Value} {base : Heap} {x qual : Str} {params : Arguments} {body : List Stmt} {scope : Scope} {f : Addr} {fd : FuncData} {G H G' H' : Hp}
theorem sh_fps {cs : List Cell} (r : RR K [] G H cs) (hs : (slots cs).all shS = true) : fps cs = [] := by
  rw [List.eq_nil_iff_forall_not_mem]
  intro a ha
  obtain ⟨c, hc, ha⟩ := mem_fps.mp ha
  have h1 := List.all_eq_true.mp hs c.s (List.mem_map_of_mem hc)
  have h2 := r.cell c hc
  obtain ⟨s, o, fp⟩ := c
  cases s with
  | v t =>
    cases t with
    | sh d =>
      obtain ⟨y, _, hy⟩ := h2
      simp only [RT] at hy
      have ha' : a ∈ fp := ha
      rw [hy.2] at ha'
      cases ha'
    | _ => cases h1
  | _ => cases h1
theorem sh_keep {cs : List Cell} (r : RR K [] G H cs) (hs : (slots cs).all shS = true) (e : Ext G G') (sb : Sub G' H') : RR K [] G' H' cs := by
  have hf := sh_fps r hs
  refine ⟨fun c hc => ?_, by rw [hf]; exact List.nodup_nil, fun a ha => (by rw [hf] at ha; cases ha), sb⟩
  have h1 := List.all_eq_true.mp hs c.s (List.mem_map_of_mem hc)
  have h2 := r.cell c hc
  obtain ⟨s, o, fp⟩ := c
  cases s with
  | v t =>
    cases t with
    | sh d =>
      obtain ⟨y, ey, hy⟩ := h2
      simp only [RT] at hy
      exact ⟨y, ey, by simp only [RT]; exact ⟨Rp.mono e d y hy.1, hy.2⟩⟩
    | _ => cases h1
  | _ => cases h1
theorem runG_vlen {k n : Nat} {m : MG} {vs : List V} {H : Hp} {Q : List V → Hp → Prop} {E : XK} (h : spG K (runG k n m) vs H Q E) : vs.length = k := by
  obtain ⟨G, cs, r, hv, q⟩ := h
  unfold runG at q
  by_cases z : (slots cs).length = k ∧ (slots cs).all shS = true
  · have e1 : (slots cs).length = vs.length := by
      have := congrArg List.length hv
      simpa [slots, vals] using this
    omega
  · rw [if_neg z] at q
    exact q.elim
theorem runG_core {X : Cx} {N : List Str} {k : Nat} {m : MG} {vs : List V} {H : Hp} {Q : List V → Hp → Prop} {E : XK} (hb : PGnsd X vs (WE0 E) body m) (h : spG X.K (runG k N.length m) vs H Q E) :
    ∃ t, GSs X body t ∧ t { nx := fun ys _ H' => Q ys H', rt := fun ys v H' => v = .non ∧ Q ys H' } [] (L2.start N vs) H := by
  have hl := runG_vlen h
  obtain ⟨G, cs, r, hv, q⟩ := h
  obtain ⟨t, h1, h2⟩ := hb.ex
  refine ⟨t, h1, ?_⟩
  unfold runG at q
  by_cases z : (slots cs).length = k ∧ (slots cs).all shS = true
  · rw [if_pos z] at q
    have hf := sh_fps r z.2
    have fr : fps (List.replicate (N.length - k) (⟨.un, none, []⟩ : Cell)) = [] := by
      rw [List.eq_nil_iff_forall_not_mem]
      intro a ha
      obtain ⟨c, hc, ha⟩ := mem_fps.mp ha
      rw [(List.mem_replicate.mp hc).2] at ha
      cases ha
    have f0 : fps (cs ++ List.replicate (N.length - k) (⟨.un, none, []⟩ : Cell)) = [] := by rw [fps_append, hf, fr]; rfl
    have rs : RR X.K vs G H (cs ++ List.replicate (N.length - k) (⟨.un, none, []⟩ : Cell)) := by
      refine ⟨fun c hc => ?_, by rw [f0]; exact List.nodup_nil, fun a ha => (by rw [f0] at ha; cases ha), r.sub⟩
      rcases List.mem_append.mp hc with hc | hc
      · exact (r.rt1 (rt := vs)).cell c hc
      · rw [(List.mem_replicate.mp hc).2]; exact rfl
    have vst : vals (cs ++ List.replicate (N.length - k) (⟨.un, none, []⟩ : Cell)) = L2.start N vs := by
      unfold L2.start
      have e1 : vals (cs ++ List.replicate (N.length - k) (⟨.un, none, []⟩ : Cell)) = vals cs ++ List.replicate (N.length - k) none := by simp [vals]
      rw [e1, hv, hl]
    have sst : slots (cs ++ List.replicate (N.length - k) (⟨.un, none, []⟩ : Cell)) = slots cs ++ List.replicate (N.length - k) .un := by simp [slots]
    rw [← vst]
    refine h2 H G _ _ [] [] rs (by simp only [RpL]) ?_
    rw [sst]
    have up : ∀ {cs' : List Cell} {H' G' : Hp} {F' : List Addr}, Stp H G (fps (cs ++ List.replicate (N.length - k) (⟨.un, none, []⟩ : Cell))) H' G' F' → Stp H G (fps cs) H' G' (fps cs) := fun {cs' H' G' F'} st => by
      rw [f0] at st
      rw [hf]
      exact ⟨st.keep, st.ext, fun a ha => (by cases ha), st.new⟩
    cases hm : m [] (slots cs ++ List.replicate (N.length - k) .un) with
    | mk ds o =>
      rw [hm] at q
      cases o with
      | nx ρ' =>
        intro ys cs' H' G' e1 st r' hy
        exact q ys cs H' G' rfl rfl (up (cs' := cs') st) (sh_keep r z.2 st.ext r'.sub) hy
      | rt t ρ' =>
        intro ys v fv cs' H' G' e1 st r' hy
        cases t with
        | sh d =>
          cases d with
          | non =>
            obtain ⟨y, ey, hy'⟩ := r'.cell _ List.mem_cons_self
            cases ey
            simp only [RT, Rp] at hy'
            exact ⟨hy'.1, q ys cs H' G' rfl rfl (up (cs' := cs') st) (sh_keep r z.2 st.ext r'.sub) hy⟩
          | _ => exact q.elim
        | _ => exact q.elim
      | err ex ρ' =>
        intro cls d cs' H' G' e1 st r' hx
        exact q cls d cs H' G' rfl rfl (up (cs' := cs') st) (sh_keep r z.2 st.ext r'.sub) hx
      | bk ρ' => exact q.elim
      | ct ρ' => exact q.elim
      | bad => exact q.elim
  · rw [if_neg z] at q
    exact q.elim
theorem okG {N ps : List Str} {k : Nat} {m : MG} (F : FunD K x qual params body scope [] [] f fd) (S : GScope N ps scope)
    (hbody : ∀ (cdv : Value) (A : Around) (outer : List Env) (s : Shared) (H : Hp) (E : XK) (rt : List V) (pn : List (Addr × Obj)), Room k (A.deeper (envOfC qual scope s.heap.objs.size f cdv)) →
      PGnsd (gcxOf P w K mg base N qual scope f cdv A outer s H E pn) rt (WE0 E) body m) : GFn P w K mg base (k + 1) f fd ps (spG K (runG ps.length N.length m)) := by
  obtain ⟨oc, od, dV, kV, doc, pm, an, cdv, ct, osl, rfl, lk, hcd, _, _⟩ := F.ex
  exact gfn_of lk hcd S (fun vs H Q E h => runG_vlen h) fun A outer s H vs Q E pn hr hsp => runG_core (hbody cdv A outer s H E vs pn hr) hsp
end
/-- a generator def -/
structure ClG (P : Program) (w : World) (K : PySem.W.Frag) (mg : Str → Option Value) (base : Heap) (x : Str) (ps : List Str) (k : Nat) (F : M (List D)) : Prop where
  ex : ∃ fd, GFn P w K mg base k (He.ga K x) fd ps (spG K F) ∧ Binds K fd ps []
  gl : mg x = some (.ref (He.ga K x))
  kp : PySem.W.keepIn K (.ref (He.ga K x)) = true
def listO (es : List Str) (ρ1 : List Sl) : Out (List D) → Out T
  | .ok ds _ => .ok (.lst (ds.map .sh)) ρ1
  | .err x _ => if x.c ∈ es then .err x ρ1 else .bad
  | .bad => .bad
/-- list(f(..)); es: the errors that may come out -/
def mListG (es : List Str) (F : M (List D)) (ms : M (List D)) : M T := fun ρ => (ms ρ).bind fun ds ρ1 => listO es ρ1 (F (ds.map fun d => .v (.sh d)))
theorem args_cells {K : PySem.W.Frag} {G H : Hp} (sb : Sub G H) : ∀ (ds : List D) (xs : List V), RpL K G ds xs → ∃ A : List Cell, slots A = ds.map (fun d => .v (.sh d)) ∧ vals A = xs.map some ∧ RR K [] G H A ∧ fps A = []
  | [], xs, h => by
    simp only [RpL] at h
    subst h
    exact ⟨[], rfl, rfl, ⟨fun c hc => (by cases hc), List.nodup_nil, fun a ha => (by cases ha), sb⟩, rfl⟩
  | d :: ds, xs, h => by
    simp only [RpL] at h
    obtain ⟨x, r, rfl, h1, h2⟩ := h
    obtain ⟨A, i1, i2, i3, i4⟩ := args_cells sb ds r h2
    refine ⟨⟨.v (.sh d), some x, []⟩ :: A, by simp [slots, ← i1], by simp only [vals, List.map_cons] at i2 ⊢; rw [i2], i3.shareI h1, by rw [fps_cons, i4]; rfl⟩
section
variable {X : Cx} {rt : List V} {W : WX} {e : Expr} {es : List Expr} {pos pos' p p2 : Pos} {x nm : Str}
theorem d_listG {k : Nat} {ps : List Str} {F : M (List D)} {ms : M (List D)} {ers : List Str} (C : ClG X.prog X.w X.K X.mg X.base x ps k F) (hsx : ∀ c ∈ ers, PySem.W.subIn X.K (.ref (He.ga X.K c)) (.type "StopIteration") = some false)
    (tk : L2.Takes X W) (hr : Room (k + 3) X.A) (hg : Gl X x) (ha : PAs X rt W (e :: es) ms) (hgl : Gl X nm) (hmg : X.mg nm = none) (hv : bootBuiltins nm = some (.type "list"))
    (hnm : nm ≠ "__name__" := by decide) (hdb2 : (nm == ("__debug__" : Str)) = false := by decide) (hdb : (x == ("__debug__" : Str)) = false := by decide)
    (he1 : starEach (e :: es) X.env = (false, eval e X.env) :: starEach es X.env := by rfl) (hpl : (backTo pos' (starEach es X.env)).any (·.1) = false := by rfl)
    (he2 : starEach [Expr.Call (.Name x p) (e :: es) [] pos'] X.env = (false, eval (.Call (.Name x p) (e :: es) [] pos') X.env) :: starEach [] X.env := by rfl) :
    PEd X rt W (.Call (.Name nm p2) [.Call (.Name x p) (e :: es) [] pos'] [] pos) (mListG ers F ms) := by
  obtain ⟨⟨fd, Fn, hb⟩, gl, kp⟩ := C
  obtain ⟨ta, h1, h2⟩ := ha.ex
  have pg := pgenS_call (pos' := pos') (p := p) (E := fun σ cls d H => W cls d σ H ∧ PySem.W.subIn X.K cls (.type "StopIteration") = some false) Fn (hr.mono (by omega)) hg gl kp hb .nil h1 hdb he1 hpl
  refine ⟨_, pe_listGS pg (fun σ pl H s u s' I c => ?_) (fun σ cls d H h => h.2) hr hgl hmg hv hnm hdb2 he2, fun H G cs Q r q => h2 H G cs _ r (PostK.seqE q fun ds xs cs1 H1 G1 ev st r1 rp1 q1 => ?_)⟩
  · obtain ⟨a, B, H', cls, d, z1, z2, z3, z4, z5, z6, z7, z8⟩ := c
    exact L2.passAt tk σ pl H s u s' I ⟨a, B, H', cls, d, z1, z2, z3, z4, z5, z6, z7, z8.1⟩
  · obtain ⟨A, i1, i2, i3, i4⟩ := args_cells r1.sub ds xs rp1
    have sp : spG X.K F xs H1 (fun out H2 => ∀ p, H2 p = none → Q (.ref p) (upd H2 p (.lst out))) (fun cls d H => W cls d (vals cs) H ∧ PySem.W.subIn X.K cls (.type "StopIteration") = some false) := by
      refine ⟨G1, A, i3, i2, ?_⟩
      rw [i1]
      have keep : ∀ {H' G' : Hp} {F' : List Addr}, Stp H1 G1 (fps A) H' G' F' → Sub G' H' → RR X.K rt G' H' cs1 ∧ Stp H1 G1 (fps cs1) H' G' (fps cs1) := fun {H' G' F'} st sb => by
        rw [i4] at st
        have st0 : Stp H1 G1 (fps ([] : List Cell)) H' G' (fps ([] : List Cell)) := ⟨st.keep, st.ext, fun a ha => (by cases ha), st.new⟩
        have z : RR X.K rt G' H' (cs1 ++ []) := RR.frame (A := cs1) (B := []) (B' := []) (by rw [List.append_nil]; exact r1) st0 ⟨fun c hc => (by cases hc), List.nodup_nil, fun a ha => (by cases ha), sb⟩
        rw [List.append_nil] at z
        refine ⟨z, (st0.frame (A := fps cs1)).mem (fun x => by simp [fps]) (fun x hx => by simpa [fps] using hx)⟩
      cases hF : F (ds.map fun d => .v (.sh d)) with
      | ok os ρ' =>
        rw [hF] at q1
        intro out cs' H' G' e1 e2 st r' ho p hp
        obtain ⟨k1, k2⟩ := keep st r'.sub
        exact (PostE.fresh k1 (PostE.step k2 rfl q1)).lst k1.sub ho hp
      | err ex ρ' =>
        rw [hF] at q1
        simp only [listO] at q1
        by_cases hc : ex.c ∈ ers
        · rw [if_pos hc] at q1
          intro cls d cs' H' G' e1 e2 st r' hx
          obtain ⟨k1, k2⟩ := keep st r'.sub
          refine ⟨?_, by rw [hx.1]; exact hsx _ hc⟩
          show W cls d (vals cs) H'
          rw [← ev]
          exact q1 cls d cs1 H' G' rfl rfl k2 k1 hx
        · rw [if_neg hc] at q1
          exact q1.elim
      | bad => rw [hF] at q1; exact q1.elim
    show spG X.K F (xs ++ []) H1 _ _
    rw [List.append_nil]
    exact sp
end
end PD

set_option Elab.async false
set_option linter.all false
set_option maxRecDepth 100000
set_option maxHeartbeats 2000000
/-! PD: dicts with nested keys, in the heap. -/
namespace PD
open PySem PySem.Spec PyProof.Rows L2
mutual
def nkO : D → Option NestedKey
  | .int i => some (.num i)
  | .tup ds => (nkOs ds).map .tup
  | _ => none
def nkOs : List D → Option (List NestedKey)
  | [] => some []
  | d :: ds => (nkO d).bind fun k => (nkOs ds).map (k :: ·)
end
mutual
theorem nkD_of : ∀ (d : D) (k : NestedKey), nkO d = some k → nkD k = d ∧ numK k = true
  | .int i, k, h => by
    simp only [nkO, Option.some.injEq] at h
    subst h
    exact ⟨by simp only [nkD], by simp only [numK]⟩
  | .tup ds, k, h => by
    simp only [nkO, Option.map_eq_some_iff] at h
    obtain ⟨ks, h1, rfl⟩ := h
    obtain ⟨a, b⟩ := nkDs_of ds ks h1
    exact ⟨by simp only [nkD, a], by simp only [numK, b]⟩
  | .non, k, h => by simp [nkO] at h
  | .bl _, k, h => by simp [nkO] at h
  | .str _, k, h => by simp [nkO] at h
  | .lst _, k, h => by simp [nkO] at h
  | .scr _, k, h => by simp [nkO] at h
  | .dct _ _, k, h => by simp [nkO] at h
  | .ins _ _ _, k, h => by simp [nkO] at h
  | .exn _ _ _ _ _, k, h => by simp [nkO] at h
theorem nkDs_of : ∀ (ds : List D) (ks : List NestedKey), nkOs ds = some ks → nkDs ks = ds ∧ numKs ks = true
  | [], ks, h => by
    simp only [nkOs, Option.some.injEq] at h
    subst h
    exact ⟨by simp only [nkDs], by simp only [numKs]⟩
  | d :: ds, ks, h => by
    simp only [nkOs, Option.bind_eq_some_iff, Option.map_eq_some_iff] at h
    obtain ⟨k, h1, ks', h2, rfl⟩ := h
    obtain ⟨a, b⟩ := nkD_of d k h1
    obtain ⟨a', b'⟩ := nkDs_of ds ks' h2
    exact ⟨by simp only [nkDs, a, a'], by simp only [numKs, b, b', Bool.and_self]⟩
end
mutual
theorem nkO_nkD : ∀ k : NestedKey, numK k = true → nkO (nkD k) = some k
  | .num i, _ => by simp only [nkD, nkO]
  | .tup ks, h => by
    simp only [numK] at h
    simp only [nkD, nkO, nkOs_nkDs ks h, Option.map_some]
  | .none, h => by simp [numK] at h
  | .text _, h => by simp [numK] at h
theorem nkOs_nkDs : ∀ ks : List NestedKey, numKs ks = true → nkOs (nkDs ks) = some ks
  | [], _ => by simp only [nkDs, nkOs]
  | k :: ks, h => by
    simp only [numKs, Bool.and_eq_true] at h
    simp only [nkDs, nkOs, nkO_nkD k h.1, nkOs_nkDs ks h.2, Option.bind_some, Option.map_some]
end
mutual
theorem hash_num (w w' : World) : ∀ k : NestedKey, numK k = true → k.hash w = k.hash w'
  | .num i, _ => by simp only [NestedKey.hash]
  | .tup ks, h => by
    simp only [numK] at h
    simp only [NestedKey.hash, hashes_num w w' ks h]
  | .none, h => by simp [numK] at h
  | .text _, h => by simp [numK] at h
theorem hashes_num (w w' : World) : ∀ ks : List NestedKey, numKs ks = true → NestedKey.hashes w ks = NestedKey.hashes w' ks
  | [], _ => by simp only [NestedKey.hashes]
  | k :: ks, h => by
    simp only [numKs, Bool.and_eq_true] at h
    simp only [NestedKey.hashes, hash_num w w' k h.1, hashes_num w w' ks h.2]
end

mutual
def KeyV (K : PySem.W.Frag) (H : Hp) : NestedKey → V → Prop
  | .num i, v => v = .int i
  | .tup ks, v => ∃ a xs, v = .ref a ∧ SqT K H a xs ∧ KeyVs K H ks xs
  | _, _ => False
def KeyVs (K : PySem.W.Frag) (H : Hp) : List NestedKey → List V → Prop
  | [], xs => xs = []
  | k :: ks, xs => ∃ x r, xs = x :: r ∧ KeyV K H k x ∧ KeyVs K H ks r
end
section
variable {P : Program} {w : World} {K : PySem.W.Frag} {G H H' : Hp} {h : Heap}
mutual
theorem key_v (sb : Sub G H) : ∀ (d : D) (k : NestedKey) (v : V), nkO d = some k → Rp K G d v → KeyV K H k v
  | .int i, k, v, e, r => by
    simp only [nkO, Option.some.injEq] at e
    subst e
    simpa only [KeyV, Rp] using r
  | .tup ds, k, v, e, r => by
    simp only [nkO, Option.map_eq_some_iff] at e
    obtain ⟨ks, e1, rfl⟩ := e
    simp only [Rp] at r
    obtain ⟨a, xs, r1, r2, r3⟩ := r
    simp only [KeyV]
    exact ⟨a, xs, r1, sb.tup r2, key_vs sb ds ks xs e1 r3⟩
  | .non, k, v, e, r => by simp [nkO] at e
  | .bl _, k, v, e, r => by simp [nkO] at e
  | .str _, k, v, e, r => by simp [nkO] at e
  | .lst _, k, v, e, r => by simp [nkO] at e
  | .scr _, k, v, e, r => by simp [nkO] at e
  | .dct _ _, k, v, e, r => by simp [nkO] at e
  | .ins _ _ _, k, v, e, r => by simp [nkO] at e
  | .exn _ _ _ _ _, k, v, e, r => by simp [nkO] at e
theorem key_vs (sb : Sub G H) : ∀ (ds : List D) (ks : List NestedKey) (xs : List V), nkOs ds = some ks → RpL K G ds xs → KeyVs K H ks xs
  | [], ks, xs, e, r => by
    simp only [nkOs, Option.some.injEq] at e
    subst e
    simpa only [KeyVs, RpL] using r
  | d :: ds, ks, xs, e, r => by
    simp only [nkOs, Option.bind_eq_some_iff, Option.map_eq_some_iff] at e
    obtain ⟨k, e1, ks', e2, rfl⟩ := e
    simp only [RpL] at r
    obtain ⟨x, r', r1, r2, r3⟩ := r
    simp only [KeyVs]
    exact ⟨x, r', r1, key_v sb d k x e1 r2, key_vs sb ds ks' r' e2 r3⟩
end
mutual
theorem key_is (ok : HOk P w H h) (KX : K.In h) : ∀ (k : NestedKey) (v : V) (u : Value), KeyV K H k v → RelV v u → NestedIs h k u
  | .num i, v, u, r, e => by
    simp only [KeyV] at r
    subst r
    obtain ⟨t, rfl⟩ := e
    exact .int i t
  | .tup ks, v, u, r, e => by
    simp only [KeyV] at r
    obtain ⟨a, xs, rfl, r2, r3⟩ := r
    have eu : u = Value.ref a := e
    subst eu
    rcases r2 with r2 | ⟨o, its, n, l, hc, hd, hz, rv⟩
    · obtain ⟨_, its, rv, o, ho, hc, n, hd⟩ := r2.ok ok
      exact .tup ho hc hd (by simpa using keys_is ok KX ks xs its r3 rv)
    · exact .tup (KX a o l) hc hd (keys_is ok KX ks xs its.toList r3 rv)
  | .none, v, u, r, e => by simp [KeyV] at r
  | .text _, v, u, r, e => by simp [KeyV] at r
theorem keys_is (ok : HOk P w H h) (KX : K.In h) : ∀ (ks : List NestedKey) (xs : List V) (us : List Value), KeyVs K H ks xs → Vals xs us → NestedAll h ks us
  | [], xs, us, r, e => by
    simp only [KeyVs] at r
    subst r
    cases e
    exact .nil
  | k :: ks, xs, us, r, e => by
    simp only [KeyVs] at r
    obtain ⟨x, r', rfl, r1, r2⟩ := r
    cases e with
    | cons e1 e2 => exact .cons (key_is ok KX k x _ r1 e1) (keys_is ok KX ks r' _ r2 e2)
end
/-- a holds the dict L; the empty one in any form -/
def IsN (H : Hp) (a : Addr) (L : List (NestedKey × Addr)) : Prop := H a = some (NX a L) ∨ (L = [] ∧ (Rd H a (.dK []) ∨ Rd H a (.dT [])))
def lN (L : List (NestedKey × Addr)) : List (NestedKey × Addr × Value) := L.map fun x => (x.1, x.2, .bool true)
theorem nx_dict (ok : HOk P w H h) (KX : K.In h) {a : Addr} {L : List (NestedKey × Addr)} (e : IsN H a L) (hk : ∀ x ∈ L, KeyV K H x.1 (.ref x.2)) :
    (a == sysModules) = false ∧ L.length ≤ sizeLine ∧ (∀ x ∈ L, numK x.1 = true ∧ x.1.depth ≤ 8) ∧ h.DictOfH (nestedKind P w) a (lN L) := by
  rcases e with e | ⟨rfl, e | e⟩
  · obtain ⟨⟨h1, h2, h3, h4, w', o, es, ep, g1, g2, g3, g4⟩, _, _⟩ := ok a _ e
    refine ⟨h1, h2, h4, o, es, ep, g1, g2, g3, ?_, fun x hx => ?_, ?_⟩
    · rw [g4]
      unfold lN
      rw [List.map_map]
      apply List.map_congr_left
      intro x hx
      show (⟨_, _, _⟩ : DictEntry) = ⟨_, _, _⟩
      congr 1
      exact hash_num w' w x.1 (h4 x hx).1
    · obtain ⟨y, hy, rfl⟩ := List.mem_map.mp hx
      exact ⟨key_is ok KX y.1 _ _ (hk y hy) rfl, (h4 y hy).2⟩
    · unfold lN
      rw [List.map_map]
      exact h3
  · obtain ⟨_, h1, vs, rel, o, es, ep, g1, g2, g3, g4, g5⟩ := e.ok ok
    cases rel
    have hn : es.toList = [] := by
      cases hh : es.toList with
      | nil => rfl
      | cons y ys =>
        rw [hh] at g5
        cases g5.1
    exact ⟨h1, Nat.zero_le _, fun x hx => (by cases hx), o, es, ep, g1, g2, g3, hn, fun x hx => (by cases hx), List.nodup_nil⟩
  · obtain ⟨_, h1, xs, rel, o, es, ep, g1, g2, g3, g4⟩ := e.ok ok
    cases rel
    exact ⟨h1, Nat.zero_le _, fun x hx => (by cases hx), o, es, ep, g1, g2, g3, g4.1, fun x hx => (by cases hx), List.nodup_nil⟩
def putNK (L : List (NestedKey × Addr)) (k : NestedKey) (b : Addr) : List (NestedKey × Addr) := if k ∈ L.map (·.1) then L else L ++ [(k, b)]
theorem atKey_lN (L : List (NestedKey × Addr)) (k : NestedKey) : (atKey (lN L) k).isSome = decide (k ∈ L.map (·.1)) := by
  unfold atKey lN
  induction L with
  | nil => rfl
  | cons x L ih =>
    rw [List.map_cons, List.find?_cons]
    by_cases e : x.1 = k
    · simp [e]
    · have e2 : ¬ k = x.1 := fun z => e z.symm
      simp only [e, decide_false, List.map_cons, List.mem_cons, e2, false_or]
      exact ih
theorem storedH_lN (L : List (NestedKey × Addr)) (k : NestedKey) (b : Addr) : storedH (lN L) k b (.bool true) = lN (putNK L k b) := by
  unfold storedH putNK
  rw [atKey_lN]
  by_cases e : k ∈ L.map (·.1)
  · rw [if_pos e, if_pos (by simpa using e)]
    unfold lN
    rw [List.map_map]
    apply List.map_congr_left
    intro x hx
    simp only [Function.comp, putAt]
    split <;> rfl
  · rw [if_neg e, if_neg (by simpa using e)]
    unfold lN
    simp
theorem putNK_len (L : List (NestedKey × Addr)) (k : NestedKey) (b : Addr) : (putNK L k b).length ≤ L.length + 1 := by
  unfold putNK
  split <;> simp
theorem putNK_mem {L : List (NestedKey × Addr)} {k : NestedKey} {b : Addr} {x : NestedKey × Addr} (h : x ∈ putNK L k b) : x ∈ L ∨ x = (k, b) := by
  unfold putNK at h
  split at h
  · exact .inl h
  · rcases List.mem_append.mp h with h | h
    · exact .inl h
    · exact .inr (List.mem_singleton.mp h)
theorem nx_ok {H' : Hp} {a : Addr} {L : List (NestedKey × Addr)} (h1 : (a == sysModules) = false) (h2 : L.length ≤ sizeLine) (h4 : ∀ x ∈ L, numK x.1 = true ∧ x.1.depth ≤ 8) (d : h.DictOfH (nestedKind P w) a (lN L)) : ObjOk P w H' h a (NX a L) := by
  obtain ⟨o, es, ep, g1, g2, g3, g4, g5, g6⟩ := d
  have nd : (L.map (·.1)).Nodup := by
    unfold lN at g6
    rw [List.map_map] at g6
    exact g6
  have ge : es.toList = L.map fun x => (⟨x.1.hash w, .ref x.2, .bool true⟩ : DictEntry) := by
    rw [g4]
    unfold lN
    rw [List.map_map]
    rfl
  exact ⟨⟨h1, h2, nd, h4, w, o, es, ep, g1, g2, g3, ge⟩, ⟨o, g1⟩, fun x1 x2 ⟨p1, p2, p3, p4, w', o', es', ep', q1, q2, q3, q4⟩ k => ⟨p1, p2, p3, p4, w', o', es', ep', k o' q1, q2, q3, q4⟩⟩
end
section
variable {X : Cx} {pins : List (Addr × Obj)} {σ : L2.St} {H : Hp} {s : Shared} {a b : Addr} {k : NestedKey} {L : List (NestedKey × Addr)}
theorem n_notIn {E : Value → Shared → Prop} {Q : Value → Shared → Prop} (hu : X.A.units + 9 < cLine) (I : Inv X pins σ H s) (e : IsN H a L) (hk : ∀ x ∈ L, KeyV X.K H x.1 (.ref x.2)) (hb : KeyV X.K H k (.ref b)) (hd : k.depth ≤ 8)
    (h : ∀ s', Inv X pins σ H s' → Q (.bool (!decide (k ∈ L.map (·.1)))) s') : wpAny (model X.prog X.w) X.A (compareOp .NotIn (.ref b) (.ref a)) Q E s := by
  obtain ⟨h1, h2, h4, d⟩ := nx_dict (P := X.prog) (w := X.w) I.hok I.kIn e hk
  refine wpAny_notIn_heap (knd := nestedKind X.prog X.w) (k := k) (xs := lN L) (show X.A.in1.units + 8 < cLine by show X.A.units + 1 + 8 < cLine; omega) ⟨key_is I.hok I.kIn k _ _ hb rfl, hd⟩ h1 d ?_
  rw [atKey_lN]
  exact h _ (I.tok _)
theorem n_set {E : Value → Shared → Prop} {Q : Unit → Shared → Prop} (hu : X.A.units + 9 < cLine) (I : Inv X pins σ H s) (mu : Mut (H a)) (e : IsN H a L) (hk : ∀ x ∈ L, KeyV X.K H x.1 (.ref x.2)) (hb : KeyV X.K H k (.ref b)) (hd : k.depth ≤ 8) (hn : numK k = true) (hl : L.length < sizeLine)
    (h : ∀ s', Inv X pins σ (upd H a (NX a (putNK L k b))) s' → Q () s') : wpAny (model X.prog X.w) X.A (setItem (.ref a) (.ref b) (.bool true)) Q E s := by
  obtain ⟨h1, h2, h4, d⟩ := nx_dict (P := X.prog) (w := X.w) I.hok I.kIn e hk
  refine wpAny_setItem_heap (knd := nestedKind X.prog X.w) (k := k) (xs := lN L) (hsz := by unfold lN; rw [List.length_map]; exact h2) (show X.A.in1.units + 8 < cLine by show X.A.units + 1 + 8 < cLine; omega) ⟨key_is I.hok I.kIn k _ _ hb rfl, hd⟩ d fun h' d' hs => h _ ?_
  rw [storedH_lN] at d'
  have he : ∃ q, h'.get? a = some q := let ⟨q, _, _, hq, _⟩ := d'; ⟨q, hq⟩
  refine d_write I mu hs he (nx_ok h1 (by have := putNK_len L k b; omega) (fun x hx => ?_) d')
  rcases putNK_mem hx with hx | rfl
  · exact h4 x hx
  · exact ⟨hn, hd⟩
end
end PD

set_option Elab.async false
set_option linter.all false
set_option maxRecDepth 100000
set_option maxHeartbeats 2000000
/-! PD: {}, d[k] = True and k not in d, d with nested keys. -/
namespace PD
open PySem PySem.Spec PyProof.Rows L2
/-- a key of depth two or more -/
def deepK (k : NestedKey) : Bool := decide (2 ≤ k.depth) && decide (k.depth ≤ 8)
def deepD (d : D) : Bool := match nkO d with
  | some k => deepK k
  | none => false
def dkeys (ks : List D) : List NestedKey := ks.filterMap nkO
def dctPut (ks : List D) (ts : List T) (d : D) (k : NestedKey) : T := if k ∈ dkeys ks then .dct ks ts else .dct (ks ++ [d]) (ts ++ [.sh (.bl true)])
theorem depthAll_kD (l : List Key) : ∀ ks : List NestedKey, nkOs (l.map kD) = some ks → NestedKey.depthAll ks = 0 := by
  induction l with
  | nil =>
    intro ks h
    simp only [List.map_nil, nkOs, Option.some.injEq] at h
    subst h
    simp only [NestedKey.depthAll]
  | cons x l ih =>
    intro ks h
    simp only [List.map_cons, nkOs, Option.bind_eq_some_iff, Option.map_eq_some_iff] at h
    obtain ⟨k, h1, ks', h2, rfl⟩ := h
    cases x with
    | inl i =>
      simp only [kD, nkO, Option.some.injEq] at h1
      subst h1
      simp only [NestedKey.depthAll, NestedKey.depth, ih ks' h2]
      rfl
    | inr z => simp [kD, nkO] at h1
theorem shallow_kD (x : Key) : deepD (kD x) = false := by
  cases x with
  | inl i => simp [deepD, kD, nkO, deepK, NestedKey.depth]
  | inr z => simp [deepD, kD, nkO]
theorem shallow_tup (l : List Key) : deepD (.tup (l.map kD)) = false := by
  unfold deepD
  cases h : nkO (D.tup (l.map kD)) with
  | none => rfl
  | some k =>
    simp only [nkO, Option.map_eq_some_iff] at h
    obtain ⟨ks, h1, rfl⟩ := h
    have := depthAll_kD l ks h1
    simp [deepK, NestedKey.depth, this]
section
variable {K : PySem.W.Frag} {G H : Hp}
theorem rd_or {a : Addr} {o : HO} (e : H a = some o ∨ (Lk o ∧ ∃ ob, H a = some (.frz ob o))) : Rd H a o := e.imp id fun z => z.2
theorem dct_isN {a : Addr} {ks : List D} {xs : List V} {o : HO} (e : H a = some o ∨ (Lk o ∧ ∃ ob, H a = some (.frz ob o))) (h : DH ks xs o ∨ ∃ L, DN a ks xs o L ∧ RpL K G ks (L.map fun x => .ref x.2)) (hd : ks.all deepD = true) :
    ∃ L : List (NestedKey × Addr), IsN H a L ∧ ks = L.map (fun x => nkD x.1) ∧ xs = L.map (fun _ => V.bl true) ∧ RpL K G ks (L.map fun x => .ref x.2) := by
  rcases h with (⟨kk, rfl, hl, rfl⟩ | ⟨kk, rfl, hl, rfl⟩) | ⟨L, ⟨rfl, h1, h2⟩, h3⟩
  · cases kk with
    | nil =>
      have : xs = [] := List.length_eq_zero_iff.mp hl.symm
      subst this
      exact ⟨[], .inr ⟨rfl, .inl (rd_or e)⟩, rfl, rfl, by simp only [List.map_nil, RpL]⟩
    | cons x kk =>
      simp only [List.map_cons, List.all_cons, shallow_kD, Bool.false_and] at hd
      cases hd
  · cases kk with
    | nil =>
      have : xs = [] := List.length_eq_zero_iff.mp hl.symm
      subst this
      exact ⟨[], .inr ⟨rfl, .inr (rd_or e)⟩, rfl, rfl, by simp only [List.map_nil, RpL]⟩
    | cons x kk =>
      simp only [List.map_cons, List.all_cons, shallow_tup, Bool.false_and] at hd
      cases hd
  · rcases e with e | ⟨lk, _⟩
    · exact ⟨L, .inl e, h1, h2, h3⟩
    · exact lk.elim
theorem keys_of (sb : Sub G H) : ∀ (L : List (NestedKey × Addr)) (ks : List D), ks = L.map (fun x => nkD x.1) → ks.all deepD = true → RpL K G ks (L.map fun x => .ref x.2) → (∀ x ∈ L, nkO (nkD x.1) = some x.1) → ∀ x ∈ L, KeyV K H x.1 (.ref x.2)
  | [], ks, h, hd, r, hn, x, hx => by cases hx
  | y :: L, ks, h, hd, r, hn, x, hx => by
    subst h
    simp only [List.map_cons, RpL] at r
    obtain ⟨z, r', e1, r1, r2⟩ := r
    injection e1 with e2 e3
    subst e2 e3
    simp only [List.map_cons, List.all_cons, Bool.and_eq_true] at hd
    rcases List.mem_cons.mp hx with rfl | hx
    · exact key_v sb _ _ _ (hn _ List.mem_cons_self) r1
    · exact keys_of sb L _ rfl hd.2 r2 (fun w hw => hn w (List.mem_cons_of_mem _ hw)) x hx
end
mutual
theorem nk_same : ∀ (k k' : NestedKey), nkO (nkD k) = some k' → k' = k
  | .num i, k', h => by
    simp only [nkD, nkO, Option.some.injEq] at h
    exact h.symm
  | .tup ks, k', h => by
    simp only [nkD, nkO, Option.map_eq_some_iff] at h
    obtain ⟨ks', h1, rfl⟩ := h
    rw [nks_same ks ks' h1]
  | .none, k', h => by simp [nkD, nkO] at h
  | .text _, k', h => by simp [nkD, nkO] at h
theorem nks_same : ∀ (ks ks' : List NestedKey), nkOs (nkDs ks) = some ks' → ks' = ks
  | [], ks', h => by
    simp only [nkDs, nkOs, Option.some.injEq] at h
    exact h.symm
  | k :: ks, ks', h => by
    simp only [nkDs, nkOs, Option.bind_eq_some_iff, Option.map_eq_some_iff] at h
    obtain ⟨a, h1, b, h2, rfl⟩ := h
    rw [nk_same k a h1, nks_same ks b h2]
end
/-- the keys that are deep come back as they are -/
theorem deep_back (k : NestedKey) (h : deepD (nkD k) = true) : nkO (nkD k) = some k := by
  unfold deepD at h
  cases e : nkO (nkD k) with
  | none => rw [e] at h; cases h
  | some k' => rw [nk_same k k' e]
theorem dkeys_of : ∀ (L : List (NestedKey × Addr)), (L.map fun x => nkD x.1).all deepD = true → dkeys (L.map fun x => nkD x.1) = L.map (·.1)
  | [], _ => rfl
  | x :: L, h => by
    simp only [List.map_cons, List.all_cons, Bool.and_eq_true] at h
    unfold dkeys
    rw [List.map_cons, List.filterMap_cons, deep_back x.1 h.1]
    have ih := dkeys_of L h.2
    unfold dkeys at ih
    simp only [List.map_cons, ih]
section
variable {X : Cx} {rt : List V} {W : WX} {e b : Expr} {pos p p2 : Pos}
/-! ### {} -/
def mDict0 : M T := fun ρ => .ok (.dct [] []) ρ
theorem d_dict0 : PEd X rt W (.Dict [] [] pos) mDict0 := by
  refine ⟨_, pe_dnewT, fun H G cs Q r q p hp => ?_⟩
  refine (PostE.fresh r q) (.ref p) [p] _ G (Stp.made hp) ⟨fun c hc => ?_, by simp [fps], fun a ha => ?_, sub_new r.sub hp⟩
  · have e : c = ⟨.v (.dct [] []), some (.ref p), [p]⟩ := by simpa using hc
    subst e
    refine ⟨_, rfl, ?_⟩
    simp only [RT]
    exact ⟨p, _, [], [], rfl, upd_same, .inl (.inr ⟨[], rfl, rfl, rfl⟩), by simp only [RTL]; exact ⟨trivial, trivial⟩, rfl⟩
  · have e : a = p := by simpa [fps] using ha
    rw [e]
    exact none_of_sub r.sub hp
/-! ### k not in d -/
def rNNotIn (K : PySem.W.Frag) : R2 := fun y x H Q => ∃ a b L k, y = .ref b ∧ x = .ref a ∧ IsN H a L ∧ (∀ x ∈ L, KeyV K H x.1 (.ref x.2)) ∧ KeyV K H k (.ref b) ∧ k.depth ≤ 8 ∧ Q (.bl (!decide (k ∈ L.map (·.1)))) H
theorem op_nnotin (hu : X.A.units + 9 < cLine) : OpR X (compareOp .NotIn) (rNNotIn X.K) := by
  intro pins s σ H y x v u Q I ry rx ⟨a, b, L, k, e1, e2, h1, h2, h3, h4, q⟩
  subst e1 e2
  cases (show v = Value.ref b from ry)
  cases (show u = Value.ref a from rx)
  exact n_notIn hu I h1 h2 h3 h4 fun s' I' => ⟨V.bl (!decide (k ∈ L.map (·.1))), H, I', (show _ = _ from rfl), q⟩
def keysS : Sl → Option (List D)
  | .v (.dct ks _) => some ks
  | .p _ (.dct ks _) => some ks
  | .v (.sh (.dct ks _)) => some ks
  | _ => none
def nninO (kd : D) (ρ : List Sl) : Option (List D) → Out Bool
  | some ks => if deepD kd = true ∧ ks.all deepD = true then .ok (!decide (nkO kd ∈ (dkeys ks).map some)) ρ else .bad
  | none => .bad
def mNNotIn (i : Nat) (m : M D) : M Bool := fun ρ => (m ρ).bind fun kd ρ1 => nninO kd ρ1 (ρ1[i]?.bind keysS)
theorem t_nnotin {i : Nat} {x : Str} {m : M D} (hu : X.A.units + 9 < cLine) (h : PEs X rt W e m) (hN : X.N[i]? = some x) (hv : Vis X.env.scope x)
    (hd : (x == ("__debug__" : Str)) = false := by decide) (hcd : (x == ("__classdict__" : Str)) = false := by decide) : PTd X rt W (.Compare e [.NotIn] [.Name x p] pos) (mNNotIn i m) := by
  obtain ⟨te, h1, h2⟩ := h.ex
  refine ⟨_, pt_cmpR (op_nnotin hu) h1 (pe_var hN hv hd hcd) rfl, fun H G cs Q r q => h2 H G cs _ r (PostK.seqK q fun kd y cs1 H1 G1 ev st r1 rp1 q1 => ?_)⟩
  show tVar i (vals cs) H1 _
  rw [← ev]
  cases hs : (slots cs1)[i]?.bind keysS with
  | none => rw [hs] at q1; exact q1.elim
  | some ks =>
    rw [hs] at q1
    simp only [nninO] at q1
    by_cases hc : deepD kd = true ∧ ks.all deepD = true
    · rw [if_pos hc] at q1
      rw [Option.bind_eq_some_iff] at hs
      obtain ⟨sl, e1, e2⟩ := hs
      obtain ⟨c, hcc, rfl⟩ := cell_at e1
      have fact : ∃ a o xs, c.o = some (V.ref a) ∧ (H1 a = some o ∨ (Lk o ∧ ∃ ob, H1 a = some (.frz ob o))) ∧ (DH ks xs o ∨ ∃ L, DN a ks xs o L ∧ RpL X.K G1 ks (L.map fun x => .ref x.2)) := by
        have hcell := r1.at hcc
        obtain ⟨sl, co, cf⟩ := c
        cases sl with
        | un => cases e2
        | v t =>
          cases t with
          | dct ks' ts =>
            simp only [keysS, Option.some.injEq] at e2
            subst e2
            obtain ⟨y, ey, hy⟩ := hcell
            simp only [RT] at hy
            obtain ⟨a, o, xs, f, rfl, ha, hdh, _, _⟩ := hy
            exact ⟨a, o, xs, ey, .inl ha, hdh⟩
          | sh d =>
            cases d with
            | dct ks' vs =>
              simp only [keysS, Option.some.injEq] at e2
              subst e2
              obtain ⟨y, ey, hy⟩ := hcell
              simp only [RT, Rp] at hy
              obtain ⟨⟨a, o, xs, rfl, ha, hdh, _⟩, _⟩ := hy
              exact ⟨a, o, xs, ey, r1.sub a o ha, hdh⟩
            | _ => cases e2
          | _ => cases e2
        | p k t =>
          cases t with
          | dct ks' ts =>
            simp only [keysS, Option.some.injEq] at e2
            subst e2
            obtain ⟨y, ey, _, hy⟩ := hcell
            simp only [RT] at hy
            obtain ⟨a, o, xs, f, rfl, ha, hdh, _, _⟩ := hy
            exact ⟨a, o, xs, ey, .inl ha, hdh⟩
          | _ => cases e2
      obtain ⟨a, o, xs, eo, ha, hdh⟩ := fact
      obtain ⟨L, hn, h3, h4, h5⟩ := dct_isN ha hdh hc.2
      have hdl : (L.map fun x => nkD x.1).all deepD = true := by rw [← h3]; exact hc.2
      have hk := keys_of r1.sub L ks h3 hc.2 h5 fun x hx => deep_back x.1 (List.all_eq_true.mp hdl _ (List.mem_map_of_mem hx))
      have hdd := hc.1
      unfold deepD at hdd
      cases hkd : nkO kd with
      | none => rw [hkd] at hdd; cases hdd
      | some k =>
        rw [hkd] at hdd q1
        have hdk : 2 ≤ k.depth ∧ k.depth ≤ 8 := by simpa [deepK] using hdd
        have hkv := key_v r1.sub kd k y hkd rp1
        obtain ⟨bb, rfl⟩ : ∃ bb, y = V.ref bb := by
          cases k with
          | tup ks =>
            simp only [KeyV] at hkv
            obtain ⟨a', xs', rfl, _⟩ := hkv
            exact ⟨a', rfl⟩
          | num i => simp [NestedKey.depth] at hdk
          | none => simp [NestedKey.depth] at hdk
          | text z => simp [NestedKey.depth] at hdk
        refine ⟨.ref a, by rw [vals_at hcc, eo], a, bb, L, k, rfl, rfl, hn, hk, hkv, hdk.2, _, rfl, ?_⟩
        have e9 : dkeys ks = L.map (·.1) := by rw [h3]; exact dkeys_of L hdl
        rw [e9] at q1
        have e10 : decide (some k ∈ (L.map (·.1)).map some) = decide (k ∈ L.map (·.1)) := by simp
        rw [e10] at q1
        exact q1 _ cs1 H1 G1 rfl rfl Stp.refl r1 rfl
    · rw [if_neg hc] at q1
      exact q1.elim
end
end PD

set_option Elab.async false
set_option linter.all false
set_option maxRecDepth 100000
set_option maxHeartbeats 2000000
/-! PD: d[k] = True, d with nested keys. -/
namespace PD
open PySem PySem.Spec PyProof.Rows L2
section
variable {X : Cx} {rt : List V} {W : WX} {e b : Expr} {pos p p2 : Pos}
def rSetN (K : PySem.W.Frag) : TSet := fun o i v H Q => ∃ a bb L k, o = .ref a ∧ i = .ref bb ∧ v = .bl true ∧ Mut (H a) ∧ IsN H a L ∧ (∀ x ∈ L, KeyV K H x.1 (.ref x.2)) ∧ KeyV K H k (.ref bb) ∧ k.depth ≤ 8 ∧ numK k = true ∧ L.length < sizeLine ∧ Q (upd H a (NX a (putNK L k bb)))
theorem set_nest (hu : X.A.units + 9 < cLine) : PSet X (rSetN X.K) := by
  intro pins s σ H o i v ov iv u Q I ro ri rv ⟨a, bb, L, k, e1, e2, e3, mu, h1, h2, h3, h4, h5, h6, q⟩
  subst e1 e2 e3
  cases (show ov = Value.ref a from ro)
  cases (show iv = Value.ref bb from ri)
  cases (show u = Value.bool true from rv)
  exact n_set hu I mu h1 h2 h3 h4 h5 h6 fun s' I' => ⟨_, I', q⟩
def setN4 (i : Nat) (s : Sl) (kd : D) (ρ : List Sl) : Option T → SOut
  | some (.dct ks ts) => if ks.all deepD = true ∧ ks.length < sizeLine then
      (if nkO kd ∈ (dkeys ks).map some then .nx (ρ.set i (s.re (.dct ks ts))) else .nx (ρ.set i (s.re (.dct (ks ++ [kd]) (ts ++ [.sh (.bl true)]))))) else .bad
  | _ => .bad
def setN3 (i : Nat) (kd : D) (ρ : List Sl) : Option Sl → SOut
  | some s => setN4 i s kd ρ s.t?
  | none => .bad
def setN2 (i : Nat) (kd : D) (ρ : List Sl) : SOut := if deepD kd = true then setN3 i kd ρ ρ[i]? else .bad
def setN1 (i : Nat) (mi : M D) (ρ : List Sl) : Option T → SOut
  | some (.dct _ _) => (mi ρ).bindS (setN2 i)
  | _ => .bad
def setN0 (i : Nat) (mi : M D) : D → MS
  | .bl true => fun ρ => setN1 i mi ρ (ρ[i]?.bind Sl.t?)
  | _ => fun _ => .bad
/-- d[k] = True -/
def mSetN (i : Nat) (mi me : M D) : MS := fun ρ => (me ρ).bindS (setN0 i mi)
theorem st_setN {i : Nat} {x : Str} {mi me : M D} (hu : X.A.units + 9 < cLine) (hN : X.N[i]? = some x) (hv : Vis X.env.scope x) (hi : PEs X rt W b mi) (he : PEs X rt W e me)
    (hd : (x == ("__debug__" : Str)) = false := by decide) (hcd : (x == ("__classdict__" : Str)) = false := by decide)
    (ha : ∀ v, assign (.Subscript (.Name x p) b p2) X.env v = (do
      let o1 ← holding [v] (eval (.Name x p) X.env)
      let i1 ← holding [v, o1] (eval b X.env)
      standAt p2
      holding [v, o1, i1] (setItem o1 i1 v)
      release [v, o1, i1] []) := by intro _; rfl)
    (hs : swapsWithSole [(.Subscript (.Name x p) b p2)] e pos.line X.env = pure false := by rfl) (hw : swappedStores [(.Subscript (.Name x p) b p2)] e X.env = pure none := by rfl)
    (h1 : (assignEach [(.Subscript (.Name x p) b p2)] X.env).map (·.2) = [assign (.Subscript (.Name x p) b p2) X.env] := by rfl) : PSd X rt W (.Assign [.Subscript (.Name x p) b p2] e pos) (mSetN i mi me) := by
  obtain ⟨te, a1, a2⟩ := he.ex
  obtain ⟨ti, b1, b2⟩ := hi.ex
  refine ⟨_, ps_asg a1 (pg_sub (pe_var hN hv hd hcd) b1 (set_nest hu) ha) hs hw h1, fun H G cs Z r q => a2 H G cs _ r (PostK.seqS q fun d v cs1 H1 G1 ev st r1 rp1 q1 => ?_)⟩
  unfold setN0 at q1
  split at q1
  · have ev0 : v = .bl true := by simpa only [Rp] using (show Rp X.K G1 (.bl true) v from rp1)
    subst ev0
    unfold setN1 at q1
    split at q1
    · rename_i ks0 ts0 h0
      rw [Option.bind_eq_some_iff] at h0
      obtain ⟨sl0, e0, e0'⟩ := h0
      obtain ⟨c0, hc0, rfl⟩ := cell_at e0
      obtain ⟨x0, ex0, ht0⟩ := (r1.at hc0).tree e0'
      simp only [RT] at ht0
      obtain ⟨a0, o0, xs0, f0, rfl, _, _, _⟩ := ht0
      have v0 : (vals cs)[i]? = some (some (.ref a0)) := by rw [← ev, vals_at hc0, ex0]
      refine ⟨.ref a0, v0, ?_⟩
      show ti (vals cs) H1 _
      rw [← ev]
      refine b2 H1 G1 cs1 _ r1 (PostK.seqS q1 fun kd y cs2 H2 G2 ev2 st2 r2 rp2 q2 => ?_)
      unfold setN2 at q2
      by_cases hdeep : deepD kd = true
      · rw [if_pos hdeep] at q2
        have hdd := hdeep
        unfold deepD at hdd
        cases hkd : nkO kd with
        | none => rw [hkd] at hdd; cases hdd
        | some k =>
          rw [hkd] at hdd
          have hdk : 2 ≤ k.depth ∧ k.depth ≤ 8 := by simpa [deepK] using hdd
          have hkv := key_v r2.sub kd k y hkd rp2
          have hnum := (nkD_of kd k hkd).2
          have hnkD := (nkD_of kd k hkd).1
          obtain ⟨bb, rfl⟩ : ∃ bb, y = V.ref bb := by
            cases k with
            | tup ks =>
              simp only [KeyV] at hkv
              obtain ⟨a', xs', rfl, _⟩ := hkv
              exact ⟨a', rfl⟩
            | num i => simp [NestedKey.depth] at hdk
            | none => simp [NestedKey.depth] at hdk
            | text z => simp [NestedKey.depth] at hdk
          cases hsl : (slots cs2)[i]? with
          | none => rw [hsl] at q2; exact q2.elim
          | some sl =>
            rw [hsl] at q2
            obtain ⟨c, hc, rfl⟩ := cell_at hsl
            simp only [setN3] at q2
            unfold setN4 at q2
            split at q2
            · rename_i ks1 ts1 hts
              obtain ⟨x1, ex1, ht1⟩ := (r2.at hc).tree hts
              have e5 : x1 = .ref a0 := by
                have v1 : (vals cs2)[i]? = some (some (.ref a0)) := by rw [ev2, ev, v0]
                rw [vals_at hc, ex1] at v1
                exact Option.some.inj (Option.some.inj v1)
              subst e5
              simp only [RT] at ht1
              obtain ⟨a1, o1, xs1, f1, e6, ha1, hdh, hl1, ef⟩ := ht1
              cases e6
              by_cases hz : ks1.all deepD = true ∧ ks1.length < sizeLine
              · rw [if_pos hz] at q2
                obtain ⟨cs_, co, cf⟩ := c
                have eco : co = some (.ref a0) := ex1
                subst eco
                have ef' : cf = a0 :: f1 := ef
                subst ef'
                obtain ⟨L, hn, h3, h4, h5⟩ := dct_isN (.inl ha1) hdh hz.1
                have hdl : (L.map fun x => nkD x.1).all deepD = true := by rw [← h3]; exact hz.1
                have hk := keys_of r2.sub L ks1 h3 hz.1 h5 fun x hx => deep_back x.1 (List.all_eq_true.mp hdl _ (List.mem_map_of_mem hx))
                have lL : L.length < sizeLine := by
                  have := congrArg List.length h3
                  rw [List.length_map] at this
                  omega
                have mu : Mut (H2 a0) := by
                  rcases hdh with (⟨kk, _, _, rfl⟩ | ⟨kk, _, _, rfl⟩) | ⟨L', ⟨rfl, _, _⟩, _⟩ <;> rw [ha1] <;> exact True.intro
                refine ⟨a0, bb, L, k, rfl, rfl, rfl, mu, hn, hk, hkv, hdk.2, hnum, lL, ?_⟩
                have rp := r2.perm ((perm_at hc).trans (List.Perm.of_eq (show _ = [⟨cs_, some (.ref a0), a0 :: f1⟩] ++ (cs2.take i ++ cs2.drop (i + 1)) from rfl)))
                have nd := rp.nd
                rw [fps_append, fps_cons, fps_nil, List.append_nil] at nd
                obtain ⟨nd1, _, _⟩ := List.nodup_append.mp nd
                have hna : a0 ∉ f1 := (List.nodup_cons.mp nd1).1
                have e9 : dkeys ks1 = L.map (·.1) := by rw [h3]; exact dkeys_of L hdl
                have hcell : CellR X.K rt G2 H2 ⟨cs_, some (.ref a0), a0 :: f1⟩ := rp.cell _ (by simp)
                -- the slot's new tree
                have fin : ∀ t' : T, RT X.K G2 (upd H2 a0 (NX a0 (putNK L k bb))) t' (.ref a0) (a0 :: f1) → PostSt X.K rt W H2 G2 cs2 (.nx ((slots cs2).set i (cs_.re t'))) Z → Z.nx (vals cs1) (upd H2 a0 (NX a0 (putNK L k bb))) := fun t' hnew q3 => by
                  have rnew := RR.change (B := [⟨cs_, some (.ref a0), a0 :: f1⟩]) (R := cs2.take i ++ cs2.drop (i + 1)) (c' := ⟨cs_.re t', some (.ref a0), a0 :: f1⟩) (a := a0) (o := NX a0 (putNK L k bb)) rp
                    (by rw [fps_cons]; simp) (fun x hx => by rw [fps_cons, fps_nil, List.append_nil]; exact hx) nd1 (hcell.re hts hnew)
                  have rset := rnew.perm (perm_set hc _).symm
                  have z := q3 _ (upd H2 a0 (NX a0 (putNK L k bb))) G2 slots_set (Stp.mut (mem_fps.mpr ⟨_, List.mem_of_getElem? hc, List.mem_cons_self⟩) fun x hx => ?_) rset
                  · rw [vals_set_same (c' := ⟨cs_.re t', some (.ref a0), a0 :: f1⟩) hc rfl, ev2] at z
                    exact z
                  · have e1 : (fps (cs2.set i ⟨cs_.re t', some (.ref a0), a0 :: f1⟩)).Perm ((a0 :: f1) ++ fps (cs2.take i ++ cs2.drop (i + 1))) := (perm_set hc _).flatMap_right _
                    have e2 : (fps cs2).Perm ((a0 :: f1) ++ fps (cs2.take i ++ cs2.drop (i + 1))) := (perm_at hc).flatMap_right _
                    exact e2.mem_iff.mpr (e1.mem_iff.mp hx)
                have keep : RTL X.K G2 (upd H2 a0 (NX a0 (putNK L k bb))) ts1 xs1 f1 := RTL.frame (Ext.refl _) _ _ f1 (fun z hz u hu => by rw [upd_ne (fun w => hna (by rw [← w]; exact hz))]; exact hu) hl1
                by_cases hin : nkO kd ∈ (dkeys ks1).map some
                · rw [if_pos hin] at q2
                  have hin' : k ∈ L.map (·.1) := by
                    rw [hkd, e9] at hin
                    simpa using hin
                  have eL : putNK L k bb = L := if_pos hin'
                  refine fin (.dct ks1 ts1) ?_ q2
                  simp only [RT]
                  exact ⟨a0, _, xs1, f1, rfl, upd_same, .inr ⟨L, ⟨by rw [eL], h3, h4⟩, h5⟩, keep, rfl⟩
                · rw [if_neg hin] at q2
                  have hin' : k ∉ L.map (·.1) := fun m => hin (by rw [hkd, e9]; simpa using m)
                  have eL : putNK L k bb = L ++ [(k, bb)] := if_neg hin'
                  refine fin (.dct (ks1 ++ [kd]) (ts1 ++ [.sh (.bl true)])) ?_ q2
                  simp only [RT]
                  refine ⟨a0, _, xs1 ++ [.bl true], f1, rfl, upd_same, .inr ⟨L ++ [(k, bb)], ⟨by rw [eL], by rw [List.map_append, ← h3]; simp [hnkD], by rw [List.map_append, ← h4]; rfl⟩, ?_⟩, ?_, rfl⟩
                  · rw [List.map_append]
                    exact rpl_app _ _ _ _ h5 (by simp only [List.map_cons, List.map_nil, RpL]; exact ⟨_, [], rfl, rp2, rfl⟩)
                  · have z := RTL.app keep (us := [.sh (.bl true)]) (ys := [.bl true]) (f2 := []) (by simp only [RTL, RT, Rp]; exact ⟨_, [], [], [], rfl, ⟨rfl, rfl⟩, ⟨rfl, rfl⟩, rfl⟩)
                    rw [List.append_nil] at z
                    exact z
              · rw [if_neg hz] at q2
                exact q2.elim
            · exact q2.elim
      · rw [if_neg hdeep] at q2
        exact q2.elim
    · exact q1.elim
  · exact q1.elim
end
end PD

set_option Elab.async false
set_option linter.all false
set_option maxRecDepth 100000
set_option maxHeartbeats 4000000
namespace Wk
open PySem PySem.Spec PyProof.Rows L2 PD
noncomputable section
def errs : List Str := ["InvalidCount", "InvalidSpace"]
def askX_InvalidCount (c : Str) : Option Bool := if c = "InvalidCount" then some true else if c = "InvalidSpace" then some false else none
def askX_InvalidSpace (c : Str) : Option Bool := if c = "InvalidCount" then some false else if c = "InvalidSpace" then some true else none
def askX_ValueError (c : Str) : Option Bool := if c = "InvalidCount" then some true else if c = "InvalidSpace" then some true else none
def catF_TouchstoneError (c : Str) : Option Bool := if c = "InvalidCount" then some true else if c = "InvalidSpace" then some true else none
def MX__law_integer (a : Addr) (dd : Option Addr) (c : Str) : MS := if c ∈ errs then (mRet (mSh (mAndV (mIsT [.int] (mName 0)) (mMap fNot (mIsT [.bool] (mName 0)))))) else mBad
def FX__law_integer (a : Addr) (dd : Option Addr) (c : Str) : M T := runF [false] 1 (MX__law_integer a dd c)
def MX__law_fault (a : Addr) (dd : Option Addr) (c : Str) : MS := if c ∈ errs then (mSeq (mIfS (mNot (mTru (mIsX a dd c (askX_ValueError c) (mName 0))))
  (mRet (mOpN fTupD (mCons (M.pure (.str "error")) (mCons (M.pure (.int 0)) mNil))))
  mSkip)
  (mSeq (mIfS (mAnd (mTru (mIsX a dd c (askX_InvalidSpace c) (mName 0))) (mNot (mTru (mIsX a dd c (askX_InvalidCount c) (mName 0)))))
  (mRet (mOpN fTupD (mCons (M.pure (.str "space")) (mCons (M.pure (.int 0)) mNil))))
  mSkip)
  (mSeq (mIfS (mAnd (mTru (mIsX a dd c (askX_InvalidCount c) (mName 0))) (mNot (mTru (mIsX a dd c (askX_InvalidSpace c) (mName 0)))))
  (mIfS (mTru (mGv (mCall (FX__law_integer a dd c) (qCons (mXf a dd c "count" (mName 0)) qNil) [])))
  (mRet (mOpN fTupD (mCons (M.pure (.str "count")) (mCons (mXf a dd c "count" (mName 0)) mNil))))
  mSkip)
  mSkip)
  (mRet (mOpN fTupD (mCons (M.pure (.str "other")) (mCons (M.pure (.int 0)) mNil))))))) else mBad
def FX__law_fault (a : Addr) (dd : Option Addr) (c : Str) : M T := runF [false] 1 (MX__law_fault a dd c)
def M_is_whole : MS := (mRet (mSh (mAndV (mIsT [.int] (mName 0)) (mMap fNot (mIsT [.bool] (mName 0))))))
def F_is_whole : M T := runF [false] 1 M_is_whole
def M_check_count : MS := (mSeq (mIfS (mOr (mNot (mTru (mGv (mCall F_is_whole (qCons (mName 0) qNil) [])))) (mCmp fLt (mName 0) (mName 1)))
  (mRaise1 "InvalidCount" "count" (mCons (mName 0) mNil))
  mSkip)
  (mIfS (mAnd (mCmp fNotN (mName 2) (M.pure .non)) (mCmp fGt (mName 0) (mName 2)))
  (mRaise1 "InvalidCount" "count" (mCons (mName 0) mNil))
  mSkip))
def F_check_count : M T := runF [false, false, false] 3 M_check_count
def L_check_space_1 (ρ : List Sl) : SOut := (mIfS (mOr (mNot (mTru (mGv (mCall F_is_whole (qCons (mName 1) qNil) [])))) (mNot (mChain fLe fLe (M.pure (.int 2)) (mName 1) (M.pure (.int 5)))))
  (mRaise0 "InvalidSpace")
  mSkip) ρ
def M_check_space : MS := (mSeq (mIfS (mNot (mChain fLe fLe (M.pure (.int 1)) (mGv (mOpN fLen (mCons (mName 0) mNil))) (M.pure (.int 6))))
  (mRaise0 "InvalidSpace")
  mSkip)
  (mForS (tgN 1) (mSeqs (mName 0)) L_check_space_1))
def F_check_space : M T := runF [false] 2 M_check_space
def M_check_strength : MS := (mExpr (mCall F_check_count (qCons (mName 1) (qCons (M.pure (.int 1)) (qCons (mGv (mOpN fMin (mCons (M.pure (.int 3)) (mCons (mGv (mOpN fLen (mCons (mName 0) mNil))) mNil)))) qNil))) []))
def F_check_strength : M T := runF [false, false] 2 M_check_strength
def L_is_space_row_1 (ρ : List Sl) : SOut := (mSeq (mSet 3 (mSh (mOpD fIx (mName 1) (mName 2))))
  (mIfS (mOr (mNot (mTru (mGv (mCall F_is_whole (qCons (mName 3) qNil) [])))) (mNot (mChain fLe fLt (M.pure (.int 0)) (mName 3) (mOpD fIx (mName 0) (mName 2)))))
  (mRet (mSh (M.pure (.bl false))))
  mSkip)) ρ
def M_is_space_row : MS := (mSeq (mIfS (mOr (mNot (mTru (mIsT [.list, .tuple] (mName 1)))) (mCmp fNe (mGv (mOpN fLen (mCons (mName 1) mNil))) (mGv (mOpN fLen (mCons (mName 0) mNil)))))
  (mRet (mSh (M.pure (.bl false))))
  mSkip)
  (mSeq (mForS (tgN 2) (mRng fRng1 (mCons (mGv (mOpN fLen (mCons (mName 0) mNil))) mNil)) L_is_space_row_1)
  (mRet (mSh (M.pure (.bl true))))))
def F_is_space_row : M T := runF [false, false] 4 M_is_space_row
def L_check_rows_1 (ρ : List Sl) : SOut := (mIfS (mNot (mTru (mGv (mCall F_is_space_row (qCons (mName 0) (qCons (mName 2) qNil)) []))))
  (mRaise0 "InvalidSpace")
  mSkip) ρ
def M_check_rows : MS := (mForS (tgN 2) (mSeqs (mName 1)) L_check_rows_1)
def F_check_rows : M T := runF [false, false] 3 M_check_rows
def L_choices_among_1 (ρ : List Sl) : SOut := (mApp 4 (mOpN fTupD (mStar (mName 5) (mCons (mGv (mOpN fTupD (mCons (mName 7) (mCons (mName 8) mNil)))) mNil)))) ρ
def L_choices_among_2 (ρ : List Sl) : SOut := (mForS (tgN 8) (mSeqs (mOpD fIx (mName 0) (mName 7))) L_choices_among_1) ρ
def L_choices_among_3 (ρ : List Sl) : SOut := (mSeq (mSet 6 (mSh (mIf (mTru (mName 5)) (mGv (mOp2 fAdd (mOpD fIx (mOpD fIx (mName 5) (mMap fNeg (M.pure (.int 1)))) (M.pure (.int 0))) (M.pure (.int 1)))) (M.pure (.int 0)))))
  (mForS (tgN 7) (mRng fRng2 (mCons (mName 6) (mCons (mGv (mOpN fLen (mCons (mName 0) mNil))) mNil))) L_choices_among_2)) ρ
def L_choices_among_4 (ρ : List Sl) : SOut := (mSeq (mSet 4 (mOpN fLstD mNil))
  (mSeq (mForS (tgN 5) (mSeqs (mName 2)) L_choices_among_3)
  (mSet 2 (mSh (mName 4))))) ρ
def M_choices_among : MS := (mSeq (mSet 2 (mOpN fLstD (mCons (mGv (mOpN fTupD mNil)) mNil)))
  (mSeq (mForS (tgN 3) (mRng fRng1 (mCons (mName 1) mNil)) L_choices_among_4)
  (mRet (mMove 2))))
def F_choices_among : M T := runF [false, false] 9 M_choices_among
def M_choice_list : MS := (mRet (mCall F_choices_among (qCons (mGv (mLc [2] (tgN 2) (mSeqs (mName 0)) mYes (mLRng1 (mName 2)))) (qCons (mName 1) qNil)) []))
def F_choice_list : M T := runF [false, false] 3 M_choice_list
def MG_choices : MG := (gSeq (gPlain (mExpr (mCall F_check_space (qCons (mName 0) qNil) [])))
  (gSeq (gPlain (mExpr (mCall F_check_strength (qCons (mName 0) (qCons (mName 1) qNil)) [])))
  (gSeq (gForS (tgN 2) (mSeqs (mGv (mCall F_choice_list (qCons (mName 0) (qCons (mName 1) qNil)) []))) (gSeq (gYield (mName 2))
  gSkip))
  gSkip)))
def FG_choices : M (List D) := runG 2 3 MG_choices
def L_uncovered_1 (ρ : List Sl) : SOut := (mSetN 3 (mName 5) (M.pure (.bl true))) ρ
def L_uncovered_2 (ρ : List Sl) : SOut := (mForS (tgN 5) (mSeqs (mGv (mCall F_choices_among (qCons (mGv (mLc [6] (tgN 6) (mSeqs (mName 4)) mYes (mOpN fLstD (mCons (mName 6) mNil)))) (qCons (mName 1) qNil)) []))) L_uncovered_1) ρ
def M_uncovered : MS := (mSeq (mExpr (mCall F_check_space (qCons (mName 0) qNil) []))
  (mSeq (mExpr (mCall F_check_strength (qCons (mName 0) (qCons (mName 1) qNil)) []))
  (mSeq (mExpr (mCall F_check_rows (qCons (mName 0) (qCons (mName 2) qNil)) []))
  (mSeq (mSet 3 mDict0)
  (mSeq (mForS (tgN 4) (mSeqs (mName 2)) L_uncovered_2)
  (mRet (mLc [5] (tgN 5) (mSeqs (mGv (mCall F_choice_list (qCons (mName 0) (qCons (mName 1) qNil)) []))) (mNNotIn 3 (mName 5)) (mSh (mName 5)))))))))
def F_uncovered : M T := runF [false, false, false] 7 M_uncovered
def M_covers : MS := (mRet (mSh (mB (mCmp fEq (mGv (mOpN fLen (mCons (mGv (mCall F_uncovered (qCons (mName 0) (qCons (mName 1) (qCons (mName 2) qNil))) [])) mNil))) (M.pure (.int 0))))))
def F_covers : M T := runF [false, false, false] 3 M_covers
def M__law_bag : MS := (mSeq (mSet 2 (mOp2 fMul (M.pure (.int 7919)) (mGv (mOp2 fAdd (mName 1) (M.pure (.int 1))))))
  (mSeq (mIfS (mCmp fGt (mGv (mOpN fLen (mCons (mName 0) mNil))) (M.pure (.int 0)))
  (mSet 2 (mOp2 fAdd (mName 2) (mGv (mOp2 fMod (mGv (mOpN fInt (mCons (mOpD fIx (mName 0) (M.pure (.int 0))) mNil))) (M.pure (.int 1000003))))))
  mSkip)
  (mSeq (mIfS (mCmp fLt (mName 1) (mGv (mOpN fLen (mCons (mName 0) mNil))))
  (mSet 2 (mOp2 fMod (mGv (mOpN fInt (mCons (mOpD fIx (mName 0) (mName 1)) mNil))) (mGv (mOp2 fPow (mGv (mOp2 fPow (M.pure (.int 10)) (M.pure (.int 64)))) (M.pure (.int 4))))))
  mSkip)
  (mSeq (mSet 3 (mSh (M.pure (.int 0))))
  (mSeq (mIfS (mCmp fGe (mName 2) (mGv (mOp2 fPow (M.pure (.int 10)) (M.pure (.int 18)))))
  (mSet 3 (mSh (mName 2)))
  mSkip)
  (mRet (mOpN fLstD (mCons (mName 3) (mCons (mGv (mOp2 fMod (mGv (mOpN fInt (mCons (mName 2) mNil))) (M.pure (.int 2147483647)))) (mCons (M.pure (.int 0)) mNil))))))))))
def F__law_bag : M T := runF [false, false] 4 M__law_bag
def M__law_take : MS := (mSeq (mIfS (mCmp fGt (mPeek 0 (M.pure (.int 0))) (M.pure (.int 0)))
  (mSeq (mSet 2 (mOp2 fMod (mGv (mOpN fInt (mCons (mPeek 0 (M.pure (.int 0))) mNil))) (mName 1)))
  (mSeq (mSetIx 0 (M.pure (.int 0)) (mGv (mOp2 fFdiv (mPeek 0 (M.pure (.int 0))) (mName 1))))
  (mRet (mMove 2))))
  mSkip)
  (mSeq (mSetIx 0 (M.pure (.int 2)) (mGv (mOp2 fAdd (mPeek 0 (M.pure (.int 2))) (M.pure (.int 1)))))
  (mSeq (mSetIx 0 (M.pure (.int 1)) (mGv (mOp2 fMod (mGv (mOpN fInt (mCons (mGv (mOp2 fAdd (mGv (mOp2 fAdd (mGv (mOp2 fMul (mPeek 0 (M.pure (.int 1))) (M.pure (.int 48271)))) (mGv (mOp2 fMul (mPeek 0 (M.pure (.int 2))) (M.pure (.int 69621)))))) (M.pure (.int 12345)))) mNil))) (M.pure (.int 2147483647)))))
  (mSeq (mSet 3 (mOp2 fMod (mGv (mOpN fInt (mCons (mGv (mOp2 fAdd (mGv (mOp2 fMul (mPeek 0 (M.pure (.int 1))) (mPeek 0 (M.pure (.int 1))))) (mGv (mOp2 fMul (M.pure (.int 16807)) (mPeek 0 (M.pure (.int 1))))))) mNil))) (M.pure (.int 2147483629))))
  (mRet (mOp2 fMod (mGv (mOpN fInt (mCons (mGv (mOp2 fFdiv (mName 3) (M.pure (.int 64)))) mNil))) (mName 1)))))))
def F__law_take : M T := runF [true, false] 4 M__law_take
def M__law_integer : MS := (mRet (mSh (mAndV (mIsT [.int] (mName 0)) (mMap fNot (mIsT [.bool] (mName 0))))))
def F__law_integer : M T := runF [false] 1 M__law_integer
def L__law_space_1 (ρ : List Sl) : SOut := (mIfS (mCmp fEq (mName 1) (M.pure (.int 0)))
  (mApp 4 (mSh (mName 3)))
  (mApp 4 (mOp2 fAdd (M.pure (.int 2)) (mGv (mCall F__law_take (qOwn 0 (qCons (M.pure (.int 4)) qNil)) []))))) ρ
def M__law_space : MS := (mSeq (mSet 1 (mCall F__law_take (qOwn 0 (qCons (M.pure (.int 4)) qNil)) []))
  (mSeq (mSet 2 (mOp2 fAdd (M.pure (.int 1)) (mGv (mCall F__law_take (qOwn 0 (qCons (M.pure (.int 6)) qNil)) []))))
  (mSeq (mSet 3 (mOp2 fAdd (M.pure (.int 2)) (mGv (mCall F__law_take (qOwn 0 (qCons (M.pure (.int 4)) qNil)) []))))
  (mSeq (mSet 4 (mOpN fLstD mNil))
  (mSeq (mForS (tgN 5) (mRng fRng1 (mCons (mName 2) mNil)) L__law_space_1)
  (mRet (mMove 4)))))))
def F__law_space : M T := runF [true] 6 M__law_space
def L__law_all_choices_1 (ρ : List Sl) : SOut := (mApp 4 (mOp2 fAdd (mName 5) (mGv (mOpN fTupD (mCons (mGv (mOpN fTupD (mCons (mName 7) (mCons (mName 8) mNil)))) mNil))))) ρ
def L__law_all_choices_2 (ρ : List Sl) : SOut := (mForS (tgN 8) (mRng fRng1 (mCons (mOpD fIx (mName 0) (mName 7)) mNil)) L__law_all_choices_1) ρ
def L__law_all_choices_3 (ρ : List Sl) : SOut := (mSeq (mSet 6 (mSh (M.pure (.int 0))))
  (mSeq (mIfS (mCmp fGt (mGv (mOpN fLen (mCons (mName 5) mNil))) (M.pure (.int 0)))
  (mSet 6 (mOp2 fAdd (mOpD fIx (mOpD fIx (mName 5) (mGv (mOp2 fSub (mGv (mOpN fLen (mCons (mName 5) mNil))) (M.pure (.int 1))))) (M.pure (.int 0))) (M.pure (.int 1))))
  mSkip)
  (mForS (tgN 7) (mRng fRng2 (mCons (mName 6) (mCons (mGv (mOp2 fAdd (mGv (mOp2 fAdd (mGv (mOp2 fSub (mGv (mOpN fLen (mCons (mName 0) mNil))) (mName 1))) (mName 3))) (M.pure (.int 1)))) mNil))) L__law_all_choices_2))) ρ
def L__law_all_choices_4 (ρ : List Sl) : SOut := (mSeq (mSet 4 (mOpN fLstD mNil))
  (mSeq (mForS (tgN 5) (mSeqs (mName 2)) L__law_all_choices_3)
  (mSet 2 (mSh (mName 4))))) ρ
def M__law_all_choices : MS := (mSeq (mSet 2 (mOpN fLstD (mCons (mGv (mOpN fTupD mNil)) mNil)))
  (mSeq (mForS (tgN 3) (mRng fRng1 (mCons (mName 1) mNil)) L__law_all_choices_4)
  (mRet (mMove 2))))
def F__law_all_choices : M T := runF [false, false] 9 M__law_all_choices
def L__law_holds_1 (ρ : List Sl) : SOut := (mIfS (mCmp fNe (mOpD fIx (mName 0) (mOpD fIx (mName 2) (M.pure (.int 0)))) (mOpD fIx (mName 2) (M.pure (.int 1))))
  (mRet (mSh (M.pure (.bl false))))
  mSkip) ρ
def M__law_holds : MS := (mSeq (mForS (tgN 2) (mSeqs (mName 1)) L__law_holds_1)
  (mRet (mSh (M.pure (.bl true)))))
def F__law_holds : M T := runF [false, false] 3 M__law_holds
def L__law_not_held_1 (ρ : List Sl) : SOut := (mIfS (mTru (mGv (mCall F__law_holds (qCons (mName 5) (qCons (mName 3) qNil)) [])))
  (mSeq (mSet 4 (mSh (M.pure (.bl true))))
  (fun ρ => .bk ρ))
  mSkip) ρ
def L__law_not_held_2 (ρ : List Sl) : SOut := (mSeq (mSet 4 (mSh (M.pure (.bl false))))
  (mSeq (mForS (tgN 5) (mSeqs (mName 1)) L__law_not_held_1)
  (mIfS (mNot (mTru (mName 4)))
  (mApp 2 (mSh (mName 3)))
  mSkip))) ρ
def M__law_not_held : MS := (mSeq (mSet 2 (mOpN fLstD mNil))
  (mSeq (mForS (tgN 3) (mSeqs (mName 0)) L__law_not_held_2)
  (mRet (mMove 2))))
def F__law_not_held : M T := runF [false, false] 6 M__law_not_held
def M__law_kept_kind : MS := (mSeq (mIfS (mCmp fEq (mGv (mCall F__law_take (qOwn 0 (qCons (M.pure (.int 2)) qNil)) [])) (M.pure (.int 0)))
  (mRet (mOpN fTuple (mCons (mName 1) mNil)))
  mSkip)
  (mRet (mOpN fList (mCons (mName 1) mNil))))
def F__law_kept_kind : M T := runF [true, false] 2 M__law_kept_kind
def L__law_row_with_1 (ρ : List Sl) : SOut := (mApp 3 (mCall F__law_take (qOwn 0 (qCons (mName 4) qNil)) [])) ρ
def L__law_row_with_2 (ρ : List Sl) : SOut := (mSetIx 3 (mOpD fIx (mName 5) (M.pure (.int 0))) (mOpD fIx (mName 5) (M.pure (.int 1)))) ρ
def M__law_row_with : MS := (mSeq (mSet 3 (mOpN fLstD mNil))
  (mSeq (mForS (tgN 4) (mSeqs (mName 1)) L__law_row_with_1)
  (mSeq (mForS (tgN 5) (mSeqs (mName 2)) L__law_row_with_2)
  (mRet (mMove 3)))))
def F__law_row_with : M T := runF [true, false, false] 6 M__law_row_with
def L__law_drawn_rows_1 (ρ : List Sl) : SOut := (mSeq (mSet 5 (mCall F__law_bag (qCons (mName 0) (qCons (mGv (mOp2 fAdd (M.pure (.int 3)) (mName 4))) qNil)) []))
  (mSeq (mSet 6 (mCall F__law_take (qOwn 5 (qCons (M.pure (.int 8)) qNil)) []))
  (mSeq (mIfS (mAnd (mCmp fEq (mName 6) (M.pure (.int 0))) (mCmp fGt (mLenV 3) (M.pure (.int 0))))
  (mSet 7 (mSh (mPeek 3 (mGv (mCall F__law_take (qOwn 5 (qCons (mLenV 3) qNil)) [])))))
  (mSet 7 (mCall F__law_row_with (qOwn 5 (qCons (mName 2) (qCons (mGv (mOpN fTupD mNil)) qNil))) [])))
  (mApp 3 (mSh (mGv (mCall F__law_kept_kind (qOwn 5 (qCons (mName 7) qNil)) []))))))) ρ
def M__law_drawn_rows : MS := (mSeq (mSet 3 (mOpN fLstD mNil))
  (mSeq (mForS (tgN 4) (mRng fRng1 (mCons (mGv (mCall F__law_take (qOwn 1 (qCons (M.pure (.int 13)) qNil)) [])) mNil)) L__law_drawn_rows_1)
  (mRet (mMove 3))))
def F__law_drawn_rows : M T := runF [false, true, false] 8 M__law_drawn_rows
def L__law_near_rows_1 (ρ : List Sl) : SOut := (mIfS (mCmp fNotIn (mOpD fIx (mName 8) (M.pure (.int 0))) (mName 7))
  (mSetIx 6 (mOpD fIx (mName 8) (M.pure (.int 0))) (mGv (mOp2 fMod (mGv (mOpN fInt (mCons (mGv (mOp2 fAdd (mOpD fIx (mName 8) (M.pure (.int 1))) (M.pure (.int 1)))) mNil))) (mOpD fIx (mName 1) (mOpD fIx (mName 8) (M.pure (.int 0)))))))
  mSkip) ρ
def L__law_near_rows_2 (ρ : List Sl) : SOut := (mIfS (mCmp fNe (mName 5) (mName 3))
  (mSeq (mSet 6 (mCall F__law_row_with (qOwn 0 (qCons (mName 1) (qCons (mName 5) qNil))) []))
  (mSeq (mIfS (mTru (mGv (mHide 4 (mHide 0 (mBor 6 (mCall F__law_holds (qCons (mName 6) (qCons (mName 3) qNil)) []))))))
  (mSeq (mSet 7 (mLc [8] (tgN 8) (mSeqs (mName 5)) mYes (mSh (mOpD fIx (mName 8) (M.pure (.int 0))))))
  (mForS (tgN 8) (mSeqs (mName 3)) L__law_near_rows_1))
  mSkip)
  (mApp 4 (mSh (mGv (mCall F__law_kept_kind (qOwn 0 (qCons (mName 6) qNil)) []))))))
  mSkip) ρ
def M__law_near_rows : MS := (mSeq (mSet 4 (mOpN fLstD mNil))
  (mSeq (mForS (tgN 5) (mSeqs (mName 2)) L__law_near_rows_2)
  (mRet (mMove 4))))
def F__law_near_rows : M T := runF [true, false, false, false] 9 M__law_near_rows
def L__law_is_choice_1 (ρ : List Sl) : SOut := (mSeq (mIfS (mOr (mNot (mTru (mIsT [.tuple] (mName 2)))) (mCmp fNe (mGv (mOpN fLen (mCons (mName 2) mNil))) (M.pure (.int 2))))
  (mRet (mSh (M.pure (.bl false))))
  mSkip)
  (mIfS (mOr (mNot (mTru (mGv (mCall F__law_integer (qCons (mOpD fIx (mName 2) (M.pure (.int 0))) qNil) [])))) (mNot (mTru (mGv (mCall F__law_integer (qCons (mOpD fIx (mName 2) (M.pure (.int 1))) qNil) [])))))
  (mRet (mSh (M.pure (.bl false))))
  mSkip)) ρ
def M__law_is_choice : MS := (mSeq (mIfS (mOr (mNot (mTru (mIsT [.tuple] (mName 0)))) (mCmp fNe (mGv (mOpN fLen (mCons (mName 0) mNil))) (mName 1)))
  (mRet (mSh (M.pure (.bl false))))
  mSkip)
  (mSeq (mForS (tgN 2) (mSeqs (mName 0)) L__law_is_choice_1)
  (mRet (mSh (M.pure (.bl true))))))
def F__law_is_choice : M T := runF [false, false] 3 M__law_is_choice
def L__law_same_choices_1 (ρ : List Sl) : SOut := (mIfS (mOr (mNot (mTru (mGv (mCall F__law_is_choice (qCons (mOpD fIx (mName 0) (mName 3)) (qCons (mName 2) qNil)) [])))) (mCmp fNe (mOpD fIx (mName 0) (mName 3)) (mOpD fIx (mName 1) (mName 3))))
  (mRet (mSh (M.pure (.bl false))))
  mSkip) ρ
def M__law_same_choices : MS := (mSeq (mIfS (mOr (mNot (mTru (mIsT [.list] (mName 0)))) (mCmp fNe (mGv (mOpN fLen (mCons (mName 0) mNil))) (mGv (mOpN fLen (mCons (mName 1) mNil)))))
  (mRet (mSh (M.pure (.bl false))))
  mSkip)
  (mSeq (mForS (tgN 3) (mRng fRng1 (mCons (mGv (mOpN fLen (mCons (mName 1) mNil))) mNil)) L__law_same_choices_1)
  (mRet (mSh (M.pure (.bl true))))))
def F__law_same_choices : M T := runF [false, false, false] 4 M__law_same_choices
def M__law_told_choices : MS := (mSeq (mSet 3 (mOpN fList (mCons (mName 0) mNil)))
  (mSeq (mSet 4 (mListG errs FG_choices (mCons (mName 3) (mCons (mName 1) mNil))))
  (mRet (mSh (mAndV (mB (mCmp fEq (mName 3) (mName 0))) (mGv (mCall F__law_same_choices (qCons (mName 4) (qCons (mName 2) (qCons (mName 1) qNil))) [])))))))
def F__law_told_choices : M T := runF [false, false, false] 5 M__law_told_choices
def M__law_asked : MS := (mSeq (mSet 4 (mOpN fList (mCons (mName 0) mNil)))
  (mSeq (mSet 5 (mLc [6] (tgN 6) (mSeqs (mName 2)) mYes (mSl (mName 6) (M.pure none) (M.pure none))))
  (mSeq (mSet 7 (mCall F_uncovered (qCons (mName 4) (qCons (mName 1) (qCons (mName 5) qNil))) []))
  (mSeq (mIfS (mNot (mTru (mGv (mCall F__law_same_choices (qCons (mName 7) (qCons (mName 3) (qCons (mName 1) qNil))) []))))
  (mRet (mSh (M.pure (.bl false))))
  mSkip)
  (mSeq (mSet 8 (mCall F_covers (qCons (mName 4) (qCons (mName 1) (qCons (mName 5) qNil))) []))
  (mSeq (mIfS (mOr (mNot (mTru (mIsT [.bool] (mName 8)))) (mCmp fNe (mName 8) (mB (mCmp fEq (mGv (mOpN fLen (mCons (mName 3) mNil))) (M.pure (.int 0))))))
  (mRet (mSh (M.pure (.bl false))))
  mSkip)
  (mRet (mSh (mAndV (mB (mCmp fEq (mName 4) (mName 0))) (mB (mCmp fEq (mName 5) (mName 2))))))))))))
def F__law_asked : M T := runF [false, false, false, false] 9 M__law_asked
/-- isinstance(v, int) and not isinstance(v, bool) -/
def intQ (v : D) : Option Bool := (isTs [.int] v).bind fun b => if b = true then (isTs [.bool] v).map fun k => !k else some false
def faultR (c : Str) (ns : List Str) (ds : List D) : Option T :=
  if c = "InvalidSpace" then some (.tup [.sh (.str "space"), .sh (.int 0)])
  else if c = "InvalidCount" then ((ns.zip ds).lookup ("count" : Str)).bind fun v => (intQ v).map fun b => if b = true then .tup [.sh (.str "count"), .sh v] else .tup [.sh (.str "other"), .sh (.int 0)]
  else none
def faultS (ρ : List Sl) : Option T → SOut
  | some t => .rt t ρ
  | none => .bad
def mh__law_outcome (x : Exn) : MS := fun ρ => faultS ρ (faultR x.c x.ns x.ds)
def M__law_outcome : MS := (mSeq (mSet 4 (mLc [5] (tgN 5) (mSeqs (mName 3)) mYes (mSl (mName 5) (M.pure none) (M.pure none))))
  (mSeq (mTry 6 catF_TouchstoneError
  (mSeq (mIfS (mCmp fEq (mName 0) (M.pure (.int 0)))
  (mExpr (mListG errs FG_choices (mCons (mGv (mOpN fList (mCons (mName 1) mNil))) (mCons (mName 2) mNil))))
  mSkip)
  (mSeq (mIfS (mCmp fEq (mName 0) (M.pure (.int 1)))
  (mExpr (mCall F_uncovered (qCons (mGv (mOpN fList (mCons (mName 1) mNil))) (qCons (mName 2) (qCons (mName 4) qNil))) []))
  mSkip)
  (mIfS (mCmp fEq (mName 0) (M.pure (.int 2)))
  (mExpr (mCall F_covers (qCons (mGv (mOpN fList (mCons (mName 1) mNil))) (qCons (mName 2) (qCons (mName 4) qNil))) []))
  mSkip)))
  mh__law_outcome)
  (mRet (mOpN fTupD (mCons (M.pure (.str "told")) (mCons (M.pure (.int 0)) mNil))))))
def F__law_outcome : M T := runF [false, false, false, false] 7 M__law_outcome
def M__law_bad_sizes : MS := (mSeq (mSet 2 (mCall F__law_take (qOwn 0 (qCons (M.pure (.int 7)) qNil)) []))
  (mSeq (mIfS (mCmp fEq (mName 2) (M.pure (.int 0)))
  (mRet (mOpN fLstD mNil))
  mSkip)
  (mSeq (mIfS (mCmp fEq (mName 2) (M.pure (.int 1)))
  (mRet (mSl (mGv (mOp2 fMul (mName 1) (M.pure (.int 7)))) (M.pure none) (mPart (M.pure (.int 7)))))
  mSkip)
  (mSeq (mSet 3 (mCall F__law_take (qOwn 0 (qCons (mGv (mOpN fLen (mCons (mName 1) mNil))) qNil)) []))
  (mSeq (mSet 4 (mCall F__law_take (qOwn 0 (qCons (M.pure (.int 1000)) qNil)) []))
  (mSeq (mSet 5 (mOpN fLstD (mCons (M.pure (.int 1)) (mCons (M.pure (.int 0)) (mCons (M.pure (.int 6)) (mCons (mGv (mOp2 fAdd (M.pure (.int 6)) (mName 4))) (mCons (mGv (mOp2 fSub (M.pure (.int 0)) (mName 4))) mNil)))))))
  (mRet (mOp2 fAdd (mGv (mOp2 fAdd (mGv (mSl (mName 1) (M.pure none) (mPart (mName 3)))) (mGv (mOpN fLstD (mCons (mOpD fIx (mName 5) (mGv (mOp2 fSub (mName 2) (M.pure (.int 2))))) mNil))))) (mGv (mSl (mName 1) (mPart (mGv (mOp2 fAdd (mName 3) (M.pure (.int 1))))) (M.pure none)))))))))))
def F__law_bad_sizes : M T := runF [true, false] 6 M__law_bad_sizes
def M__law_bad_strength : MS := (mSeq (mSet 2 (mCall F__law_take (qOwn 0 (qCons (M.pure (.int 4)) qNil)) []))
  (mSeq (mSet 3 (mCall F__law_take (qOwn 0 (qCons (M.pure (.int 1000)) qNil)) []))
  (mSeq (mSet 4 (mOpN fLstD (mCons (M.pure (.int 0)) (mCons (mGv (mOp2 fAdd (mGv (mOpN fMin (mCons (M.pure (.int 3)) (mCons (mGv (mOpN fLen (mCons (mName 1) mNil))) mNil)))) (M.pure (.int 1)))) (mCons (mGv (mOp2 fSub (mGv (mOp2 fSub (M.pure (.int 0)) (M.pure (.int 1)))) (mName 3))) (mCons (mGv (mOp2 fAdd (M.pure (.int 4)) (mName 3))) mNil))))))
  (mRet (mSh (mOpD fIx (mName 4) (mName 2)))))))
def F__law_bad_strength : M T := runF [true, false] 5 M__law_bad_strength
def M__law_bad_row : MS := (mSeq (mSet 2 (mCall F__law_take (qOwn 0 (qCons (M.pure (.int 6)) qNil)) []))
  (mSeq (mSet 3 (mCall F__law_take (qOwn 0 (qCons (mGv (mOpN fLen (mCons (mName 1) mNil))) qNil)) []))
  (mSeq (mSet 4 (mCall F__law_take (qOwn 0 (qCons (M.pure (.int 1000)) qNil)) []))
  (mSeq (mSet 5 (mCall F__law_row_with (qOwn 0 (qCons (mName 1) (qCons (mGv (mOpN fTupD mNil)) qNil))) []))
  (mSeq (mIfS (mCmp fEq (mName 2) (M.pure (.int 0)))
  (mRet (mCall F__law_kept_kind (qOwn 0 (qCons (mGv (mOp2 fAdd (mGv (mSl (mName 5) (M.pure none) (mPart (mName 3)))) (mGv (mSl (mName 5) (mPart (mGv (mOp2 fAdd (mName 3) (M.pure (.int 1))))) (M.pure none))))) qNil)) []))
  mSkip)
  (mSeq (mIfS (mCmp fEq (mName 2) (M.pure (.int 1)))
  (mRet (mCall F__law_kept_kind (qOwn 0 (qCons (mGv (mOp2 fAdd (mGv (mOp2 fAdd (mGv (mSl (mName 5) (M.pure none) (mPart (mName 3)))) (mGv (mOpN fLstD (mCons (M.pure (.int 0)) mNil))))) (mGv (mSl (mName 5) (mPart (mName 3)) (M.pure none))))) qNil)) []))
  mSkip)
  (mSeq (mSet 6 (mOpN fLstD (mCons (mOpD fIx (mName 1) (mName 3)) (mCons (mGv (mOp2 fAdd (mOpD fIx (mName 1) (mName 3)) (mName 4))) (mCons (mGv (mOp2 fSub (M.pure (.int 0)) (M.pure (.int 1)))) (mCons (mGv (mOp2 fSub (mGv (mOp2 fSub (M.pure (.int 0)) (M.pure (.int 1)))) (mName 4))) mNil))))))
  (mSeq (mSetIx 5 (mName 3) (mOpD fIx (mName 6) (mGv (mOp2 fSub (mName 2) (M.pure (.int 2))))))
  (mRet (mCall F__law_kept_kind (qOwn 0 (qCons (mName 5) qNil)) []))))))))))
def F__law_bad_row : M T := runF [true, false] 7 M__law_bad_row
def L__law_refusals_1 (ρ : List Sl) : SOut := (mSeq (mIfS (mCmp fNe (mGv (mCall F__law_outcome (qCons (mName 13) (qCons (mName 4) (qCons (mName 8) (qCons (mName 9) qNil)))) [])) (mGv (mOpN fTupD (mCons (M.pure (.str "space")) (mCons (M.pure (.int 0)) mNil)))))
  (mRet (mSh (M.pure (.bl false))))
  mSkip)
  (mSeq (mIfS (mCmp fNe (mGv (mCall F__law_outcome (qCons (mName 13) (qCons (mName 1) (qCons (mName 5) (qCons (mName 9) qNil)))) [])) (mGv (mOpN fTupD (mCons (M.pure (.str "count")) (mCons (mName 5) mNil)))))
  (mRet (mSh (M.pure (.bl false))))
  mSkip)
  (mSeq (mSet 14 (mOpN fTupD (mCons (M.pure (.str "space")) (mCons (M.pure (.int 0)) mNil))))
  (mSeq (mIfS (mCmp fEq (mName 13) (M.pure (.int 0)))
  (mSet 14 (mOpN fTupD (mCons (M.pure (.str "told")) (mCons (M.pure (.int 0)) mNil))))
  mSkip)
  (mSeq (mIfS (mCmp fNe (mGv (mCall F__law_outcome (qCons (mName 13) (qCons (mName 1) (qCons (mName 2) (qCons (mName 7) qNil)))) [])) (mName 14))
  (mRet (mSh (M.pure (.bl false))))
  mSkip)
  (mSeq (mIfS (mCmp fNe (mGv (mCall F__law_outcome (qCons (mName 13) (qCons (mName 1) (qCons (mName 2) (qCons (mName 12) qNil)))) [])) (mGv (mOpN fTupD (mCons (M.pure (.str "told")) (mCons (M.pure (.int 0)) mNil)))))
  (mRet (mSh (M.pure (.bl false))))
  mSkip)
  (mIfS (mCmp fNe (mGv (mCall F__law_outcome (qCons (mName 13) (qCons (mName 1) (qCons (mGv (mOpN fMin (mCons (M.pure (.int 3)) (mCons (mGv (mOpN fLen (mCons (mName 1) mNil))) mNil)))) (qCons (mName 12) qNil)))) [])) (mGv (mOpN fTupD (mCons (M.pure (.str "told")) (mCons (M.pure (.int 0)) mNil)))))
  (mRet (mSh (M.pure (.bl false))))
  mSkip))))))) ρ
def M__law_refusals : MS := (mSeq (mSet 4 (mCall F__law_bad_sizes (qOwn 0 (qCons (mName 1) qNil)) []))
  (mSeq (mSet 5 (mCall F__law_bad_strength (qOwn 0 (qCons (mName 1) qNil)) []))
  (mSeq (mSet 6 (mCall F__law_take (qOwn 0 (qCons (mGv (mOp2 fAdd (mGv (mOpN fLen (mCons (mName 3) mNil))) (M.pure (.int 1)))) qNil)) []))
  (mSeq (mSet 7 (mOp2 fAdd (mGv (mOp2 fAdd (mGv (mSl (mName 3) (M.pure none) (mPart (mName 6)))) (mGv (mOpN fLstD (mCons (mGv (mCall F__law_bad_row (qOwn 0 (qCons (mName 1) qNil)) [])) mNil))))) (mGv (mSl (mName 3) (mPart (mName 6)) (M.pure none)))))
  (mSeq (mSet 8 (mSh (mOpD fIx (mGv (mOpN fLstD (mCons (mName 2) (mCons (mName 5) mNil)))) (mGv (mCall F__law_take (qOwn 0 (qCons (M.pure (.int 2)) qNil)) [])))))
  (mSeq (mSet 9 (mSh (mOpD fIx (mGv (mOpN fLstD (mCons (mName 3) (mCons (mName 7) mNil)))) (mGv (mCall F__law_take (qOwn 0 (qCons (M.pure (.int 2)) qNil)) [])))))
  (mSeq (mSet 10 (mOpN fTuple (mCons (mGv (mLc [11] (tgN 11) (mSeqs (mName 1)) mYes (mOp2 fSub (mName 11) (M.pure (.int 1))))) mNil)))
  (mSeq (mSet 12 (mOp2 fAdd (mGv (mOp2 fAdd (mGv (mSl (mName 3) (M.pure none) (mPart (mName 6)))) (mGv (mOpN fLstD (mCons (mName 10) mNil))))) (mGv (mSl (mName 3) (mPart (mName 6)) (M.pure none)))))
  (mSeq (mForS (tgN 13) (mRng fRng1 (mCons (M.pure (.int 3)) mNil)) L__law_refusals_1)
  (mRet (mSh (M.pure (.bl true)))))))))))))
def F__law_refusals : M T := runF [true, false, false, false] 15 M__law_refusals
def M_law : MS := (mSeq (mSet 1 (mCall F__law_bag (qCons (mName 0) (qCons (M.pure (.int 0)) qNil)) []))
  (mSeq (mSet 2 (mCall F__law_take (qOwn 1 (qCons (M.pure (.int 3)) qNil)) []))
  (mSeq (mSet 3 (mCall F__law_space (qOwn 1 qNil) []))
  (mSeq (mSet 4 (mOp2 fAdd (M.pure (.int 1)) (mGv (mCall F__law_take (qOwn 1 (qCons (mGv (mOpN fMin (mCons (M.pure (.int 3)) (mCons (mGv (mOpN fLen (mCons (mName 3) mNil))) mNil)))) qNil)) []))))
  (mSeq (mSet 5 (mCall F__law_all_choices (qCons (mName 3) (qCons (mName 4) qNil)) []))
  (mSeq (mIfS (mNot (mTru (mGv (mCall F__law_told_choices (qCons (mName 3) (qCons (mName 4) (qCons (mName 5) qNil))) []))))
  (mRet (mSh (M.pure (.bl false))))
  mSkip)
  (mSeq (mIfS (mAnd (mCmp fEq (mName 2) (M.pure (.int 0))) (mCmp fLe (mGv (mOpN fLen (mCons (mName 5) mNil))) (M.pure (.int 100))))
  (mSeq (mSet 6 (mSh (mOpD fIx (mName 5) (mGv (mCall F__law_take (qOwn 1 (qCons (mGv (mOpN fLen (mCons (mName 5) mNil))) qNil)) [])))))
  (mSet 7 (mCallT F__law_near_rows (mCall F__law_bag (qCons (mName 0) (qCons (M.pure (.int 1)) qNil)) []) (qCons (mName 3) (qCons (mName 5) (qCons (mName 6) qNil))))))
  (mSet 7 (mCall F__law_drawn_rows (qCons (mName 0) (qOwn 1 (qCons (mName 3) qNil))) [])))
  (mSeq (mSet 8 (mCall F__law_not_held (qCons (mName 5) (qCons (mName 7) qNil)) []))
  (mSeq (mIfS (mNot (mTru (mGv (mCall F__law_asked (qCons (mName 3) (qCons (mName 4) (qCons (mName 7) (qCons (mName 8) qNil)))) []))))
  (mRet (mSh (M.pure (.bl false))))
  mSkip)
  (mSeq (mIfS (mCmp fGt (mGv (mOpN fLen (mCons (mName 8) mNil))) (M.pure (.int 0)))
  (mSeq (mSet 9 (mSh (mOpD fIx (mName 8) (mGv (mCall F__law_take (qOwn 1 (qCons (mGv (mOpN fLen (mCons (mName 8) mNil))) qNil)) [])))))
  (mSeq (mSet 10 (mCall F__law_kept_kind (qOwn 1 (qCons (mGv (mCall F__law_row_with (qOwn 1 (qCons (mName 3) (qCons (mName 9) qNil))) [])) qNil)) []))
  (mSeq (mSet 11 (mCall F__law_take (qOwn 1 (qCons (mGv (mOp2 fAdd (mGv (mOpN fLen (mCons (mName 7) mNil))) (M.pure (.int 1)))) qNil)) []))
  (mSeq (mSet 7 (mOp2 fAdd (mGv (mOp2 fAdd (mGv (mSl (mName 7) (M.pure none) (mPart (mName 11)))) (mGv (mOpN fLstD (mCons (mName 10) mNil))))) (mGv (mSl (mName 7) (mPart (mName 11)) (M.pure none)))))
  (mSeq (mSet 8 (mLc [12] (tgN 12) (mSeqs (mName 8)) (mNot (mTru (mGv (mCall F__law_holds (qCons (mName 10) (qCons (mName 12) qNil)) [])))) (mSh (mName 12))))
  (mIfS (mNot (mTru (mGv (mCall F__law_asked (qCons (mName 3) (qCons (mName 4) (qCons (mName 7) (qCons (mName 8) qNil)))) []))))
  (mRet (mSh (M.pure (.bl false))))
  mSkip))))))
  mSkip)
  (mRet (mCallT F__law_refusals (mCall F__law_bag (qCons (mName 0) (qCons (M.pure (.int 2)) qNil)) []) (qCons (mName 3) (qCons (mName 4) (qCons (mName 7) qNil)))))))))))))))
def F_law : M T := runF [false] 13 M_law
end
end Wk

set_option Elab.async false
set_option linter.all false
set_option maxRecDepth 100000
set_option maxHeartbeats 0
namespace Wk
open PySem PySem.Spec PyProof.Rows L2 PD
abbrev Pw : Program := PySem.Challenge.pw_touchstone_k31_choices_and_covers
def top (i : Nat) : Stmt := PySem.Challenge.pw_touchstone_k31_choices_and_covers.main.body.getD i (.Pass ⟨0, 0, 0, 0⟩)
def clsBody : Stmt → List Stmt
  | .ClassDef _ _ _ b _ _ _ _ _ _ _ => b
  | _ => []
def mtop (i j : Nat) : Stmt := (clsBody (top i)).getD j (.Pass ⟨0, 0, 0, 0⟩)
def fn : List DefA := [
  ⟨fun K => He.ga K "is_whole", "is_whole", "is_whole", defArgs (top 5), defBody (top 5), defScope (top 5), [], []⟩,
  ⟨fun K => He.ga K "check_count", "check_count", "check_count", defArgs (top 6), defBody (top 6), defScope (top 6), [], []⟩,
  ⟨fun K => He.ga K "check_space", "check_space", "check_space", defArgs (top 12), defBody (top 12), defScope (top 12), [], []⟩,
  ⟨fun K => He.ga K "check_strength", "check_strength", "check_strength", defArgs (top 13), defBody (top 13), defScope (top 13), [], []⟩,
  ⟨fun K => He.ga K "is_space_row", "is_space_row", "is_space_row", defArgs (top 14), defBody (top 14), defScope (top 14), [], []⟩,
  ⟨fun K => He.ga K "check_rows", "check_rows", "check_rows", defArgs (top 15), defBody (top 15), defScope (top 15), [], []⟩,
  ⟨fun K => He.ga K "choices_among", "choices_among", "choices_among", defArgs (top 16), defBody (top 16), defScope (top 16), [], []⟩,
  ⟨fun K => He.ga K "choice_list", "choice_list", "choice_list", defArgs (top 17), defBody (top 17), defScope (top 17), [], []⟩,
  ⟨fun K => He.ga K "choices", "choices", "choices", defArgs (top 18), defBody (top 18), defScope (top 18), [], []⟩,
  ⟨fun K => He.ga K "uncovered", "uncovered", "uncovered", defArgs (top 19), defBody (top 19), defScope (top 19), [], []⟩,
  ⟨fun K => He.ga K "covers", "covers", "covers", defArgs (top 20), defBody (top 20), defScope (top 20), [], []⟩,
  ⟨fun K => He.ga K "_law_bag", "_law_bag", "_law_bag", defArgs (top 22), defBody (top 22), defScope (top 22), [], []⟩,
  ⟨fun K => He.ga K "_law_take", "_law_take", "_law_take", defArgs (top 23), defBody (top 23), defScope (top 23), [], []⟩,
  ⟨fun K => He.ga K "_law_integer", "_law_integer", "_law_integer", defArgs (top 24), defBody (top 24), defScope (top 24), [], []⟩,
  ⟨fun K => He.ga K "_law_space", "_law_space", "_law_space", defArgs (top 25), defBody (top 25), defScope (top 25), [], []⟩,
  ⟨fun K => He.ga K "_law_all_choices", "_law_all_choices", "_law_all_choices", defArgs (top 26), defBody (top 26), defScope (top 26), [], []⟩,
  ⟨fun K => He.ga K "_law_holds", "_law_holds", "_law_holds", defArgs (top 27), defBody (top 27), defScope (top 27), [], []⟩,
  ⟨fun K => He.ga K "_law_not_held", "_law_not_held", "_law_not_held", defArgs (top 28), defBody (top 28), defScope (top 28), [], []⟩,
  ⟨fun K => He.ga K "_law_kept_kind", "_law_kept_kind", "_law_kept_kind", defArgs (top 29), defBody (top 29), defScope (top 29), [], []⟩,
  ⟨fun K => He.ga K "_law_row_with", "_law_row_with", "_law_row_with", defArgs (top 30), defBody (top 30), defScope (top 30), [], []⟩,
  ⟨fun K => He.ga K "_law_drawn_rows", "_law_drawn_rows", "_law_drawn_rows", defArgs (top 31), defBody (top 31), defScope (top 31), [], []⟩,
  ⟨fun K => He.ga K "_law_near_rows", "_law_near_rows", "_law_near_rows", defArgs (top 32), defBody (top 32), defScope (top 32), [], []⟩,
  ⟨fun K => He.ga K "_law_is_choice", "_law_is_choice", "_law_is_choice", defArgs (top 33), defBody (top 33), defScope (top 33), [], []⟩,
  ⟨fun K => He.ga K "_law_same_choices", "_law_same_choices", "_law_same_choices", defArgs (top 34), defBody (top 34), defScope (top 34), [], []⟩,
  ⟨fun K => He.ga K "_law_told_choices", "_law_told_choices", "_law_told_choices", defArgs (top 35), defBody (top 35), defScope (top 35), [], []⟩,
  ⟨fun K => He.ga K "_law_asked", "_law_asked", "_law_asked", defArgs (top 36), defBody (top 36), defScope (top 36), [], []⟩,
  ⟨fun K => He.ga K "_law_fault", "_law_fault", "_law_fault", defArgs (top 37), defBody (top 37), defScope (top 37), [], []⟩,
  ⟨fun K => He.ga K "_law_outcome", "_law_outcome", "_law_outcome", defArgs (top 38), defBody (top 38), defScope (top 38), [], []⟩,
  ⟨fun K => He.ga K "_law_bad_sizes", "_law_bad_sizes", "_law_bad_sizes", defArgs (top 39), defBody (top 39), defScope (top 39), [], []⟩,
  ⟨fun K => He.ga K "_law_bad_strength", "_law_bad_strength", "_law_bad_strength", defArgs (top 40), defBody (top 40), defScope (top 40), [], []⟩,
  ⟨fun K => He.ga K "_law_bad_row", "_law_bad_row", "_law_bad_row", defArgs (top 41), defBody (top 41), defScope (top 41), [], []⟩,
  ⟨fun K => He.ga K "_law_refusals", "_law_refusals", "_law_refusals", defArgs (top 42), defBody (top 42), defScope (top 42), [], []⟩,
  ⟨fun K => He.ga K "law", "law", "law", defArgs (top 43), defBody (top 43), defScope (top 43), [], []⟩]
def fi : List DefI := [⟨"InvalidCount", "count", "InvalidCount.__init__", defArgs (mtop 2 0), defBody (mtop 2 0), defScope (mtop 2 0)⟩]
def fa : List He.Fa := [.glo "is_whole", .glo "check_count", .glo "check_space", .glo "check_strength", .glo "is_space_row", .glo "check_rows", .glo "choices_among", .glo "choice_list", .glo "choices", .glo "uncovered", .glo "covers", .glo "_law_bag", .glo "_law_take", .glo "_law_integer", .glo "_law_space", .glo "_law_all_choices", .glo "_law_holds", .glo "_law_not_held", .glo "_law_kept_kind", .glo "_law_row_with", .glo "_law_drawn_rows", .glo "_law_near_rows", .glo "_law_is_choice", .glo "_law_same_choices", .glo "_law_told_choices", .glo "_law_asked", .glo "_law_fault", .glo "_law_outcome", .glo "_law_bad_sizes", .glo "_law_bad_strength", .glo "_law_bad_row", .glo "_law_refusals", .glo "law", .glo "TouchstoneError", .glo "InvalidCount", .glo "InvalidSpace", .free "ValueError", .free "bool", .free "int", .free "isinstance", .free "len", .free "list", .free "min", .free "range", .free "tuple", .int "MOST_PARAMETERS" 6, .int "LEAST_SIZE" 2, .int "GREATEST_SIZE" 5, .int "MOST_STRENGTH" 3, .exc "InvalidSpace", .exm "InvalidCount" "TouchstoneError" true, .exm "InvalidSpace" "TouchstoneError" true]
def fx0 (K : PySem.W.Frag) : Bool := errs.all fun c => decide (PySem.W.kitOne K (.ref (He.ga K c)) (.ref (He.ga K "InvalidCount")) = askX_InvalidCount c)
def fx1 (K : PySem.W.Frag) : Bool := errs.all fun c => decide (PySem.W.kitOne K (.ref (He.ga K c)) (.ref (He.ga K "InvalidSpace")) = askX_InvalidSpace c)
def fx2 (K : PySem.W.Frag) : Bool := errs.all fun c => decide (PySem.W.kitOne K (.ref (He.ga K c)) (.type "ValueError") = askX_ValueError c)
def fx3 (K : PySem.W.Frag) : Bool := errs.all fun c => excB K (He.ga K c)
def fx4 (K : PySem.W.Frag) : Bool := errs.all fun c => decide (PySem.W.findIn K (.ref (He.ga K c)) "count" = some none)
def fx5 (K : PySem.W.Frag) : Bool := errs.all fun c => decide (PySem.W.subIn K (.ref (He.ga K c)) (.type "StopIteration") = some false)
def fx (K : PySem.W.Frag) : Bool := fx0 K && (fx1 K && (fx2 K && (fx3 K && (fx4 K && (fx5 K && (true))))))
def file : Str := PySem.Challenge.pw_touchstone_k31_choices_and_covers.main.file
def names0 : List PySem.Str := ["TouchstoneError", "InvalidCount", "InvalidSpace", "is_whole", "check_count", "MOST_PARAMETERS", "LEAST_SIZE", "GREATEST_SIZE", "MOST_STRENGTH", "check_space", "check_strength", "is_space_row", "check_rows", "choices_among", "choice_list", "choices", "uncovered", "covers", "_law_bag", "_law_take", "_law_integer", "_law_space", "_law_all_choices", "_law_holds", "_law_not_held", "_law_kept_kind", "_law_row_with", "_law_drawn_rows", "_law_near_rows", "_law_is_choice"]
def names1 : List PySem.Str := ["_law_same_choices", "_law_told_choices", "_law_asked", "_law_fault", "_law_outcome", "_law_bad_sizes", "_law_bad_strength", "_law_bad_row", "_law_refusals"]
def names2 : List PySem.Str := []
def names : List PySem.Str := names0 ++ (names1 ++ names2)
abbrev R : PySem.W.OpenRow := PySem.W.OpenLaw.row PySem.Challenge.rw_touchstone_k31_choices_and_covers
abbrev hk : PySem.W.Hook := hookP 5 file fx fa fn fi
def ob (s : PySem.W.SharedT) : AlP := obsPG 5 file fx fa fn fi (HandSHeadRun.getT s)
theorem ob_eq (s : PySem.W.SharedT) : ob s = hk.obs s.abs := obsPG_eq (HandSHeadRun.getT_eq s)
structure HW (K : PySem.W.Frag) (mg : Str → Option Value) (base : Heap) : Prop where
  says : SaysP file fx fa fn fi K
  kin : K.In base
  glob : base.Ns mainGlobals mg
section
variable {w : World} {K : PySem.W.Frag} {mg : Str → Option Value} {base : Heap}
theorem HW.g_is_whole (h : HW K mg base) : mg "is_whole" = some (.ref (He.ga K "is_whole")) := He.glo_ok h.kin h.glob (h.says.fact 0)
theorem HW.g_check_count (h : HW K mg base) : mg "check_count" = some (.ref (He.ga K "check_count")) := He.glo_ok h.kin h.glob (h.says.fact 1)
theorem HW.g_check_space (h : HW K mg base) : mg "check_space" = some (.ref (He.ga K "check_space")) := He.glo_ok h.kin h.glob (h.says.fact 2)
theorem HW.g_check_strength (h : HW K mg base) : mg "check_strength" = some (.ref (He.ga K "check_strength")) := He.glo_ok h.kin h.glob (h.says.fact 3)
theorem HW.g_is_space_row (h : HW K mg base) : mg "is_space_row" = some (.ref (He.ga K "is_space_row")) := He.glo_ok h.kin h.glob (h.says.fact 4)
theorem HW.g_check_rows (h : HW K mg base) : mg "check_rows" = some (.ref (He.ga K "check_rows")) := He.glo_ok h.kin h.glob (h.says.fact 5)
theorem HW.g_choices_among (h : HW K mg base) : mg "choices_among" = some (.ref (He.ga K "choices_among")) := He.glo_ok h.kin h.glob (h.says.fact 6)
theorem HW.g_choice_list (h : HW K mg base) : mg "choice_list" = some (.ref (He.ga K "choice_list")) := He.glo_ok h.kin h.glob (h.says.fact 7)
theorem HW.g_choices (h : HW K mg base) : mg "choices" = some (.ref (He.ga K "choices")) := He.glo_ok h.kin h.glob (h.says.fact 8)
theorem HW.g_uncovered (h : HW K mg base) : mg "uncovered" = some (.ref (He.ga K "uncovered")) := He.glo_ok h.kin h.glob (h.says.fact 9)
theorem HW.g_covers (h : HW K mg base) : mg "covers" = some (.ref (He.ga K "covers")) := He.glo_ok h.kin h.glob (h.says.fact 10)
theorem HW.g__law_bag (h : HW K mg base) : mg "_law_bag" = some (.ref (He.ga K "_law_bag")) := He.glo_ok h.kin h.glob (h.says.fact 11)
theorem HW.g__law_take (h : HW K mg base) : mg "_law_take" = some (.ref (He.ga K "_law_take")) := He.glo_ok h.kin h.glob (h.says.fact 12)
theorem HW.g__law_integer (h : HW K mg base) : mg "_law_integer" = some (.ref (He.ga K "_law_integer")) := He.glo_ok h.kin h.glob (h.says.fact 13)
theorem HW.g__law_space (h : HW K mg base) : mg "_law_space" = some (.ref (He.ga K "_law_space")) := He.glo_ok h.kin h.glob (h.says.fact 14)
theorem HW.g__law_all_choices (h : HW K mg base) : mg "_law_all_choices" = some (.ref (He.ga K "_law_all_choices")) := He.glo_ok h.kin h.glob (h.says.fact 15)
theorem HW.g__law_holds (h : HW K mg base) : mg "_law_holds" = some (.ref (He.ga K "_law_holds")) := He.glo_ok h.kin h.glob (h.says.fact 16)
theorem HW.g__law_not_held (h : HW K mg base) : mg "_law_not_held" = some (.ref (He.ga K "_law_not_held")) := He.glo_ok h.kin h.glob (h.says.fact 17)
theorem HW.g__law_kept_kind (h : HW K mg base) : mg "_law_kept_kind" = some (.ref (He.ga K "_law_kept_kind")) := He.glo_ok h.kin h.glob (h.says.fact 18)
theorem HW.g__law_row_with (h : HW K mg base) : mg "_law_row_with" = some (.ref (He.ga K "_law_row_with")) := He.glo_ok h.kin h.glob (h.says.fact 19)
theorem HW.g__law_drawn_rows (h : HW K mg base) : mg "_law_drawn_rows" = some (.ref (He.ga K "_law_drawn_rows")) := He.glo_ok h.kin h.glob (h.says.fact 20)
theorem HW.g__law_near_rows (h : HW K mg base) : mg "_law_near_rows" = some (.ref (He.ga K "_law_near_rows")) := He.glo_ok h.kin h.glob (h.says.fact 21)
theorem HW.g__law_is_choice (h : HW K mg base) : mg "_law_is_choice" = some (.ref (He.ga K "_law_is_choice")) := He.glo_ok h.kin h.glob (h.says.fact 22)
theorem HW.g__law_same_choices (h : HW K mg base) : mg "_law_same_choices" = some (.ref (He.ga K "_law_same_choices")) := He.glo_ok h.kin h.glob (h.says.fact 23)
theorem HW.g__law_told_choices (h : HW K mg base) : mg "_law_told_choices" = some (.ref (He.ga K "_law_told_choices")) := He.glo_ok h.kin h.glob (h.says.fact 24)
theorem HW.g__law_asked (h : HW K mg base) : mg "_law_asked" = some (.ref (He.ga K "_law_asked")) := He.glo_ok h.kin h.glob (h.says.fact 25)
theorem HW.g__law_fault (h : HW K mg base) : mg "_law_fault" = some (.ref (He.ga K "_law_fault")) := He.glo_ok h.kin h.glob (h.says.fact 26)
theorem HW.g__law_outcome (h : HW K mg base) : mg "_law_outcome" = some (.ref (He.ga K "_law_outcome")) := He.glo_ok h.kin h.glob (h.says.fact 27)
theorem HW.g__law_bad_sizes (h : HW K mg base) : mg "_law_bad_sizes" = some (.ref (He.ga K "_law_bad_sizes")) := He.glo_ok h.kin h.glob (h.says.fact 28)
theorem HW.g__law_bad_strength (h : HW K mg base) : mg "_law_bad_strength" = some (.ref (He.ga K "_law_bad_strength")) := He.glo_ok h.kin h.glob (h.says.fact 29)
theorem HW.g__law_bad_row (h : HW K mg base) : mg "_law_bad_row" = some (.ref (He.ga K "_law_bad_row")) := He.glo_ok h.kin h.glob (h.says.fact 30)
theorem HW.g__law_refusals (h : HW K mg base) : mg "_law_refusals" = some (.ref (He.ga K "_law_refusals")) := He.glo_ok h.kin h.glob (h.says.fact 31)
theorem HW.g_law (h : HW K mg base) : mg "law" = some (.ref (He.ga K "law")) := He.glo_ok h.kin h.glob (h.says.fact 32)
theorem HW.g_TouchstoneError (h : HW K mg base) : mg "TouchstoneError" = some (.ref (He.ga K "TouchstoneError")) := He.glo_ok h.kin h.glob (h.says.fact 33)
theorem HW.g_InvalidCount (h : HW K mg base) : mg "InvalidCount" = some (.ref (He.ga K "InvalidCount")) := He.glo_ok h.kin h.glob (h.says.fact 34)
theorem HW.g_InvalidSpace (h : HW K mg base) : mg "InvalidSpace" = some (.ref (He.ga K "InvalidSpace")) := He.glo_ok h.kin h.glob (h.says.fact 35)
theorem HW.n_ValueError (h : HW K mg base) : mg "ValueError" = none := He.free_ok h.kin h.glob (h.says.fact 36)
theorem HW.n_bool (h : HW K mg base) : mg "bool" = none := He.free_ok h.kin h.glob (h.says.fact 37)
theorem HW.n_int (h : HW K mg base) : mg "int" = none := He.free_ok h.kin h.glob (h.says.fact 38)
theorem HW.n_isinstance (h : HW K mg base) : mg "isinstance" = none := He.free_ok h.kin h.glob (h.says.fact 39)
theorem HW.n_len (h : HW K mg base) : mg "len" = none := He.free_ok h.kin h.glob (h.says.fact 40)
theorem HW.n_list (h : HW K mg base) : mg "list" = none := He.free_ok h.kin h.glob (h.says.fact 41)
theorem HW.n_min (h : HW K mg base) : mg "min" = none := He.free_ok h.kin h.glob (h.says.fact 42)
theorem HW.n_range (h : HW K mg base) : mg "range" = none := He.free_ok h.kin h.glob (h.says.fact 43)
theorem HW.n_tuple (h : HW K mg base) : mg "tuple" = none := He.free_ok h.kin h.glob (h.says.fact 44)
theorem HW.i_MOST_PARAMETERS (h : HW K mg base) : ∃ t, mg "MOST_PARAMETERS" = some (.int 6 t) := He.int_ok h.kin h.glob (h.says.fact 45)
theorem HW.i_LEAST_SIZE (h : HW K mg base) : ∃ t, mg "LEAST_SIZE" = some (.int 2 t) := He.int_ok h.kin h.glob (h.says.fact 46)
theorem HW.i_GREATEST_SIZE (h : HW K mg base) : ∃ t, mg "GREATEST_SIZE" = some (.int 5 t) := He.int_ok h.kin h.glob (h.says.fact 47)
theorem HW.i_MOST_STRENGTH (h : HW K mg base) : ∃ t, mg "MOST_STRENGTH" = some (.int 3 t) := He.int_ok h.kin h.glob (h.says.fact 48)
theorem HW.x_InvalidSpace (h : HW K mg base) : ClT K mg "InvalidSpace" := ⟨He.exc_ok (h.says.fact 49), h.g_InvalidSpace⟩
theorem HW.cat_TouchstoneError (h : HW K mg base) : ∀ c b, catF_TouchstoneError c = some b → PySem.W.exmOne K (.ref (He.ga K c)) (.ref (He.ga K "TouchstoneError")) = some b := fun c b e => by
  unfold catF_TouchstoneError at e
  split at e
  · rename_i z
    rw [z]
    cases e
    exact He.exm_ok (h.says.fact 50)
  split at e
  · rename_i z
    rw [z]
    cases e
    exact He.exm_ok (h.says.fact 51)
  cases e
theorem HW.fxs (h : HW K mg base) : fx K = true := h.says.all.2.2.2
theorem HW.fx0 (h : HW K mg base) : fx0 K = true := (He.ba h.fxs).1
theorem HW.fx1 (h : HW K mg base) : fx1 K = true := (He.ba (He.ba h.fxs).2).1
theorem HW.fx2 (h : HW K mg base) : fx2 K = true := (He.ba (He.ba (He.ba h.fxs).2).2).1
theorem HW.fx3 (h : HW K mg base) : fx3 K = true := (He.ba (He.ba (He.ba (He.ba h.fxs).2).2).2).1
theorem HW.fx4 (h : HW K mg base) : fx4 K = true := (He.ba (He.ba (He.ba (He.ba (He.ba h.fxs).2).2).2).2).1
theorem HW.fx5 (h : HW K mg base) : fx5 K = true := (He.ba (He.ba (He.ba (He.ba (He.ba (He.ba h.fxs).2).2).2).2).2).1
theorem HW.xa_InvalidCount (h : HW K mg base) : ∀ c ∈ errs, ∀ b, askX_InvalidCount c = some b → PySem.W.kitOne K (.ref (He.ga K c)) (.ref (He.ga K "InvalidCount")) = some b := fun c hc b e => (of_decide_eq_true (List.all_eq_true.mp h.fx0 c hc)).trans e
theorem HW.xa_InvalidSpace (h : HW K mg base) : ∀ c ∈ errs, ∀ b, askX_InvalidSpace c = some b → PySem.W.kitOne K (.ref (He.ga K c)) (.ref (He.ga K "InvalidSpace")) = some b := fun c hc b e => (of_decide_eq_true (List.all_eq_true.mp h.fx1 c hc)).trans e
theorem HW.xa_ValueError (h : HW K mg base) : ∀ c ∈ errs, ∀ b, askX_ValueError c = some b → PySem.W.kitOne K (.ref (He.ga K c)) (.type "ValueError") = some b := fun c hc b e => (of_decide_eq_true (List.all_eq_true.mp h.fx2 c hc)).trans e
theorem HW.xc (h : HW K mg base) : ∀ c ∈ errs, ExcC K (He.ga K c) ∧ XfC K (He.ga K c) := fun c hc => excB_ok (List.all_eq_true.mp h.fx3 c hc)
theorem HW.xn_count (h : HW K mg base) : ∀ c ∈ errs, PySem.W.findIn K (.ref (He.ga K c)) "count" = some none := fun c hc => of_decide_eq_true (List.all_eq_true.mp h.fx4 c hc)
theorem HW.sx (h : HW K mg base) : ∀ c ∈ errs, PySem.W.subIn K (.ref (He.ga K c)) (.type "StopIteration") = some false := fun c hc => of_decide_eq_true (List.all_eq_true.mp h.fx5 c hc)
theorem nsc_InvalidCount : NdefX.NScope ["self", "count", "__class__"] ["self", "count"] ["__class__"] (defScope (mtop 2 0)) := NdefX.nscope_by (by decide +kernel)
theorem HW.e_InvalidCount (h : HW K mg base) : ClE Pw w K mg base "InvalidCount" "count" := by
  obtain ⟨fd, cc, cda, I⟩ := h.says.init (P := Pw) rfl (by kernel_rfl) 0
  obtain ⟨oc, od, dV, kV, doc, pm, an, ct, osl, efd, lk⟩ := I.sup.ex
  have nod : dV = .none := by have e := I.nod; rw [efd] at e; exact e
  subst nod
  refine ⟨⟨_, fd, ["self", "count"], I.sup.oex, I.ini, I.typ, fn_excinit (k := 0) rfl I.sup nsc_InvalidCount rfl (by kernel_rfl) I.fld (by decide) (by decide) (fun _ => rfl) (fun _ => rfl) (fun _ => rfl) (fun _ => rfl), .all fun us hl => ?_⟩, h.g_InvalidCount⟩
  rw [efd]
  exact match us, hl with | [_, _], _ => rfl
end
end Wk

set_option linter.all false
namespace Wk
abbrev Ch := List (Int × Int)
/-- the first parameter behind a choice -/
def fst' (c : Ch) : Int := match c.getLast? with
  | none => 0
  | some p => p.1 + 1
def ext (c : Ch) (p : Int) (vs : List Int) : List Ch := vs.map fun v => c ++ [(p, v)]
def rngI (i : Int) (n : Nat) : List Int := (List.range n).map fun (k : Nat) => i + (k : Int)
/-- the longer choices below the parameter hi -/
def stepTo (cols : List (List Int)) (hi : Int) (c : Ch) : List Ch := (rngI (fst' c) (hi - fst' c).toNat).flatMap fun p => ext c p (cols.getD p.toNat [])
def step (cols : List (List Int)) (c : Ch) : List Ch := stepTo cols cols.length c
def among (cols : List (List Int)) : Nat → List Ch
  | 0 => [[]]
  | n + 1 => (among cols n).flatMap (step cols)
def lall (cols : List (List Int)) (s : Int) : Nat → List Ch
  | 0 => [[]]
  | k + 1 => (lall cols s k).flatMap (stepTo cols ((cols.length : Int) - s + k + 1))
theorem mem_rng {i x : Int} {n : Nat} : x ∈ rngI i n ↔ i ≤ x ∧ x < i + n := by
  unfold rngI
  constructor
  · intro h
    obtain ⟨k, hk, rfl⟩ := List.mem_map.mp h
    have := List.mem_range.mp hk
    omega
  · intro h
    exact List.mem_map.mpr ⟨(x - i).toNat, List.mem_range.mpr (by omega), by omega⟩
theorem mem_step {cols : List (List Int)} {hi : Int} {c d : Ch} : d ∈ stepTo cols hi c ↔ ∃ p v, d = c ++ [(p, v)] ∧ fst' c ≤ p ∧ p < hi ∧ v ∈ cols.getD p.toNat [] := by
  unfold stepTo ext
  constructor
  · intro h
    obtain ⟨p, hp, h⟩ := List.mem_flatMap.mp h
    obtain ⟨v, hv, rfl⟩ := List.mem_map.mp h
    have := mem_rng.mp hp
    exact ⟨p, v, rfl, by omega, by omega, hv⟩
  · rintro ⟨p, v, rfl, h1, h2, hv⟩
    exact List.mem_flatMap.mpr ⟨p, mem_rng.mpr (by omega), List.mem_map.mpr ⟨v, hv, rfl⟩⟩
theorem fst_snoc (c : Ch) (p v : Int) : fst' (c ++ [(p, v)]) = p + 1 := by
  simp [fst']
theorem among_len {cols : List (List Int)} : ∀ (n : Nat) (c : Ch), c ∈ among cols n → c.length = n
  | 0, c, h => by
    simp only [among, List.mem_singleton] at h
    rw [h]; rfl
  | n + 1, c, h => by
    simp only [among, List.mem_flatMap] at h
    obtain ⟨d, hd, h⟩ := h
    obtain ⟨p, v, rfl, _⟩ := mem_step.mp h
    have := among_len n d hd
    simp [this]
theorem fst_nonneg {cols : List (List Int)} : ∀ (n : Nat) (c : Ch), c ∈ among cols n → 0 ≤ fst' c
  | 0, c, h => by
    simp only [among, List.mem_singleton] at h
    rw [h]; simp [fst']
  | n + 1, c, h => by
    simp only [among, List.mem_flatMap] at h
    obtain ⟨d, hd, h⟩ := h
    obtain ⟨p, v, rfl, h1, _⟩ := mem_step.mp h
    have := fst_nonneg n d hd
    rw [fst_snoc]
    omega
/-- what the pairs are -/
theorem among_pair {cols : List (List Int)} : ∀ (n : Nat) (c : Ch), c ∈ among cols n → ∀ q ∈ c, 0 ≤ q.1 ∧ q.1 < cols.length ∧ q.2 ∈ cols.getD q.1.toNat []
  | 0, c, h, q, hq => by
    simp only [among, List.mem_singleton] at h
    rw [h] at hq
    cases hq
  | n + 1, c, h, q, hq => by
    simp only [among, List.mem_flatMap] at h
    obtain ⟨d, hd, h⟩ := h
    obtain ⟨p, v, rfl, h1, h2, h3⟩ := mem_step.mp h
    rcases List.mem_append.mp hq with hq | hq
    · exact among_pair n d hd q hq
    · have := List.mem_singleton.mp hq
      subst this
      have := fst_nonneg n d hd
      exact ⟨by show 0 ≤ p; omega, h2, h3⟩
/-- the parameters ascend -/
theorem among_asc {cols : List (List Int)} : ∀ (n : Nat) (c : Ch), c ∈ among cols n → c.Pairwise (fun a b => a.1 < b.1) ∧ ∀ q ∈ c, q.1 < fst' c
  | 0, c, h => by
    simp only [among, List.mem_singleton] at h
    subst h
    exact ⟨.nil, fun q hq => by cases hq⟩
  | n + 1, c, h => by
    simp only [among, List.mem_flatMap] at h
    obtain ⟨d, hd, h⟩ := h
    obtain ⟨p, v, rfl, h1, h2, h3⟩ := mem_step.mp h
    obtain ⟨i1, i2⟩ := among_asc n d hd
    refine ⟨List.pairwise_append.mpr ⟨i1, by simp, fun a ha b hb => ?_⟩, fun q hq => ?_⟩
    · have := List.mem_singleton.mp hb
      subst this
      have := i2 a ha
      show a.1 < p
      omega
    · rw [fst_snoc]
      rcases List.mem_append.mp hq with hq | hq
      · have := i2 q hq
        omega
      · have := List.mem_singleton.mp hq
        subst this
        show p < p + 1
        omega
theorem rng_cut (i : Int) (n m : Nat) (h : m ≤ n) : (rngI i n).filter (fun p => decide (p < i + m)) = rngI i m := by
  unfold rngI
  rw [List.filter_map]
  congr 1
  have e : ((fun p : Int => decide (p < i + m)) ∘ fun (k : Nat) => i + (k : Int)) = fun k => decide (k < m) := by
    funext k
    simp
  rw [e]
  induction n with
  | zero =>
    have : m = 0 := by omega
    subst this
    rfl
  | succ n ih =>
    rw [List.range_succ, List.filter_append]
    by_cases hm : m ≤ n
    · rw [ih hm]
      have : ¬ n < m := by omega
      simp [this]
    · have : m = n + 1 := by omega
      subst this
      have e2 : (List.range n).filter (fun k => decide (k < n + 1)) = List.range n := by
        rw [List.filter_eq_self]
        intro k hk
        have := List.mem_range.mp hk
        simp
        omega
      rw [e2, List.range_succ]
      simp
def okc (B : Int) (c : Ch) : Bool := decide (fst' c ≤ B)
theorem step_cut (cols : List (List Int)) (hi B : Int) (c : Ch) (h : B ≤ hi) : (stepTo cols hi c).filter (okc B) = stepTo cols B c := by
  unfold stepTo
  rw [List.filter_flatMap]
  have e : (fun p => (ext c p (cols.getD p.toNat [])).filter (okc B)) = fun p => if p < B then ext c p (cols.getD p.toNat []) else [] := by
    funext p
    unfold ext
    rw [List.filter_map]
    have e2 : (okc B ∘ fun v => c ++ [(p, v)]) = fun _ => decide (p < B) := by
      funext v
      simp only [Function.comp, okc, fst_snoc]
      by_cases hp : p < B
      · have : p + 1 ≤ B := by omega
        simp [hp, this]
      · have : ¬ p + 1 ≤ B := by omega
        simp [hp, this]
    rw [e2]
    by_cases hp : p < B
    · rw [if_pos hp, List.filter_eq_self.mpr (fun _ _ => decide_eq_true hp)]
    · rw [if_neg hp, List.filter_eq_nil_iff.mpr (fun _ _ => by simp [hp])]
      rfl
  rw [e]
  have e3 : ∀ (l : List Int) (f : Int → List Ch), l.flatMap (fun p => if p < B then f p else []) = (l.filter fun p => decide (p < B)).flatMap f := by
    intro l f
    induction l with
    | nil => rfl
    | cons x l ih =>
      rw [List.flatMap_cons, ih, List.filter_cons]
      by_cases hx : x < B
      · simp [hx]
      · simp [hx]
  rw [e3]
  congr 1
  by_cases hb : fst' c ≤ B
  · have := rng_cut (fst' c) (hi - fst' c).toNat (B - fst' c).toNat (by omega)
    rw [show fst' c + ((B - fst' c).toNat : Int) = B from by omega] at this
    exact this
  · have e0 : (B - fst' c).toNat = 0 := by omega
    rw [e0]
    rw [List.filter_eq_nil_iff.mpr]
    · rfl
    · intro x hx
      have := mem_rng.mp hx
      simp
      omega
theorem step_nil (cols : List (List Int)) (B : Int) (c : Ch) (h : ¬ fst' c ≤ B) : stepTo cols (B + 1) c = [] ∨ fst' c = B + 1 := by
  by_cases e : fst' c = B + 1
  · exact .inr e
  · left
    unfold stepTo
    have : (B + 1 - fst' c).toNat = 0 := by omega
    rw [this]
    rfl
theorem step_end (cols : List (List Int)) (hi : Int) (c : Ch) (h : hi ≤ fst' c) : stepTo cols hi c = [] := by
  unfold stepTo
  have : (hi - fst' c).toNat = 0 := by omega
  rw [this]
  rfl
theorem flat_filter {α β : Type} (l : List α) (p : α → Bool) (f : α → List β) (h : ∀ a ∈ l, p a = false → f a = []) : (l.filter p).flatMap f = l.flatMap f := by
  induction l with
  | nil => rfl
  | cons a l ih =>
    rw [List.filter_cons, List.flatMap_cons]
    have ih := ih fun b hb => h b (List.mem_cons_of_mem _ hb)
    cases e : p a with
    | true => simp [ih]
    | false => simp [ih, h a List.mem_cons_self e]
theorem lall_eq (cols : List (List Int)) (s : Nat) (hs : s ≤ cols.length) : ∀ k : Nat, k ≤ s → lall cols s k = (among cols k).filter (okc ((cols.length : Int) - s + k))
  | 0, _ => by
    have h0 : okc ((cols.length : Int) - s + (0 : Nat)) [] = true := decide_eq_true (show (0 : Int) ≤ (cols.length : Int) - s + (0 : Nat) by omega)
    show [[]] = List.filter _ [[]]
    rw [List.filter_cons_of_pos h0]
    rfl
  | k + 1, hk => by
    rw [lall, among, lall_eq cols s hs k (by omega), List.filter_flatMap]
    rw [flat_filter]
    · congr 1
      funext c
      show _ = (stepTo cols cols.length c).filter _
      rw [step_cut _ _ _ _ (by omega)]
      congr 1
      omega
    · intro c _ hc
      unfold okc at hc
      simp only [decide_eq_false_iff_not] at hc
      exact step_end _ _ _ (by omega)
theorem lall_full (cols : List (List Int)) (s : Nat) (hs : s ≤ cols.length) : lall cols s s = among cols s := by
  rw [lall_eq cols s hs s (Nat.le_refl _), List.filter_eq_self]
  intro c hc
  cases s with
  | zero =>
    simp only [among, List.mem_singleton] at hc
    subst hc
    simp [okc, fst']
  | succ n =>
    simp only [among, List.mem_flatMap] at hc
    obtain ⟨d, hd, h⟩ := hc
    obtain ⟨p, v, rfl, h1, h2, h3⟩ := mem_step.mp h
    unfold okc
    rw [fst_snoc]
    simp only [decide_eq_true_eq]
    omega
/-! ### rows -/
def holdsB (row : List Int) (c : Ch) : Bool := c.all fun q => decide (row.getD q.1.toNat 0 = q.2)
def single (row : List Int) : List (List Int) := row.map fun v => [v]
theorem single_at (row : List Int) (i : Nat) (h : i < row.length) : (single row).getD i [] = [row.getD i 0] := by
  simp [single, List.getD, List.getElem?_eq_getElem h]
theorem holds_iff (cols : List (List Int)) (row : List Int) (hl : row.length = cols.length) : ∀ (n : Nat) (c : Ch), c ∈ among cols n → (c ∈ among (single row) n ↔ holdsB row c = true)
  | 0, c, h => by
    simp only [among, List.mem_singleton] at h ⊢
    subst h
    simp [holdsB]
  | n + 1, c, h => by
    have h0 := h
    simp only [among, List.mem_flatMap] at h
    obtain ⟨d, hd, h⟩ := h
    obtain ⟨p, v, rfl, h1, h2, h3⟩ := mem_step.mp h
    have ih := holds_iff cols row hl n d hd
    have p0 := fst_nonneg n d hd
    have hp : p.toNat < row.length := by omega
    have sl : (single row).length = row.length := by simp [single]
    have hh : holdsB row (d ++ [(p, v)]) = true ↔ holdsB row d = true ∧ row.getD p.toNat 0 = v := by
      simp [holdsB, List.all_append]
    rw [hh, ← ih]
    simp only [among, List.mem_flatMap]
    constructor
    · rintro ⟨d', hd', h'⟩
      obtain ⟨p', v', e, g1, g2, g3⟩ := mem_step.mp h'
      have e1 := List.append_inj' e rfl
      obtain ⟨rfl, e2⟩ := e1
      injection e2 with e2
      injection e2 with e3 e4
      subst e3 e4
      rw [single_at row p.toNat hp] at g3
      simp at g3
      exact ⟨hd', g3.symm⟩
    · rintro ⟨g1, g2⟩
      refine ⟨d, g1, mem_step.mpr ⟨p, v, rfl, h1, by omega, ?_⟩⟩
      rw [single_at row p.toNat hp]
      simp
      exact g2.symm
theorem step_len (cols : List (List Int)) (hi : Int) (c : Ch) (w : Nat) (n : Nat) (hw : ∀ l ∈ cols, l.length ≤ w) (h0 : 0 ≤ fst' c) (hn : hi ≤ n) : (stepTo cols hi c).length ≤ n * w := by
  unfold stepTo
  have key : ∀ (l : List Int), (l.flatMap fun p => ext c p (cols.getD p.toNat [])).length ≤ l.length * w := by
    intro l
    induction l with
    | nil => simp
    | cons x l ih =>
      have hx : (cols.getD x.toNat []).length ≤ w := by
        by_cases hh : x.toNat < cols.length
        · simp only [List.getD, List.getElem?_eq_getElem hh, Option.getD_some]
          exact hw _ (List.getElem_mem hh)
        · simp [List.getD, List.getElem?_eq_none (by omega : cols.length ≤ x.toNat)]
      rw [List.flatMap_cons, List.length_append, List.length_cons, Nat.add_mul]
      simp only [ext, List.length_map]
      simp only [ext] at ih
      omega
  refine Nat.le_trans (key _) (Nat.mul_le_mul_right _ ?_)
  simp [rngI]
  omega
theorem among_count (cols : List (List Int)) (w : Nat) (hw : ∀ l ∈ cols, l.length ≤ w) : ∀ n : Nat, (among cols n).length ≤ (cols.length * w) ^ n
  | 0 => by simp [among]
  | n + 1 => by
    rw [among]
    have ih := among_count cols w hw n
    have key : ∀ (l : List Ch), (∀ c ∈ l, 0 ≤ fst' c) → (l.flatMap (step cols)).length ≤ l.length * (cols.length * w) := by
      intro l hl
      induction l with
      | nil => simp
      | cons x l ih =>
        have := step_len cols cols.length x w cols.length hw (hl x List.mem_cons_self) (Int.le_refl _)
        rw [List.flatMap_cons, List.length_append, List.length_cons, Nat.add_mul]
        have ih := ih fun c hc => hl c (List.mem_cons_of_mem _ hc)
        simp only [step] at ih ⊢
        omega
    refine Nat.le_trans (key _ fun c hc => fst_nonneg n c hc) ?_
    rw [Nat.pow_succ]
    exact Nat.mul_le_mul_right _ ih
end Wk

set_option Elab.async false
set_option linter.all false
set_option maxRecDepth 100000
set_option maxHeartbeats 4000000
namespace Wk
open PySem PySem.Spec PyProof.Rows L2 PD
/-! ### the bag -/
structure Bag where
  g : Int
  c : Int
  n : Int
  hc : 0 ≤ c ∧ c < 2147483647
def Bag.t (b : Bag) : T := .lst [.sh (.int b.g), .sh (.int b.c), .sh (.int b.n)]
def scr (ns : List Int) : D := .scr (ns.map .int)
def BIG : Int := (10 ^ 64) ^ 4
theorem big_pos : 0 < BIG := by decide +kernel
theorem pow64 : fPow (.int 10) (.int 64) = some (.sh (.int (10 ^ 64))) := f_pow _ _ (by decide +kernel)
theorem pow4 : fPow (.int (10 ^ 64)) (.int 4) = some (.sh (.int BIG)) := f_pow _ _ (by decide +kernel)
theorem pow18 : fPow (.int 10) (.int 18) = some (.sh (.int 1000000000000000000)) := f_pow _ _ (by decide +kernel)
theorem e_bag (ns : List Int) (at_ : Int) (h0 : 0 ≤ at_) (h1 : at_ < 1000) : ∃ b : Bag, F__law_bag [.v (.sh (scr ns)), iS at_] = .ok b.t [.v (.sh (scr ns)), iS at_] := by
  have hm : CMul 7919 (at_ + 1) := .inl (by decide)
  cases ns with
  | nil =>
    refine ⟨⟨if 1000000000000000000 ≤ 7919 * (at_ + 1) then 7919 * (at_ + 1) else 0, 7919 * (at_ + 1) % 2147483647, 0, by omega⟩, ?_⟩
    unfold F__law_bag
    rw [e_runF]
    unfold M__law_bag
    have h2 : ¬ at_ < 0 := by omega
    by_cases hb : 1000000000000000000 ≤ 7919 * (at_ + 1) <;> simp [Bag.t, scr, f_mul, hm, f_mod, pow18, hb, h2]
  | cons x xs =>
    have l0 : (0 : Int) < (xs.length : Int) + 1 := by omega
    by_cases ha : at_ < (xs.length : Int) + 1
    · obtain ⟨y, hy⟩ : ∃ y, atI (x :: xs) at_ = some y := by
        rw [atI_in h0 (by simpa using ha)]
        exact ⟨_, List.getElem?_eq_getElem (by simp; omega)⟩
      have hy2 : atI (D.int x :: xs.map D.int) at_ = some (.int y) := by
        have e := atI_map D.int (x :: xs) at_
        rw [hy] at e
        exact e
      refine ⟨⟨if 1000000000000000000 ≤ y % BIG then y % BIG else 0, y % BIG % 2147483647, 0, by omega⟩, ?_⟩
      unfold F__law_bag
      rw [e_runF]
      unfold M__law_bag
      by_cases hb : 1000000000000000000 ≤ y % BIG <;> simp [Bag.t, scr, f_mul, hm, f_mod y _ big_pos, f_mod, pow18, pow64, pow4, hb, ha, l0, hy2, -Int.reducePow]
    · refine ⟨⟨if 1000000000000000000 ≤ 7919 * (at_ + 1) + x % 1000003 then 7919 * (at_ + 1) + x % 1000003 else 0, (7919 * (at_ + 1) + x % 1000003) % 2147483647, 0, by omega⟩, ?_⟩
      unfold F__law_bag
      rw [e_runF]
      unfold M__law_bag
      by_cases hb : 1000000000000000000 ≤ 7919 * (at_ + 1) + x % 1000003 <;> simp [Bag.t, scr, f_mul, hm, f_mod, pow18, hb, ha, l0]
def take (b : Bag) (L : Int) : Int × Bag :=
  if 0 < b.g then (b.g % L, ⟨b.g / L, b.c, b.n, b.hc⟩)
  else
    let c := (b.c * 48271 + (b.n + 1) * 69621 + 12345) % 2147483647
    ((c * c + 16807 * c) % 2147483629 / 64 % L, ⟨b.g, c, b.n + 1, by omega⟩)
theorem take_ge (b : Bag) (L : Int) (h : 0 < L) : 0 ≤ (take b L).1 := by
  unfold take
  split
  · exact Int.emod_nonneg _ (by omega)
  · exact Int.emod_nonneg _ (by omega)
theorem take_lt (b : Bag) (L : Int) (h : 0 < L) : (take b L).1 < L := by
  unfold take
  split
  · exact Int.emod_lt_of_pos _ h
  · exact Int.emod_lt_of_pos _ h
theorem e_take (b : Bag) (L : Int) (h0 : 0 < L) (h1 : L < 1073741824) : F__law_take [.v b.t, iS L] = .ok (.sh (.int (take b L).1)) [.v (take b L).2.t, iS L] := by
  obtain ⟨g, c, n, hc⟩ := b
  unfold F__law_take
  rw [e_runF]
  unfold M__law_take take
  by_cases hg : 0 < g
  · simp [Bag.t, hg, f_mod, f_fdiv g L ⟨h0, h1⟩, h0]
  · have hc1 : CMul c 48271 := .inr (by decide)
    have hc2 : CMul (n + 1) 69621 := .inr (by decide)
    have hx : ∀ x : Int, CMul (x % 2147483647) (x % 2147483647) := fun x => .inl (by omega)
    have hy : ∀ x : Int, CMul 16807 x := fun x => .inl (by decide)
    have hd : ∀ x : Int, fFdiv (.int x) (.int 64) = some (.sh (.int (x / 64))) := fun x => f_fdiv x 64 ⟨by decide, by decide⟩
    simp [Bag.t, hg, f_mod, f_mul, h0, hc1, hc2, hx, hy, hd]
theorem tk (b : Bag) (L : Int) (h0 : 0 < L) (h1 : L < 1073741824) : ∃ (r : Int) (b' : Bag), F__law_take [.v b.t, iS L] = .ok (.sh (.int r)) [.v b'.t, iS L] ∧ 0 ≤ r ∧ r < L :=
  ⟨_, _, e_take b L h0 h1, take_ge b L h0, take_lt b L h0⟩
theorem e_integer (i : Int) : F__law_integer [iS i] = .ok (.sh (.bl true)) [iS i] := by
  unfold F__law_integer
  rw [e_runF]
  unfold M__law_integer
  simp -implicitDefEqProofs []
theorem e_is_whole (i : Int) : F_is_whole [iS i] = .ok (.sh (.bl true)) [iS i] := by
  unfold F_is_whole
  rw [e_runF]
  unfold M_is_whole
  simp -implicitDefEqProofs []
theorem rng_ok (n : Nat) (h : n ≤ 100000) : fRng1 [.int (n : Int)] = some (((List.range n).map fun (i : Nat) => (i : Int)).map D.int) := by
  have r := f_rng1 n (by omega) (by omega)
  rwa [Int.toNat_natCast] at r
theorem cs_at (cs : List Int) (k : Nat) (hk : k < cs.length) : atI (cs.map D.int) (k : Int) = some (.int (cs.getD k 0)) := by
  have e := atI_ints cs k (by omega) (by omega)
  rwa [Int.toNat_natCast] at e
@[simp] theorem tl_fold3 (xs : List Int) : T.lst (List.map T.sh (List.map D.int xs)) = tl xs := by
  rw [List.map_map]
  rfl
theorem f_min2 (i j : Int) : fMin [.int i, .int j] = some (.sh (.int (if j < i then j else i))) := rfl
theorem f_max2 (i j : Int) : fMax [.int i, .int j] = some (.sh (.int (if j > i then j else i))) := rfl
def mapD (f : Int → Int) : D → T
  | .int i => .sh (.int (f i))
  | _ => .sh .non
theorem map_mapD (f : Int → Int) (vs : List Int) : T.lst (((vs.map D.int).filter fun _ => true).map (mapD f)) = tl (vs.map f) := by
  rw [List.filter_eq_self.mpr (fun _ _ => rfl)]
  simp [tl, mapD, -tl_fold, -tl_fold2, Function.comp_def]
/-- an owned list of ints in a slot, as it was made or as it was read once -/
def isl (s : Sl) (xs : List Int) : Prop := s = .v (tl xs) ∨ s = dS (il xs)
theorem isl_np {s : Sl} {xs : List Int} (h : isl s xs) : s.np = true := by
  rcases h with rfl | rfl <;> rfl
end Wk

set_option Elab.async false
set_option linter.all false
set_option maxRecDepth 100000
set_option maxHeartbeats 4000000
namespace Wk
open PySem PySem.Spec PyProof.Rows L2 PD
def pD (q : Int × Int) : D := .tup [.int q.1, .int q.2]
def cD (c : Ch) : D := .tup (c.map pD)
def cT (c : Ch) : T := .tup ((c.map pD).map .sh)
def tC (cs : List Ch) : T := .lst (cs.map cT)
def lC (cs : List Ch) : D := .lst (cs.map cD)
theorem cT_d (c : Ch) : (cT c).d = cD c := by simp [cT, cD]
theorem tC_d (cs : List Ch) : (tC cs).d = lC cs := by
  simp only [tC, td_lst, List.map_map, lC]
  congr 1
  apply List.map_congr_left
  intro c _
  exact cT_d c
theorem nm_tC (i : Nat) (ρ : List Sl) (cs : List Ch) : nmS i ρ (some (.v (tC cs))) = .ok (lC cs) (ρ.set i (dS (lC cs))) := by
  show Out.ok (tC cs).d (ρ.set i (.v (.sh (tC cs).d))) = _
  rw [tC_d]
theorem app0_tC (i : Nat) (m : M T) (ρ : List Sl) (xs : List Ch) : app0 i m ρ (some (tC xs)) = (m ρ).bindS fun t ρ' => app1 i t ρ' ρ'[i]? := rfl
theorem app2_tC (i : Nat) (c : Ch) (s : Sl) (ρ : List Sl) (xs : List Ch) (h : xs.length ≤ 1000000) : app2 i (cT c) s ρ (some (tC xs)) = .nx (ρ.set i (s.re (tC (xs ++ [c])))) := by
  unfold tC
  rw [app2_lst _ _ _ _ _ (by simp [sizeLine]; omega)]
  simp
theorem tup_ch (c : Ch) (p v : Int) (h : c.length ≤ 1000) : fTupD (c.map pD ++ [D.tup [.int p, .int v]]) = some (cT (c ++ [(p, v)])) := by
  rw [f_tup _ (by simp [sizeLine]; omega)]
  simp [cT, pD]
theorem lp_ca1 (cd : D) (s1 s2 s3 s6 : Sl) (c : Ch) (hc : c.length ≤ 1000) (p : Int) : ∀ (vs : List Int) (acc : List Ch) (s8 : Sl), acc.length + vs.length ≤ 1000000 → s8.np = true →
    ∃ t8, t8.np = true ∧ mFor (tgN 8) L_choices_among_1 (vs.map .int) [dS cd, s1, s2, s3, .v (tC acc), dS (cD c), s6, iS p, s8] = .nx [dS cd, s1, s2, s3, .v (tC (acc ++ ext c p vs)), dS (cD c), s6, iS p, t8]
  | [], acc, s8, _, n => ⟨s8, n, by simp [Wk.ext]⟩
  | v :: vs, acc, s8, hz, n => by
    simp only [List.length_cons] at hz
    obtain ⟨t8, n8, e⟩ := lp_ca1 cd s1 s2 s3 s6 c hc p vs (acc ++ [c ++ [(p, v)]]) (iS v) (by simp; omega) rfl
    have z : acc.length ≤ 1000000 := by omega
    have f := tup_ch c p v hc
    have e2 : ext c p (v :: vs) = (c ++ [(p, v)]) :: ext c p vs := rfl
    refine ⟨t8, n8, ?_⟩
    rw [List.map_cons, e_mFor_cons]
    rw [List.append_assoc, List.singleton_append, ← e2] at e
    simp -implicitDefEqProofs [setV_z, n, L_choices_among_1, cD, f, app0_tC, app2_tC, z]
    rw [← cD]
    exact e
def cols (cs : List (List Int)) : D := .lst (cs.map fun l => il l)
theorem col_at (cs : List (List Int)) (p : Int) (h0 : 0 ≤ p) (h1 : p < cs.length) : atI (cs.map fun l => il l) p = some (il (cs.getD p.toNat [])) := by
  rw [atI_map, atI_in h0 h1]
  have : p.toNat < cs.length := by omega
  simp [List.getD, List.getElem?_eq_getElem this]
theorem lp_ca2 (cs : List (List Int)) (s1 s2 s3 s6 : Sl) (c : Ch) (hc : c.length ≤ 1000) : ∀ (ps : List Int) (acc : List Ch) (s7 s8 : Sl), (∀ p ∈ ps, 0 ≤ p ∧ p < cs.length) → acc.length + (ps.flatMap fun p => ext c p (cs.getD p.toNat [])).length ≤ 1000000 → s7.np = true → s8.np = true →
    ∃ t7 t8, t7.np = true ∧ t8.np = true ∧ mFor (tgN 7) L_choices_among_2 (ps.map .int) [dS (cols cs), s1, s2, s3, .v (tC acc), dS (cD c), s6, s7, s8] = .nx [dS (cols cs), s1, s2, s3, .v (tC (acc ++ ps.flatMap fun p => ext c p (cs.getD p.toNat []))), dS (cD c), s6, t7, t8]
  | [], acc, s7, s8, _, _, n7, n8 => ⟨s7, s8, n7, n8, by simp⟩
  | p :: ps, acc, s7, s8, hp, hz, n7, n8 => by
    rw [List.flatMap_cons, List.length_append] at hz
    have hp0 := hp p List.mem_cons_self
    have hx : (ext c p (cs.getD p.toNat [])).length = (cs.getD p.toNat []).length := by simp only [Wk.ext, List.length_map]
    obtain ⟨u8, m8, e1⟩ := lp_ca1 (cols cs) s1 s2 s3 s6 c hc p (cs.getD p.toNat []) acc s8 (by omega) n8
    obtain ⟨t7, t8, m7, m8', e2⟩ := lp_ca2 cs s1 s2 s3 s6 c hc ps (acc ++ ext c p (cs.getD p.toNat [])) (iS p) u8 (fun q hq => hp q (List.mem_cons_of_mem _ hq)) (by rw [List.length_append]; omega) rfl m8
    refine ⟨t7, t8, m7, m8', ?_⟩
    have a := col_at cs p hp0.1 hp0.2
    rw [List.append_assoc] at e2
    rw [List.map_cons, e_mFor_cons, List.flatMap_cons]
    generalize (List.flatMap (fun p => ext c p (cs.getD p.toNat [])) ps) = R at *
    generalize ext c p (cs.getD p.toNat []) = R1 at *
    generalize cs.getD p.toNat [] = vs at *
    generalize cD c = cd at *
    unfold cols at *
    generalize (cs.map fun l => il l) = cl at *
    simp -implicitDefEqProofs [setV_z, n7, L_choices_among_2, a, e1, e2]
theorem last_neg (c : Ch) (h : c ≠ []) : ∃ q : Int × Int, atI (c.map pD) (-1) = some (pD q) ∧ atI (c.map pD) ((c.length : Int) - 1) = some (pD q) ∧ fst' c = q.1 + 1 := by
  have hl : 0 < c.length := List.length_pos_iff.mpr h
  refine ⟨c[c.length - 1], ?_, ?_, ?_⟩
  · rw [atI_map]
    unfold atI
    rw [ixN_neg (by decide) (by omega)]
    have e : (-1 + (c.length : Int)).toNat = c.length - 1 := by omega
    simp [e, List.getElem?_eq_getElem (by omega : c.length - 1 < c.length)]
  · rw [atI_map, atI_in (by omega) (by omega)]
    have e : ((c.length : Int) - 1).toNat = c.length - 1 := by omega
    simp [e, List.getElem?_eq_getElem (by omega : c.length - 1 < c.length)]
  · unfold fst'
    rw [List.getLast?_eq_getElem?, List.getElem?_eq_getElem (by omega)]
theorem tru_tup (ds : List D) : (D.tup ds).tru = some (!ds.isEmpty) := rfl
theorem rngI_D (i j : Int) (h1 : -1000 ≤ i) (h2 : i ≤ 1000000) (h3 : -1000 ≤ j) (h4 : j ≤ 1000000) : fRng2 [.int i, .int j] = some ((rngI i (j - i).toNat).map D.int) := f_rng2 i j (by omega) (by omega) (by omega) (by omega)
theorem turn_ca3 (cs : List (List Int)) (s1 s2 s3 s6 s7 s8 : Sl) (c : Ch) (hc : c.length ≤ 1000) (acc : List Ch) (h0 : 0 ≤ fst' c) (hf : fst' c ≤ 1000) (hcs : cs.length ≤ 1000) (hz : acc.length + (step cs c).length ≤ 1000000) (n6 : s6.np = true) (n7 : s7.np = true) (n8 : s8.np = true) :
    ∃ t6 t7 t8, t6.np = true ∧ t7.np = true ∧ t8.np = true ∧ L_choices_among_3 [dS (cols cs), s1, s2, s3, .v (tC acc), dS (cD c), s6, s7, s8] = .nx [dS (cols cs), s1, s2, s3, .v (tC (acc ++ step cs c)), dS (cD c), t6, t7, t8] := by
  obtain ⟨t7, t8, m7, m8, e⟩ := lp_ca2 cs s1 s2 s3 (iS (fst' c)) c hc (rngI (fst' c) ((cs.length : Int) - fst' c).toNat) acc s7 s8 (fun p hp => by have := mem_rng.mp hp; omega) hz n7 n8
  refine ⟨iS (fst' c), t7, t8, rfl, m7, m8, ?_⟩
  have r := rngI_D (fst' c) cs.length (by omega) (by omega) (by omega) (by omega)
  have lc : (cs.map fun l => il l).length = cs.length := by simp
  have es : (rngI (fst' c) ((cs.length : Int) - fst' c).toNat).flatMap (fun p => ext c p (cs.getD p.toNat [])) = step cs c := rfl
  rw [es] at e
  generalize rngI (fst' c) ((cs.length : Int) - fst' c).toNat = ps at *
  generalize step cs c = R at *
  unfold cols cD at *
  generalize (cs.map fun l => il l) = cl at *
  by_cases hn : c = []
  · subst hn
    have f0 : fst' [] = 0 := rfl
    rw [f0] at r e ⊢
    simp -implicitDefEqProofs [setV_z, n6, L_choices_among_3, tru_tup, lc, r, e, -List.map_map]
    rw [show (List.map pD ([] : Ch)) = [] from rfl] at e
    exact e
  · obtain ⟨q, q1, _, q3⟩ := last_neg c hn
    have ne : (c.map pD).isEmpty = false := by
      cases c with
      | nil => exact absurd rfl hn
      | cons a c => rfl
    generalize c.map pD = pd at *
    rw [q3] at r e ⊢
    simp -implicitDefEqProofs [setV_z, n6, L_choices_among_3, tru_tup, ne, q1, pD, lc, r, e, -List.map_map]
end Wk

set_option Elab.async false
set_option linter.all false
set_option maxRecDepth 100000
set_option maxHeartbeats 4000000
namespace Wk
open PySem PySem.Spec PyProof.Rows L2 PD
theorem lp_ca3 (cs : List (List Int)) (s1 s2 s3 : Sl) (hcs : cs.length ≤ 1000) : ∀ (fs acc : List Ch) (s5 s6 s7 s8 : Sl), (∀ c ∈ fs, c.length ≤ 1000 ∧ 0 ≤ fst' c ∧ fst' c ≤ 1000) → acc.length + (fs.flatMap (step cs)).length ≤ 1000000 → s5.np = true → s6.np = true → s7.np = true → s8.np = true →
    ∃ t5 t6 t7 t8, t5.np = true ∧ t6.np = true ∧ t7.np = true ∧ t8.np = true ∧ mFor (tgN 5) L_choices_among_3 (fs.map cD) [dS (cols cs), s1, s2, s3, .v (tC acc), s5, s6, s7, s8] = .nx [dS (cols cs), s1, s2, s3, .v (tC (acc ++ fs.flatMap (step cs))), t5, t6, t7, t8]
  | [], acc, s5, s6, s7, s8, _, _, n5, n6, n7, n8 => ⟨s5, s6, s7, s8, n5, n6, n7, n8, by simp⟩
  | c :: fs, acc, s5, s6, s7, s8, hf, hz, n5, n6, n7, n8 => by
    rw [List.flatMap_cons, List.length_append] at hz
    obtain ⟨c1, c2, c3⟩ := hf c List.mem_cons_self
    obtain ⟨u6, u7, u8, m6, m7, m8, e1⟩ := turn_ca3 cs s1 s2 s3 s6 s7 s8 c c1 acc c2 c3 hcs (by omega) n6 n7 n8
    obtain ⟨t5, t6, t7, t8, k5, k6, k7, k8, e2⟩ := lp_ca3 cs s1 s2 s3 hcs fs (acc ++ step cs c) (dS (cD c)) u6 u7 u8 (fun x hx => hf x (List.mem_cons_of_mem _ hx)) (by rw [List.length_append]; omega) rfl m6 m7 m8
    refine ⟨t5, t6, t7, t8, k5, k6, k7, k8, ?_⟩
    rw [List.append_assoc] at e2
    rw [List.map_cons, e_mFor_cons, List.flatMap_cons]
    generalize fs.flatMap (step cs) = R at *
    generalize step cs c = R1 at *
    generalize cD c = cd at *
    generalize cols cs = cl at *
    simp -implicitDefEqProofs [setV_z, n5, e1, e2]
/-- what the slot of the choices so far holds -/
def fnd (s : Sl) (fs : List Ch) : Prop := (s = .v (.lst [.sh (.tup [])]) ∧ fs = [[]]) ∨ s = dS (lC fs)
theorem turn_ca4 (cs : List (List Int)) (s1 s3 s4 s5 s6 s7 s8 : Sl) (s2 : Sl) (fs : List Ch) (hcs : cs.length ≤ 1000) (h2 : fnd s2 fs) (hf : ∀ c ∈ fs, c.length ≤ 1000 ∧ 0 ≤ fst' c ∧ fst' c ≤ 1000) (hz : (fs.flatMap (step cs)).length ≤ 1000000)
    (n4 : s4.np = true) (n5 : s5.np = true) (n6 : s6.np = true) (n7 : s7.np = true) (n8 : s8.np = true) :
    ∃ t5 t6 t7 t8, t5.np = true ∧ t6.np = true ∧ t7.np = true ∧ t8.np = true ∧ L_choices_among_4 [dS (cols cs), s1, s2, s3, s4, s5, s6, s7, s8] = .nx [dS (cols cs), s1, dS (lC (fs.flatMap (step cs))), s3, dS (lC (fs.flatMap (step cs))), t5, t6, t7, t8] := by
  obtain ⟨t5, t6, t7, t8, k5, k6, k7, k8, e⟩ := lp_ca3 cs s1 (dS (lC fs)) s3 hcs fs [] s5 s6 s7 s8 hf (by simpa using hz) n5 n6 n7 n8
  refine ⟨t5, t6, t7, t8, k5, k6, k7, k8, ?_⟩
  rw [show tC [] = tl [] from rfl, List.nil_append] at e
  have l0 : (D.lst [.tup []]) = lC [[]] := rfl
  have lm : lC fs = .lst (fs.map cD) := rfl
  rcases h2 with ⟨rfl, rfl⟩ | rfl
  · generalize [[]].flatMap (step cs) = R at *
    have e' := e
    rw [← l0] at e'
    generalize cols cs = cl at *
    rw [show ([[]] : List Ch).map cD = [D.tup []] from rfl] at e'
    simp -implicitDefEqProofs [setV_z, n4, L_choices_among_4, e', nm_tC]
  · generalize fs.flatMap (step cs) = R at *
    generalize cols cs = cl at *
    rw [lm] at e ⊢
    simp -implicitDefEqProofs [setV_z, n4, L_choices_among_4, e, nm_tC]
theorem among_ok (cs : List (List Int)) (hcs : cs.length ≤ 6) (hw : ∀ l ∈ cs, l.length ≤ 5) (j : Nat) (hj : j ≤ 3) : (among cs j).length ≤ 27000 ∧ ∀ c ∈ among cs j, c.length ≤ 1000 ∧ 0 ≤ fst' c ∧ fst' c ≤ 1000 := by
  have hb := among_count cs 5 hw j
  have hb2 : (cs.length * 5) ^ j ≤ 30 ^ j := Nat.pow_le_pow_left (by omega) _
  have hb3 : 30 ^ j ≤ 30 ^ 3 := Nat.pow_le_pow_right (by decide) (by omega)
  refine ⟨by omega, fun c hc => ?_⟩
  have l := among_len j c hc
  refine ⟨by omega, fst_nonneg j c hc, ?_⟩
  cases j with
  | zero =>
    simp only [among, List.mem_singleton] at hc
    subst hc
    decide
  | succ j =>
    simp only [among, List.mem_flatMap] at hc
    obtain ⟨d, hd, h⟩ := hc
    obtain ⟨p, v, rfl, h1, h2, h3⟩ := mem_step.mp h
    rw [fst_snoc]
    omega
theorem lp_ca4 (cs : List (List Int)) (s1 : Sl) (hcs : cs.length ≤ 6) (hw : ∀ l ∈ cs, l.length ≤ 5) : ∀ (ks : List Int) (j : Nat) (s3 s4 s5 s6 s7 s8 : Sl), j + ks.length ≤ 3 → s3.np = true → s4.np = true → s5.np = true → s6.np = true → s7.np = true → s8.np = true →
    ∃ t3 t4 t5 t6 t7 t8, mFor (tgN 3) L_choices_among_4 (ks.map .int) [dS (cols cs), s1, dS (lC (among cs j)), s3, s4, s5, s6, s7, s8] = .nx [dS (cols cs), s1, dS (lC (among cs (j + ks.length))), t3, t4, t5, t6, t7, t8]
  | [], j, s3, s4, s5, s6, s7, s8, _, _, _, _, _, _, _ => ⟨s3, s4, s5, s6, s7, s8, by simp⟩
  | k :: ks, j, s3, s4, s5, s6, s7, s8, hj, n3, n4, n5, n6, n7, n8 => by
    simp only [List.length_cons] at hj
    obtain ⟨hb, hfs⟩ := among_ok cs hcs hw j (by omega)
    obtain ⟨hb1, _⟩ := among_ok cs hcs hw (j + 1) (by omega)
    obtain ⟨t5, t6, t7, t8, k5, k6, k7, k8, e1⟩ := turn_ca4 cs s1 (iS k) s4 s5 s6 s7 s8 (dS (lC (among cs j))) (among cs j) (by omega) (.inr rfl) hfs (by show (among cs (j + 1)).length ≤ _; omega) n4 n5 n6 n7 n8
    have ea : (among cs j).flatMap (step cs) = among cs (j + 1) := rfl
    rw [ea] at e1
    obtain ⟨u3, u4, u5, u6, u7, u8, e2⟩ := lp_ca4 cs s1 hcs hw ks (j + 1) (iS k) (dS (lC (among cs (j + 1)))) t5 t6 t7 t8 (by omega) rfl rfl k5 k6 k7 k8
    have ej : j + 1 + ks.length = j + (ks.length + 1) := by omega
    rw [ej] at e2
    refine ⟨u3, u4, u5, u6, u7, u8, ?_⟩
    rw [List.map_cons, e_mFor_cons, List.length_cons]
    generalize among cs (j + 1) = A at *
    generalize among cs (j + (ks.length + 1)) = B at *
    generalize cols cs = cl at *
    simp -implicitDefEqProofs [setV_z, n3, e1, e2]
theorem e_among (cs : List (List Int)) (hcs : cs.length ≤ 6) (hw : ∀ l ∈ cs, l.length ≤ 5) (n : Nat) (h1 : 1 ≤ n) (h3 : n ≤ 3) : F_choices_among [dS (cols cs), iS n] = .ok (.sh (lC (among cs n))) [dS (cols cs), iS n] := by
  obtain ⟨m, rfl⟩ : ∃ m, n = m + 1 := ⟨n - 1, by omega⟩
  have r := rng_ok (m + 1) (by omega)
  rw [show ((List.range (m + 1)).map fun (i : Nat) => (i : Int)) = 0 :: ((List.range m).map fun (i : Nat) => ((i + 1 : Nat) : Int)) from by
    rw [List.range_succ_eq_map, List.map_cons, List.map_map]
    rfl, List.map_cons] at r
  obtain ⟨hb1, _⟩ := among_ok cs hcs hw 1 (by omega)
  obtain ⟨_, hf0⟩ := among_ok cs hcs hw 0 (by omega)
  obtain ⟨t5, t6, t7, t8, k5, k6, k7, k8, e1⟩ := turn_ca4 cs (iS ((m + 1 : Nat) : Int)) (iS 0) .un .un .un .un .un (.v (.lst [.sh (.tup [])])) [[]] (by omega) (.inl ⟨rfl, rfl⟩) hf0 (by show (among cs 1).length ≤ _; omega) rfl rfl rfl rfl rfl
  have ea : ([[]] : List Ch).flatMap (step cs) = among cs 1 := rfl
  rw [ea] at e1
  obtain ⟨u3, u4, u5, u6, u7, u8, e2⟩ := lp_ca4 cs (iS ((m + 1 : Nat) : Int)) hcs hw ((List.range m).map fun (i : Nat) => ((i + 1 : Nat) : Int)) 1 (iS 0) (dS (lC (among cs 1))) t5 t6 t7 t8 (by simp; omega) rfl rfl k5 k6 k7 k8
  rw [List.length_map, List.length_range, Nat.add_comm 1 m] at e2
  unfold F_choices_among
  rw [e_runF]
  unfold M_choices_among
  generalize (List.range m).map (fun (i : Nat) => ((i + 1 : Nat) : Int)) = ks at *
  generalize ((m + 1 : Nat) : Int) = mi at *
  generalize among cs 1 = A at *
  generalize among cs (m + 1) = B at *
  generalize cols cs = cl at *
  simp -implicitDefEqProofs [r, e_mFor_cons, e1, e2, -List.map_map]
/-- the columns of the sizes -/
def szc (sz : List Int) : List (List Int) := sz.map fun z => rngI 0 z.toNat
theorem lrng1_eq (ma : M D) (ρ : List Sl) (n : Int) (h1 : ma ρ = .ok (.int n) ρ) (b : -1000000 ≤ n ∧ n ≤ 1000000) : mLRng1 ma ρ = .ok (tl (rngI 0 n.toNat)) ρ := by
  unfold mLRng1
  rw [h1, ob_ok]
  have g : rgOkB 0 n = true := by
    unfold rgOkB
    rw [decide_eq_true_eq]
    refine ⟨by omega, by omega, by omega, by omega, by omega⟩
  simp only [g, if_true]
  rw [rngD_int, Int.sub_zero]
  simp [tl, rngI, -tl_fold, -tl_fold2]
def rngT : D → T
  | .int z => tl (rngI 0 z.toNat)
  | _ => .sh .non
theorem e_choice_list (sz : List Int) (hz : sz.length ≤ 6) (h5 : ∀ z ∈ sz, 2 ≤ z ∧ z ≤ 5) (n : Nat) (h1 : 1 ≤ n) (h3 : n ≤ 3) : F_choice_list [dS (il sz), iS n] = .ok (.sh (lC (among (szc sz) n))) [dS (il sz), iS n] := by
  unfold F_choice_list
  rw [e_runF]
  unfold M_choice_list
  have lc : (szc sz).length ≤ 6 := by simp [szc, hz]
  have lw : ∀ l ∈ szc sz, l.length ≤ 5 := fun l hl => by
    obtain ⟨z, hz, rfl⟩ := List.mem_map.mp hl
    have b := h5 z hz
    rw [rngI, List.length_map, List.length_range]
    omega
  have e1 := e_among (szc sz) lc lw n h1 h3
  have c := mLc_eq (vs := [2]) (g := tgN 2) (mi := mSeqs (mName 0)) (mt := mYes) (me := mLRng1 (mName 2)) (ρ := [dS (il sz), iS n, .un]) (ρ1 := [dS (il sz), iS n, .un]) (ds := sz.map .int) (fun _ => true) rngT (fun d => [dS (il sz), iS n, dS d])
      (by simp -implicitDefEqProofs []) (by simp -implicitDefEqProofs [litS]) (by simp -implicitDefEqProofs []) (by simp [sizeLine]; omega) (fun d hd => by
        obtain ⟨z, hz, rfl⟩ := List.mem_map.mp hd
        have b := h5 z hz
        exact ⟨by simp -implicitDefEqProofs [], by simp -implicitDefEqProofs [], by simp -implicitDefEqProofs [], fun _ => lrng1_eq _ _ z (by simp -implicitDefEqProofs []) (by omega)⟩)
  rw [List.filter_eq_self.mpr (fun _ _ => rfl)] at c
  have ec : (T.lst ((sz.map D.int).map rngT)).d = cols (szc sz) := by
    have e5 : ∀ z : Int, (rngT (.int z)).d = il (rngI 0 z.toNat) := fun z => tl_d _
    rw [cols, szc, td_lst]
    refine congrArg D.lst ?_
    rw [List.map_map, List.map_map, List.map_map]
    exact List.map_congr_left fun z _ => e5 z
  generalize cols (szc sz) = cl at *
  generalize among (szc sz) n = A at *
  generalize T.lst ((sz.map D.int).map rngT) = tt at *
  simp -implicitDefEqProofs [c, ec, e1]
end Wk

set_option Elab.async false
set_option linter.all false
set_option maxRecDepth 100000
set_option maxHeartbeats 4000000
namespace Wk
open PySem PySem.Spec PyProof.Rows L2 PD
def xSp : Exn := ⟨"InvalidSpace", [], []⟩
def xCo (i : Int) : Exn := ⟨"InvalidCount", ["count"], [.int i]⟩
def sizB (sz : List Int) : Bool := sz.all fun z => decide (2 ≤ z) && decide (z ≤ 5)
def spaB (sz : List Int) : Bool := (decide (1 ≤ sz.length) && decide (sz.length ≤ 6)) && sizB sz
def strB (sz : List Int) (n : Int) : Bool := decide (1 ≤ n) && decide (n ≤ if (sz.length : Int) < 3 then (sz.length : Int) else 3)
theorem spa_iff (sz : List Int) : spaB sz = true ↔ (1 ≤ sz.length ∧ sz.length ≤ 6) ∧ ∀ z ∈ sz, 2 ≤ z ∧ z ≤ 5 := by
  simp [spaB, sizB]
theorem str_iff (sz : List Int) (n : Int) : strB sz n = true ↔ 1 ≤ n ∧ n ≤ 3 ∧ n ≤ sz.length := by
  simp only [strB, Bool.and_eq_true, decide_eq_true_eq]
  split <;> omega
theorem e_check_count (c lo hi : Int) : F_check_count [iS c, iS lo, iS hi] = if lo ≤ c ∧ c ≤ hi then .ok (.sh .non) [iS c, iS lo, iS hi] else .err (xCo c) [iS c, iS lo, iS hi] := by
  unfold F_check_count
  rw [e_runF]
  unfold M_check_count
  have w := e_is_whole c
  by_cases h1 : c < lo
  · have h1' : ¬ lo ≤ c := by omega
    simp -implicitDefEqProofs [w, h1, h1', xCo]
  · have h1' : lo ≤ c := by omega
    by_cases h2 : hi < c
    · have h2' : ¬ c ≤ hi := by omega
      simp -implicitDefEqProofs [w, h1, h2, h1', h2', xCo, D.isN]
    · have h2' : c ≤ hi := by omega
      simp -implicitDefEqProofs [w, h1, h2, h1', h2', D.isN]
theorem lp_cs (a : Sl) : ∀ (sz : List Int) (s : Sl), s.np = true → ∃ t, mFor (tgN 1) L_check_space_1 (sz.map .int) [a, s] = if sizB sz = true then .nx [a, t] else .err xSp [a, t]
  | [], s, n => ⟨s, by simp [sizB]⟩
  | z :: sz, s, n => by
    obtain ⟨t, e⟩ := lp_cs a sz (iS z) rfl
    have w := e_is_whole z
    rw [List.map_cons, e_mFor_cons]
    by_cases h : 2 ≤ z ∧ z ≤ 5
    · refine ⟨t, ?_⟩
      have es : sizB (z :: sz) = sizB sz := by simp [sizB, h]
      rw [es]
      simp -implicitDefEqProofs [setV_z, n, L_check_space_1, w, h, e]
    · refine ⟨iS z, ?_⟩
      have es : sizB (z :: sz) = false := by
        cases hh : sizB (z :: sz) with
        | false => rfl
        | true =>
          simp only [sizB, List.all_cons, Bool.and_eq_true, decide_eq_true_eq] at hh
          exact absurd hh.1 h
      rw [es]
      by_cases h2 : 2 ≤ z
      · have h5 : ¬ z ≤ 5 := fun x => h ⟨h2, x⟩
        simp -implicitDefEqProofs [setV_z, n, L_check_space_1, w, h2, h5, xSp]
      · simp -implicitDefEqProofs [setV_z, n, L_check_space_1, w, h2, xSp]
theorem e_check_space (sz : List Int) : F_check_space [dS (il sz)] = if spaB sz = true then .ok (.sh .non) [dS (il sz)] else .err xSp [dS (il sz)] := by
  unfold F_check_space
  rw [e_runF]
  unfold M_check_space
  obtain ⟨t, e⟩ := lp_cs (dS (il sz)) sz .un rfl
  by_cases h1 : (1 : Int) ≤ (sz.length : Int)
  · have h1' : 1 ≤ sz.length := by omega
    by_cases h2 : (sz.length : Int) ≤ 6
    · have h2' : sz.length ≤ 6 := by omega
      cases h3 : sizB sz <;> simp -implicitDefEqProofs [h1, h2, h1', h2', h3, e, spaB]
    · have h2' : ¬ sz.length ≤ 6 := by omega
      simp -implicitDefEqProofs [h1, h2, h1', h2', spaB, xSp]
  · have h1' : ¬ 1 ≤ sz.length := by omega
    simp -implicitDefEqProofs [h1, h1', spaB, xSp]
theorem e_check_strength (sz : List Int) (n : Int) : F_check_strength [dS (il sz), iS n] = if strB sz n = true then .ok (.sh .non) [dS (il sz), iS n] else .err (xCo n) [dS (il sz), iS n] := by
  unfold F_check_strength
  rw [e_runF]
  unfold M_check_strength strB
  have m := f_min2 3 sz.length
  have e := e_check_count n 1 (if (sz.length : Int) < 3 then (sz.length : Int) else 3)
  generalize (if (sz.length : Int) < 3 then (sz.length : Int) else 3) = hi at *
  by_cases h : 1 ≤ n ∧ n ≤ hi
  · rw [if_pos h] at e
    simp -implicitDefEqProofs [m, e, h]
  · rw [if_neg h] at e
    have h' : (decide (1 ≤ n) && decide (n ≤ hi)) = false := by
      cases hh : (decide (1 ≤ n) && decide (n ≤ hi)) with
      | false => rfl
      | true =>
        simp only [Bool.and_eq_true, decide_eq_true_eq] at hh
        exact absurd hh h
    rw [h']
    simp -implicitDefEqProofs [m, e]
/-! ### the generator -/
theorem gen_for (a b : Sl) : ∀ (ds acc : List D) (s : Sl), s.np = true → acc.length + ds.length ≤ 1000000 → ∃ t, gFor (tgN 2) (gSeq (gYield (mName 2)) gSkip) ds acc [a, b, s] = (acc ++ ds, .nx [a, b, t])
  | [], acc, s, n, hz => ⟨s, by simp [gFor]⟩
  | d :: ds, acc, s, n, hz => by
    simp only [List.length_cons] at hz
    obtain ⟨t, e⟩ := gen_for a b ds (acc ++ [d]) (dS d) rfl (by simp; omega)
    refine ⟨t, ?_⟩
    have hl : acc.length < sizeLine := by simp [sizeLine]; omega
    rw [gFor]
    simp -implicitDefEqProofs [setV_z, n, gSeq, gYield, hl, gYieldO, gThen, gSkip, gForT, e]
theorem e_choices (sz : List Int) (n : Int) : FG_choices [dS (il sz), iS n] = if spaB sz = true then (if strB sz n = true then .ok ((among (szc sz) n.toNat).map cD) [dS (il sz), iS n] else .err (xCo n) [dS (il sz), iS n]) else .err xSp [dS (il sz), iS n] := by
  have e1 := e_check_space sz
  have e2 := e_check_strength sz n
  unfold FG_choices runG
  rw [if_pos ⟨rfl, rfl⟩]
  unfold MG_choices
  by_cases h1 : spaB sz = true
  · rw [if_pos h1] at e1 ⊢
    by_cases h2 : strB sz n = true
    · rw [if_pos h2] at e2 ⊢
      obtain ⟨g1, g2, g3⟩ := (str_iff sz n).mp h2
      obtain ⟨k1, k2⟩ := (spa_iff sz).mp h1
      obtain ⟨m, rfl⟩ : ∃ m : Nat, n = (m : Int) := ⟨n.toNat, by omega⟩
      have e3 := e_choice_list sz k1.2 k2 m (by omega) (by omega)
      have lc : (szc sz).length ≤ 6 := by simp [szc]; omega
      have lw : ∀ l ∈ szc sz, l.length ≤ 5 := fun l hl => by
        obtain ⟨z, hz, rfl⟩ := List.mem_map.mp hl
        have b := k2 z hz
        rw [rngI, List.length_map, List.length_range]
        omega
      obtain ⟨l1, _⟩ := among_ok (szc sz) lc lw m (by omega)
      obtain ⟨t, e4⟩ := gen_for (dS (il sz)) (iS m) ((among (szc sz) m).map cD) [] .un rfl (by simp; omega)
      rw [List.nil_append] at e4
      rw [Int.toNat_natCast]
      unfold lC at e3
      generalize (among (szc sz) m).map cD = A at *
      generalize (m : Int) = mi at *
      simp -implicitDefEqProofs [gSeq, gPlain, gThen, e1, e2, gForS, gForO, e3, e4, gSkip, endG]
    · rw [if_neg h2] at e2 ⊢
      simp -implicitDefEqProofs [gSeq, gPlain, gThen, e1, e2, endG]
  · rw [if_neg h1] at e1 ⊢
    simp -implicitDefEqProofs [gSeq, gPlain, gThen, e1, endG]
end Wk

set_option Elab.async false
set_option linter.all false
set_option maxRecDepth 100000
set_option maxHeartbeats 4000000
namespace Wk
open PySem PySem.Spec PyProof.Rows L2 PD
def aT (c : Ch) (q : Int × Int) : T := if c = [] then .sh (.tup [pD q]) else .tup ((c.map pD ++ [pD q]).map .sh)
theorem aT_d (c : Ch) (q : Int × Int) : (aT c q).d = cD (c ++ [q]) := by
  unfold aT
  split
  · rename_i h
    subst h
    rfl
  · rw [td_tup_sh]
    simp [cD]
theorem add_ch (c : Ch) (q : Int × Int) (h : c.length ≤ 1000) : fAdd (cD c) (.tup [pD q]) = some (aT c q) := by
  unfold cD aT fAdd
  simp only
  rw [if_pos (by simp [sizeLine]; omega)]
  cases c with
  | nil => rfl
  | cons a c => rfl
def exT (c : Ch) (p : Int) (vs : List Int) : List T := vs.map fun v => aT c (p, v)
theorem exT_d (c : Ch) (p : Int) (vs : List Int) : (exT c p vs).map T.d = (ext c p vs).map cD := by
  unfold exT Wk.ext
  rw [List.map_map, List.map_map]
  exact List.map_congr_left fun v _ => aT_d c (p, v)
theorem nm_lst (i : Nat) (ρ : List Sl) (ts : List T) : nmS i ρ (some (.v (.lst ts))) = .ok (.lst (ts.map T.d)) (ρ.set i (dS (.lst (ts.map T.d)))) := by
  have e : (T.lst ts).d = .lst (ts.map T.d) := td_lst ts
  show Out.ok (T.lst ts).d (ρ.set i (.v (.sh (T.lst ts).d))) = _
  rw [e]
theorem lp_la1 (s0 s1 s2 s3 s6 : Sl) (c : Ch) (hc : c.length ≤ 1000) (p : Int) : ∀ (vs : List Int) (acc : List T) (s8 : Sl), acc.length + vs.length ≤ 1000000 → s8.np = true →
    ∃ t8, t8.np = true ∧ mFor (tgN 8) L__law_all_choices_1 (vs.map .int) [s0, s1, s2, s3, .v (.lst acc), dS (cD c), s6, iS p, s8] = .nx [s0, s1, s2, s3, .v (.lst (acc ++ exT c p vs)), dS (cD c), s6, iS p, t8]
  | [], acc, s8, _, n => ⟨s8, n, by simp [exT]⟩
  | v :: vs, acc, s8, hz, n => by
    simp only [List.length_cons] at hz
    obtain ⟨t8, n8, e⟩ := lp_la1 s0 s1 s2 s3 s6 c hc p vs (acc ++ [aT c (p, v)]) (iS v) (by simp; omega) rfl
    have z : acc.length < sizeLine := by simp [sizeLine]; omega
    have f := add_ch c (p, v) hc
    have e2 : exT c p (v :: vs) = aT c (p, v) :: exT c p vs := rfl
    refine ⟨t8, n8, ?_⟩
    rw [List.map_cons, e_mFor_cons]
    rw [List.append_assoc, List.singleton_append, ← e2] at e
    generalize exT c p (v :: vs) = R at *
    unfold pD at f
    generalize cD c = cd at *
    generalize aT c (p, v) = at_ at *
    simp -implicitDefEqProofs [setV_z, n, L__law_all_choices_1, f, z, e, -tl_nil]
theorem szc_at (sz : List Int) (p : Nat) (h : p < sz.length) : (szc sz).getD p [] = rngI 0 (sz.getD p 0).toNat := by
  simp [szc, List.getD, List.getElem?_eq_getElem h]
def exS (sz : List Int) (c : Ch) (p : Int) : List T := exT c p ((szc sz).getD p.toNat [])
theorem lp_la2 (sz : List Int) (h5 : ∀ z ∈ sz, 2 ≤ z ∧ z ≤ 5) (s1 s2 s3 s6 : Sl) (c : Ch) (hc : c.length ≤ 1000) : ∀ (ps : List Int) (acc : List T) (s7 s8 : Sl), (∀ p ∈ ps, 0 ≤ p ∧ p < sz.length) → acc.length + (ps.flatMap (exS sz c)).length ≤ 1000000 → s7.np = true → s8.np = true →
    ∃ t7 t8, t7.np = true ∧ t8.np = true ∧ mFor (tgN 7) L__law_all_choices_2 (ps.map .int) [dS (il sz), s1, s2, s3, .v (.lst acc), dS (cD c), s6, s7, s8] = .nx [dS (il sz), s1, s2, s3, .v (.lst (acc ++ ps.flatMap (exS sz c))), dS (cD c), s6, t7, t8]
  | [], acc, s7, s8, _, _, n7, n8 => ⟨s7, s8, n7, n8, by simp⟩
  | p :: ps, acc, s7, s8, hp, hz, n7, n8 => by
    rw [List.flatMap_cons, List.length_append] at hz
    have hp0 := hp p List.mem_cons_self
    obtain ⟨q, rfl⟩ : ∃ q : Nat, p = (q : Int) := ⟨p.toNat, by omega⟩
    have hq : q < sz.length := by omega
    have hx : (exS sz c q).length = ((szc sz).getD q []).length := by simp only [exS, exT, List.length_map, Int.toNat_natCast]
    have a := cs_at sz q hq
    have hzz : sz.getD q 0 ∈ sz := by
      simp only [List.getD, List.getElem?_eq_getElem hq, Option.getD_some]
      exact List.getElem_mem hq
    have b := h5 _ hzz
    obtain ⟨u8, m8, e1⟩ := lp_la1 (dS (il sz)) s1 s2 s3 s6 c hc q ((szc sz).getD q []) acc s8 (by omega) n8
    rw [show exT c q ((szc sz).getD q []) = exS sz c q from rfl, szc_at sz q hq] at e1
    obtain ⟨t7, t8, m7, m8', e2⟩ := lp_la2 sz h5 s1 s2 s3 s6 c hc ps (acc ++ exS sz c q) (iS q) u8 (fun q hq => hp q (List.mem_cons_of_mem _ hq)) (by rw [List.length_append]; omega) rfl m8
    refine ⟨t7, t8, m7, m8', ?_⟩
    have r := f_rng1 (sz.getD q 0) (by omega) (by omega)
    rw [show ((List.range (sz.getD q 0).toNat).map fun (i : Nat) => (i : Int)) = rngI 0 (sz.getD q 0).toNat from by
      unfold rngI
      exact List.map_congr_left fun i _ => by omega] at r
    rw [List.append_assoc] at e2
    rw [List.map_cons, e_mFor_cons, List.flatMap_cons]
    generalize ps.flatMap (exS sz c) = R at *
    generalize exS sz c q = R1 at *
    generalize rngI 0 (sz.getD q 0).toNat = vs at *
    generalize sz.getD q 0 = zq at *
    generalize cD c = cd at *
    simp -implicitDefEqProofs [setV_z, n7, L__law_all_choices_2, a, r, e1, e2, -tl_nil]
def lstT (sz : List Int) (hi : Int) (c : Ch) : List T := (rngI (fst' c) (hi - fst' c).toNat).flatMap (exS sz c)
theorem lstT_d (sz : List Int) (hi : Int) (c : Ch) : (lstT sz hi c).map T.d = (stepTo (szc sz) hi c).map cD := by
  unfold lstT stepTo
  rw [List.map_flatMap, List.map_flatMap]
  congr 1
  funext p
  exact exT_d c p _
theorem turn_la3 (sz : List Int) (hsz : sz.length ≤ 6) (h5 : ∀ z ∈ sz, 2 ≤ z ∧ z ≤ 5) (st k : Nat) (hk : k < st) (hst : st ≤ sz.length) (s2 s6 s7 s8 : Sl) (c : Ch) (hc : c.length ≤ 1000) (acc : List T) (h0 : 0 ≤ fst' c) (hf : fst' c ≤ 1000) (hz : acc.length + (lstT sz ((sz.length : Int) - st + k + 1) c).length ≤ 1000000) (n6 : s6.np = true) (n7 : s7.np = true) (n8 : s8.np = true) :
    ∃ t6 t7 t8, t6.np = true ∧ t7.np = true ∧ t8.np = true ∧ L__law_all_choices_3 [dS (il sz), iS st, s2, iS k, .v (.lst acc), dS (cD c), s6, s7, s8] = .nx [dS (il sz), iS st, s2, iS k, .v (.lst (acc ++ lstT sz ((sz.length : Int) - st + k + 1) c)), dS (cD c), t6, t7, t8] := by
  obtain ⟨t7, t8, m7, m8, e⟩ := lp_la2 sz h5 (iS st) s2 (iS k) (iS (fst' c)) c hc (rngI (fst' c) ((sz.length : Int) - st + k + 1 - fst' c).toNat) acc s7 s8 (fun p hp => by have := mem_rng.mp hp; omega) hz n7 n8
  refine ⟨iS (fst' c), t7, t8, rfl, m7, m8, ?_⟩
  have r := rngI_D (fst' c) ((sz.length : Int) - st + k + 1) (by omega) (by omega) (by omega) (by omega)
  have es : (rngI (fst' c) ((sz.length : Int) - st + k + 1 - fst' c).toNat).flatMap (exS sz c) = lstT sz ((sz.length : Int) - st + k + 1) c := rfl
  rw [es] at e
  generalize rngI (fst' c) ((sz.length : Int) - st + k + 1 - fst' c).toNat = ps at *
  generalize lstT sz ((sz.length : Int) - st + k + 1) c = R at *
  by_cases hn : c = []
  · subst hn
    have f0 : fst' [] = 0 := rfl
    rw [f0] at r e ⊢
    have e0 : cD [] = .tup [] := rfl
    rw [e0] at e ⊢
    simp -implicitDefEqProofs [setV_z, n6, L__law_all_choices_3, r, e, -List.map_map, -tl_nil]
  · obtain ⟨q, _, q2, q3⟩ := last_neg c hn
    have hl : 0 < c.length := List.length_pos_iff.mpr hn
    have lm : (c.map pD).length = c.length := List.length_map _
    have ec : cD c = .tup (c.map pD) := rfl
    rw [ec] at e ⊢
    generalize c.map pD = pd at *
    generalize c.length = cl at *
    rw [q3] at r e ⊢
    simp -implicitDefEqProofs [setV_z, n6, L__law_all_choices_3, lm, hl, q2, pD, r, e, -List.map_map, -tl_nil]
theorem lp_la3 (sz : List Int) (hsz : sz.length ≤ 6) (h5 : ∀ z ∈ sz, 2 ≤ z ∧ z ≤ 5) (st k : Nat) (hk : k < st) (hst : st ≤ sz.length) (s2 : Sl) : ∀ (fs : List Ch) (acc : List T) (s5 s6 s7 s8 : Sl), (∀ c ∈ fs, c.length ≤ 1000 ∧ 0 ≤ fst' c ∧ fst' c ≤ 1000) → acc.length + (fs.flatMap (lstT sz ((sz.length : Int) - st + k + 1))).length ≤ 1000000 → s5.np = true → s6.np = true → s7.np = true → s8.np = true →
    ∃ t5 t6 t7 t8, t5.np = true ∧ t6.np = true ∧ t7.np = true ∧ t8.np = true ∧ mFor (tgN 5) L__law_all_choices_3 (fs.map cD) [dS (il sz), iS st, s2, iS k, .v (.lst acc), s5, s6, s7, s8] = .nx [dS (il sz), iS st, s2, iS k, .v (.lst (acc ++ fs.flatMap (lstT sz ((sz.length : Int) - st + k + 1)))), t5, t6, t7, t8]
  | [], acc, s5, s6, s7, s8, _, _, n5, n6, n7, n8 => ⟨s5, s6, s7, s8, n5, n6, n7, n8, by simp⟩
  | c :: fs, acc, s5, s6, s7, s8, hf, hz, n5, n6, n7, n8 => by
    rw [List.flatMap_cons, List.length_append] at hz
    obtain ⟨c1, c2, c3⟩ := hf c List.mem_cons_self
    obtain ⟨u6, u7, u8, m6, m7, m8, e1⟩ := turn_la3 sz hsz h5 st k hk hst s2 s6 s7 s8 c c1 acc c2 c3 (by omega) n6 n7 n8
    obtain ⟨t5, t6, t7, t8, k5, k6, k7, k8, e2⟩ := lp_la3 sz hsz h5 st k hk hst s2 fs (acc ++ lstT sz ((sz.length : Int) - st + k + 1) c) (dS (cD c)) u6 u7 u8 (fun x hx => hf x (List.mem_cons_of_mem _ hx)) (by rw [List.length_append]; omega) rfl m6 m7 m8
    refine ⟨t5, t6, t7, t8, k5, k6, k7, k8, ?_⟩
    rw [List.append_assoc] at e2
    rw [List.map_cons, e_mFor_cons, List.flatMap_cons]
    generalize fs.flatMap (lstT sz ((sz.length : Int) - st + k + 1)) = R at *
    generalize lstT sz ((sz.length : Int) - st + k + 1) c = R1 at *
    generalize cD c = cd at *
    simp -implicitDefEqProofs [setV_z, n5, e1, e2, -tl_nil]
theorem flat_d (sz : List Int) (hi : Int) (fs : List Ch) : (fs.flatMap (lstT sz hi)).map T.d = (fs.flatMap (stepTo (szc sz) hi)).map cD := by
  rw [List.map_flatMap, List.map_flatMap]
  congr 1
  funext c
  exact lstT_d sz hi c
theorem turn_la4 (sz : List Int) (hsz : sz.length ≤ 6) (h5 : ∀ z ∈ sz, 2 ≤ z ∧ z ≤ 5) (st k : Nat) (hk : k < st) (hst : st ≤ sz.length) (s4 s5 s6 s7 s8 : Sl) (s2 : Sl) (fs : List Ch) (h2 : fnd s2 fs) (hf : ∀ c ∈ fs, c.length ≤ 1000 ∧ 0 ≤ fst' c ∧ fst' c ≤ 1000) (hz : (fs.flatMap (stepTo (szc sz) ((sz.length : Int) - st + k + 1))).length ≤ 1000000)
    (n4 : s4.np = true) (n5 : s5.np = true) (n6 : s6.np = true) (n7 : s7.np = true) (n8 : s8.np = true) :
    ∃ t5 t6 t7 t8, t5.np = true ∧ t6.np = true ∧ t7.np = true ∧ t8.np = true ∧ L__law_all_choices_4 [dS (il sz), iS st, s2, iS k, s4, s5, s6, s7, s8] = .nx [dS (il sz), iS st, dS (lC (fs.flatMap (stepTo (szc sz) ((sz.length : Int) - st + k + 1)))), iS k, dS (lC (fs.flatMap (stepTo (szc sz) ((sz.length : Int) - st + k + 1)))), t5, t6, t7, t8] := by
  have ed := flat_d sz ((sz.length : Int) - st + k + 1) fs
  have el : (fs.flatMap (lstT sz ((sz.length : Int) - st + k + 1))).length = (fs.flatMap (stepTo (szc sz) ((sz.length : Int) - st + k + 1))).length := by
    have := congrArg List.length ed
    simpa using this
  obtain ⟨t5, t6, t7, t8, k5, k6, k7, k8, e⟩ := lp_la3 sz hsz h5 st k hk hst (dS (lC fs)) fs [] s5 s6 s7 s8 hf (by rw [List.length_nil]; omega) n5 n6 n7 n8
  refine ⟨t5, t6, t7, t8, k5, k6, k7, k8, ?_⟩
  rw [List.nil_append] at e
  have lm : lC fs = .lst (fs.map cD) := rfl
  have l0 : (D.lst [.tup []]) = lC [[]] := rfl
  rcases h2 with ⟨rfl, rfl⟩ | rfl
  · rw [← l0] at e
    rw [show ([[]] : List Ch).map cD = [D.tup []] from rfl] at e
    unfold lC
    generalize ([[]] : List Ch).flatMap (lstT sz ((sz.length : Int) - st + k + 1)) = A at *
    rw [← ed]
    simp -implicitDefEqProofs [setV_z, n4, L__law_all_choices_4, e, nm_lst, -tl_nil]
  · rw [lm] at e ⊢
    unfold lC
    generalize fs.flatMap (lstT sz ((sz.length : Int) - st + k + 1)) = A at *
    rw [← ed]
    generalize fs.map cD = fd at *
    simp -implicitDefEqProofs [setV_z, n4, L__law_all_choices_4, e, nm_lst, -tl_nil]
theorem szc_ok {sz : List Int} (hsz : sz.length ≤ 6) (h5 : ∀ z ∈ sz, 2 ≤ z ∧ z ≤ 5) : (szc sz).length ≤ 6 ∧ ∀ l ∈ szc sz, l.length ≤ 5 := by
  refine ⟨by simp [szc]; omega, fun l hl => ?_⟩
  obtain ⟨z, hz, rfl⟩ := List.mem_map.mp hl
  have b := h5 z hz
  rw [rngI, List.length_map, List.length_range]
  omega
theorem lall_ok {sz : List Int} (hsz : sz.length ≤ 6) (h5 : ∀ z ∈ sz, 2 ≤ z ∧ z ≤ 5) (st : Nat) (hst : st ≤ sz.length) (h3 : st ≤ 3) (k : Nat) (hk : k ≤ st) : (lall (szc sz) st k).length ≤ 27000 ∧ ∀ c ∈ lall (szc sz) st k, c.length ≤ 1000 ∧ 0 ≤ fst' c ∧ fst' c ≤ 1000 := by
  obtain ⟨a, b⟩ := szc_ok hsz h5
  obtain ⟨l1, l2⟩ := among_ok (szc sz) a b k (by omega)
  rw [lall_eq (szc sz) st (by simp [szc]; omega) k hk]
  refine ⟨Nat.le_trans (List.length_filter_le _ _) l1, fun c hc => l2 c (List.mem_filter.mp hc).1⟩
theorem lp_la4 (sz : List Int) (hsz : sz.length ≤ 6) (h5 : ∀ z ∈ sz, 2 ≤ z ∧ z ≤ 5) (st : Nat) (hst : st ≤ sz.length) (h3 : st ≤ 3) : ∀ (n k : Nat) (s3 s4 s5 s6 s7 s8 : Sl), k + n = st → s3.np = true → s4.np = true → s5.np = true → s6.np = true → s7.np = true → s8.np = true →
    ∃ t3 t4 t5 t6 t7 t8, mFor (tgN 3) L__law_all_choices_4 (((List.range' k n).map fun (k : Nat) => (k : Int)).map .int) [dS (il sz), iS st, dS (lC (lall (szc sz) st k)), s3, s4, s5, s6, s7, s8] = .nx [dS (il sz), iS st, dS (lC (lall (szc sz) st st)), t3, t4, t5, t6, t7, t8]
  | 0, k, s3, s4, s5, s6, s7, s8, hk, _, _, _, _, _, _ => ⟨s3, s4, s5, s6, s7, s8, by
      have : k = st := by omega
      subst this
      simp⟩
  | n + 1, k, s3, s4, s5, s6, s7, s8, hk, n3, n4, n5, n6, n7, n8 => by
    obtain ⟨hb, hfs⟩ := lall_ok hsz h5 st hst h3 k (by omega)
    obtain ⟨hb1, _⟩ := lall_ok hsz h5 st hst h3 (k + 1) (by omega)
    have hlen : ((szc sz).length : Int) = (sz.length : Int) := by simp [szc]
    have ea : (lall (szc sz) st k).flatMap (stepTo (szc sz) ((sz.length : Int) - st + k + 1)) = lall (szc sz) st (k + 1) := by
      rw [lall, hlen]
    obtain ⟨t5, t6, t7, t8, k5, k6, k7, k8, e1⟩ := turn_la4 sz hsz h5 st k (by omega) hst s4 s5 s6 s7 s8 (dS (lC (lall (szc sz) st k))) (lall (szc sz) st k) (.inr rfl) hfs (by rw [ea]; omega) n4 n5 n6 n7 n8
    rw [ea] at e1
    obtain ⟨u3, u4, u5, u6, u7, u8, e2⟩ := lp_la4 sz hsz h5 st hst h3 n (k + 1) (iS k) (dS (lC (lall (szc sz) st (k + 1)))) t5 t6 t7 t8 (by omega) rfl rfl k5 k6 k7 k8
    refine ⟨u3, u4, u5, u6, u7, u8, ?_⟩
    rw [List.range'_succ, List.map_cons, List.map_cons, e_mFor_cons]
    generalize lall (szc sz) st (k + 1) = A at *
    generalize lall (szc sz) st st = B at *
    generalize lall (szc sz) st k = A0 at *
    simp -implicitDefEqProofs [setV_z, n3, e1, e2, -List.map_map]
theorem e_all_choices (sz : List Int) (hsz : sz.length ≤ 6) (h5 : ∀ z ∈ sz, 2 ≤ z ∧ z ≤ 5) (st : Nat) (h1 : 1 ≤ st) (hst : st ≤ sz.length) (h3 : st ≤ 3) : F__law_all_choices [dS (il sz), iS st] = .ok (.sh (lC (among (szc sz) st))) [dS (il sz), iS st] := by
  obtain ⟨m, rfl⟩ : ∃ m, st = m + 1 := ⟨st - 1, by omega⟩
  rw [← lall_full (szc sz) (m + 1) (by simp [szc]; omega)]
  have r := rng_ok (m + 1) (by omega)
  rw [List.range_eq_range', List.range'_succ, List.map_cons, List.map_cons] at r
  obtain ⟨hb1, _⟩ := lall_ok hsz h5 (m + 1) hst h3 1 (by omega)
  obtain ⟨_, hf0⟩ := lall_ok hsz h5 (m + 1) hst h3 0 (by omega)
  have hlen : ((szc sz).length : Int) = (sz.length : Int) := by simp [szc]
  have ea : ([[]] : List Ch).flatMap (stepTo (szc sz) ((sz.length : Int) - ((m + 1 : Nat) : Int) + ((0 : Nat) : Int) + 1)) = lall (szc sz) ((m + 1 : Nat) : Int) 1 := by
    rw [lall, hlen]
    rfl
  obtain ⟨t5, t6, t7, t8, k5, k6, k7, k8, e1⟩ := turn_la4 sz hsz h5 (m + 1) 0 (by omega) hst .un .un .un .un .un (.v (.lst [.sh (.tup [])])) [[]] (.inl ⟨rfl, rfl⟩) hf0 (by rw [ea]; omega) rfl rfl rfl rfl rfl
  rw [ea] at e1
  obtain ⟨u3, u4, u5, u6, u7, u8, e2⟩ := lp_la4 sz hsz h5 (m + 1) hst h3 m 1 (iS ((0 : Nat) : Int)) (dS (lC (lall (szc sz) ((m + 1 : Nat) : Int) 1))) t5 t6 t7 t8 (by omega) rfl rfl k5 k6 k7 k8
  unfold F__law_all_choices
  rw [e_runF]
  unfold M__law_all_choices
  rw [show (0 + 1 : Nat) = 1 from rfl] at r
  generalize (List.range' 1 m).map (fun (i : Nat) => (i : Int)) = ks at *
  generalize lall (szc sz) ((m + 1 : Nat) : Int) 1 = A at *
  generalize lall (szc sz) ((m + 1 : Nat) : Int) (m + 1) = B at *
  generalize ((m + 1 : Nat) : Int) = mi at *
  rw [show ((0 : Nat) : Int) = 0 from rfl] at r e1 e2
  simp -implicitDefEqProofs [r, e_mFor_cons, e1, e2, -List.map_map]
end Wk

set_option Elab.async false
set_option linter.all false
set_option maxRecDepth 100000
set_option maxHeartbeats 4000000
namespace Wk
open PySem PySem.Spec PyProof.Rows L2 PD
abbrev Row := Bool × List Int
def rwD (r : Row) : D := if r.1 = true then .tup (r.2.map .int) else .lst (r.2.map .int)
def rsD (rs : List Row) : D := .lst (rs.map rwD)
theorem row_at (r : Row) (p : Int) (h0 : 0 ≤ p) (h1 : p < r.2.length) : fIx (rwD r) (.int p) = some (.int (r.2.getD p.toNat 0)) := by
  have e := atI_ints r.2 p h0 h1
  unfold rwD
  split
  · exact e
  · exact e
theorem eqv_p (a b : Int × Int) : D.eqv (pD a) (pD b) = decide (a = b) := by
  obtain ⟨a1, a2⟩ := a
  obtain ⟨b1, b2⟩ := b
  by_cases h1 : a1 = b1 <;> by_cases h2 : a2 = b2 <;> simp [pD, D.eqv, D.eqvs, h1, h2]
theorem eqvs_ch : ∀ c c' : Ch, D.eqvs (c.map pD) (c'.map pD) = decide (c = c')
  | [], [] => by simp [D.eqvs]
  | [], a :: c => by simp [D.eqvs]
  | a :: c, [] => by simp [D.eqvs]
  | a :: c, b :: c' => by
    simp only [List.map_cons, D.eqvs, eqvs_ch c c', eqv_p]
    by_cases h1 : a = b <;> by_cases h2 : c = c' <;> simp [h1, h2]
theorem shal_ch (c : Ch) : D.shal 60 (cD c) = true := by
  unfold cD
  rw [D.shal_tup, List.all_eq_true]
  intro d hd
  obtain ⟨q, _, rfl⟩ := List.mem_map.mp hd
  unfold pD
  rw [D.shal_tup]
  simp
theorem ne_ch (c c' : Ch) : fNe (cD c) (cD c') = some (!decide (c = c')) := by
  show (if D.shal 60 (cD c) = true ∧ D.shal 60 (cD c') = true then some (!D.eqv (cD c) (cD c')) else none) = _
  rw [if_pos ⟨shal_ch c, shal_ch c'⟩]
  have e : D.eqv (cD c) (cD c') = D.eqvs (c.map pD) (c'.map pD) := by
    unfold cD
    simp only [D.eqv]
  rw [e, eqvs_ch]
def inP (n : Nat) (c : Ch) : Prop := ∀ q ∈ c, 0 ≤ q.1 ∧ q.1 < n
theorem lp_ho (r : Row) (a : Sl) : ∀ (c : Ch) (s : Sl), inP r.2.length c → s.np = true → ∃ t, mFor (tgN 2) L__law_holds_1 (c.map pD) [dS (rwD r), a, s] = if holdsB r.2 c = true then .nx [dS (rwD r), a, t] else .rt (.sh (.bl false)) [dS (rwD r), a, t]
  | [], s, _, n => ⟨s, by simp [holdsB]⟩
  | q :: c, s, hp, n => by
    have hq := hp q List.mem_cons_self
    obtain ⟨t, e⟩ := lp_ho r a c (dS (pD q)) (fun x hx => hp x (List.mem_cons_of_mem _ hx)) rfl
    have a1 := row_at r q.1 hq.1 hq.2
    obtain ⟨p, v⟩ := q
    rw [List.map_cons, e_mFor_cons]
    by_cases h : r.2.getD p.toNat 0 = v
    · refine ⟨t, ?_⟩
      have es : holdsB r.2 ((p, v) :: c) = holdsB r.2 c := by
        unfold holdsB
        rw [List.all_cons, decide_eq_true (show r.2.getD (p, v).1.toNat 0 = (p, v).2 from h), Bool.true_and]
      rw [es]
      simp only at a1
      rw [h] at a1
      generalize rwD r = rd at *
      unfold pD at *
      simp -implicitDefEqProofs [setV_z, n, L__law_holds_1, a1, e]
    · refine ⟨dS (pD (p, v)), ?_⟩
      have es : holdsB r.2 ((p, v) :: c) = false := by
        unfold holdsB
        rw [List.all_cons, decide_eq_false (show ¬ r.2.getD (p, v).1.toNat 0 = (p, v).2 from h), Bool.false_and]
      rw [es]
      simp only at a1
      generalize r.2.getD p.toNat 0 = u at *
      generalize rwD r = rd at *
      unfold pD at *
      simp -implicitDefEqProofs [setV_z, n, L__law_holds_1, a1, h]
theorem e_holds (r : Row) (c : Ch) (hp : inP r.2.length c) : F__law_holds [dS (rwD r), dS (cD c)] = .ok (.sh (.bl (holdsB r.2 c))) [dS (rwD r), dS (cD c)] := by
  unfold F__law_holds
  rw [e_runF]
  unfold M__law_holds
  obtain ⟨t, e⟩ := lp_ho r (dS (cD c)) c .un hp rfl
  have ec : cD c = .tup (c.map pD) := rfl
  rw [ec] at e ⊢
  generalize c.map pD = pd at *
  generalize rwD r = rd at *
  cases h : holdsB r.2 c <;> rw [h] at e <;> simp -implicitDefEqProofs [e]
def anyH (rs : List Row) (c : Ch) : Bool := rs.any fun r => holdsB r.2 c
theorem lp_nh1 (a b s2 : Sl) (c : Ch) : ∀ (rs : List Row) (s5 : Sl), (∀ r ∈ rs, inP r.2.length c) → s5.np = true → ∃ t5, t5.np = true ∧ mFor (tgN 5) L__law_not_held_1 (rs.map rwD) [a, b, s2, dS (cD c), dS (.bl false), s5] = .nx [a, b, s2, dS (cD c), dS (.bl (anyH rs c)), t5]
  | [], s5, _, n => ⟨s5, n, by simp [anyH]⟩
  | r :: rs, s5, hp, n => by
    have e1 := e_holds r c (hp r List.mem_cons_self)
    obtain ⟨t5, n5, e⟩ := lp_nh1 a b s2 c rs (dS (rwD r)) (fun x hx => hp x (List.mem_cons_of_mem _ hx)) rfl
    rw [List.map_cons, e_mFor_cons]
    cases h : holdsB r.2 c with
    | true =>
      refine ⟨dS (rwD r), rfl, ?_⟩
      have ea : anyH (r :: rs) c = true := by simp [anyH, h]
      rw [ea]
      rw [h] at e1
      simp -implicitDefEqProofs [setV_z, n, L__law_not_held_1, e1]
    | false =>
      refine ⟨t5, n5, ?_⟩
      have ea : anyH (r :: rs) c = anyH rs c := by simp [anyH, h]
      rw [ea]
      rw [h] at e1
      simp -implicitDefEqProofs [setV_z, n, L__law_not_held_1, e1, e]
/-- an owned list of choices that stand elsewhere -/
def tS (cs : List Ch) : T := .lst (cs.map fun c => .sh (cD c))
theorem nm_tS (i : Nat) (ρ : List Sl) (cs : List Ch) : nmS i ρ (some (.v (tS cs))) = .ok (lC cs) (ρ.set i (dS (lC cs))) := by
  have e : (tS cs).d = lC cs := by
    unfold tS lC
    rw [td_lst, List.map_map]
    rfl
  show Out.ok (tS cs).d (ρ.set i (.v (.sh (tS cs).d))) = _
  rw [e]
theorem app0_tS (i : Nat) (m : M T) (ρ : List Sl) (xs : List Ch) : app0 i m ρ (some (tS xs)) = (m ρ).bindS fun t ρ' => app1 i t ρ' ρ'[i]? := rfl
theorem app2_tS (i : Nat) (c : Ch) (s : Sl) (ρ : List Sl) (xs : List Ch) (h : xs.length ≤ 1000000) : app2 i (.sh (cD c)) s ρ (some (tS xs)) = .nx (ρ.set i (s.re (tS (xs ++ [c])))) := by
  unfold tS
  rw [app2_lst _ _ _ _ _ (by simp [sizeLine]; omega)]
  simp
theorem lp_nh2 (rs : List Row) (a : Sl) : ∀ (ev acc : List Ch) (s3 s4 s5 : Sl), (∀ c ∈ ev, ∀ r ∈ rs, inP r.2.length c) → acc.length + ev.length ≤ 1000000 → s3.np = true → s4.np = true → s5.np = true →
    ∃ t3 t4 t5, mFor (tgN 3) L__law_not_held_2 (ev.map cD) [a, dS (rsD rs), .v (tS acc), s3, s4, s5] = .nx [a, dS (rsD rs), .v (tS (acc ++ ev.filter fun c => !anyH rs c)), t3, t4, t5]
  | [], acc, s3, s4, s5, _, _, n3, n4, n5 => ⟨s3, s4, s5, by simp⟩
  | c :: ev, acc, s3, s4, s5, hp, hz, n3, n4, n5 => by
    simp only [List.length_cons] at hz
    obtain ⟨u5, m5, e1⟩ := lp_nh1 a (dS (rsD rs)) (.v (tS acc)) c rs s5 (hp c List.mem_cons_self) n5
    have er : rsD rs = .lst (rs.map rwD) := rfl
    have z : acc.length ≤ 1000000 := by omega
    rw [List.map_cons, e_mFor_cons]
    cases h : anyH rs c with
    | true =>
      obtain ⟨t3, t4, t5, e⟩ := lp_nh2 rs a ev acc (dS (cD c)) (dS (.bl true)) u5 (fun x hx => hp x (List.mem_cons_of_mem _ hx)) (by omega) rfl rfl m5
      refine ⟨t3, t4, t5, ?_⟩
      rw [List.filter_cons_of_neg (by simp [h])]
      rw [h] at e1
      generalize ev.filter (fun c => !anyH rs c) = F at *
      rw [er] at e1 e ⊢
      generalize rs.map rwD = rd at *
      generalize cD c = cd at *
      simp -implicitDefEqProofs [setV_z, n3, n4, L__law_not_held_2, e1, e]
    | false =>
      obtain ⟨t3, t4, t5, e⟩ := lp_nh2 rs a ev (acc ++ [c]) (dS (cD c)) (dS (.bl false)) u5 (fun x hx => hp x (List.mem_cons_of_mem _ hx)) (by simp; omega) rfl rfl m5
      refine ⟨t3, t4, t5, ?_⟩
      rw [List.filter_cons_of_pos (by simp [h])]
      rw [h] at e1
      rw [List.append_assoc, List.singleton_append] at e
      have a2 := fun ρ s => app2_tS 2 c s ρ acc z
      generalize (c :: ev.filter (fun c => !anyH rs c)) = F at *
      rw [er] at e1 e ⊢
      generalize rs.map rwD = rd at *
      generalize cD c = cd at *
      simp -implicitDefEqProofs [setV_z, n3, n4, L__law_not_held_2, e1, app0_tS, a2, e]
theorem e_not_held (rs : List Row) (ev : List Ch) (hp : ∀ c ∈ ev, ∀ r ∈ rs, inP r.2.length c) (hz : ev.length ≤ 1000000) : F__law_not_held [dS (lC ev), dS (rsD rs)] = .ok (tS (ev.filter fun c => !anyH rs c)) [dS (lC ev), dS (rsD rs)] := by
  unfold F__law_not_held
  rw [e_runF]
  unfold M__law_not_held
  obtain ⟨t3, t4, t5, e⟩ := lp_nh2 rs (dS (lC ev)) ev [] .un .un .un hp (by simpa using hz) rfl rfl rfl
  rw [List.nil_append, show tS [] = tl [] from rfl] at e
  generalize ev.filter (fun c => !anyH rs c) = F at *
  have el : lC ev = .lst (ev.map cD) := rfl
  rw [el] at e ⊢
  generalize ev.map cD = ed at *
  generalize rsD rs = rd at *
  simp -implicitDefEqProofs [e]
end Wk

set_option Elab.async false
set_option linter.all false
set_option maxRecDepth 100000
set_option maxHeartbeats 4000000
namespace Wk
open PySem PySem.Spec PyProof.Rows L2 PD
theorem lp_ic (a b : Sl) : ∀ (c : Ch) (s : Sl), s.np = true → ∃ t, mFor (tgN 2) L__law_is_choice_1 (c.map pD) [a, b, s] = .nx [a, b, t]
  | [], s, n => ⟨s, by simp⟩
  | q :: c, s, n => by
    obtain ⟨t, e⟩ := lp_ic a b c (dS (pD q)) rfl
    have e1 := e_integer q.1
    have e2 := e_integer q.2
    refine ⟨t, ?_⟩
    rw [List.map_cons, e_mFor_cons]
    unfold pD at *
    simp -implicitDefEqProofs [setV_z, n, L__law_is_choice_1, e1, e2, e]
theorem e_is_choice (c : Ch) : F__law_is_choice [dS (cD c), iS c.length] = .ok (.sh (.bl true)) [dS (cD c), iS c.length] := by
  unfold F__law_is_choice
  rw [e_runF]
  unfold M__law_is_choice
  obtain ⟨t, e⟩ := lp_ic (dS (cD c)) (iS c.length) c .un rfl
  have lm : (c.map pD).length = c.length := List.length_map _
  have ec : cD c = .tup (c.map pD) := rfl
  rw [ec] at e ⊢
  generalize c.map pD = pd at *
  simp -implicitDefEqProofs [lm, e]
theorem lC_at (cs : List Ch) (k : Nat) (h : k < cs.length) : atI (cs.map cD) (k : Int) = some (cD (cs.getD k [])) := by
  rw [atI_map, atI_in (by omega) (by omega), Int.toNat_natCast]
  simp [List.getD, List.getElem?_eq_getElem h]
theorem lp_sc (cs : List Ch) (n : Nat) (hn : ∀ c ∈ cs, c.length = n) : ∀ (ks : List Nat) (s : Sl), (∀ k ∈ ks, k < cs.length) → s.np = true → ∃ t, mFor (tgN 3) L__law_same_choices_1 ((ks.map fun (k : Nat) => (k : Int)).map .int) [dS (lC cs), dS (lC cs), iS n, s] = .nx [dS (lC cs), dS (lC cs), iS n, t]
  | [], s, _, _ => ⟨s, by simp⟩
  | k :: ks, s, hk, np => by
    have hk0 := hk k List.mem_cons_self
    obtain ⟨t, e⟩ := lp_sc cs n hn ks (iS k) (fun x hx => hk x (List.mem_cons_of_mem _ hx)) rfl
    have a := lC_at cs k hk0
    have hm : cs.getD k [] ∈ cs := by
      simp only [List.getD, List.getElem?_eq_getElem hk0, Option.getD_some]
      exact List.getElem_mem hk0
    have e1 := e_is_choice (cs.getD k [])
    rw [hn _ hm] at e1
    have e2 := ne_ch (cs.getD k []) (cs.getD k [])
    rw [decide_eq_true rfl] at e2
    generalize cD (cs.getD k []) = cd at *
    refine ⟨t, ?_⟩
    rw [List.map_cons, List.map_cons, e_mFor_cons]
    have el : lC cs = .lst (cs.map cD) := rfl
    rw [el] at e ⊢
    generalize cs.map cD = ed at *
    simp -implicitDefEqProofs [setV_z, np, L__law_same_choices_1, e1, a, e2, e, -List.map_map]
theorem e_same (cs : List Ch) (n : Nat) (hn : ∀ c ∈ cs, c.length = n) (hz : cs.length ≤ 100000) : F__law_same_choices [dS (lC cs), dS (lC cs), iS n] = .ok (.sh (.bl true)) [dS (lC cs), dS (lC cs), iS n] := by
  unfold F__law_same_choices
  rw [e_runF]
  unfold M__law_same_choices
  obtain ⟨t, e⟩ := lp_sc cs n hn (List.range cs.length) .un (fun k hk => List.mem_range.mp hk) rfl
  have r := rng_ok cs.length hz
  have lm : (cs.map cD).length = cs.length := List.length_map _
  have el : lC cs = .lst (cs.map cD) := rfl
  rw [el] at e ⊢
  generalize cs.map cD = ed at *
  simp -implicitDefEqProofs [lm, e, r, -List.map_map]
theorem e_told (sz : List Int) (n : Nat) (hs : spaB sz = true) (hn : strB sz n = true) : F__law_told_choices [dS (il sz), iS n, dS (lC (among (szc sz) n))] = .ok (.sh (.bl true)) [dS (il sz), iS n, dS (lC (among (szc sz) n))] := by
  obtain ⟨k1, k2⟩ := (spa_iff sz).mp hs
  obtain ⟨g1, g2, g3⟩ := (str_iff sz n).mp hn
  obtain ⟨a, b⟩ := szc_ok k1.2 k2
  obtain ⟨l1, l2⟩ := among_ok (szc sz) a b n (by omega)
  have e1 := e_choices sz n
  rw [if_pos hs, if_pos hn, Int.toNat_natCast] at e1
  have e2 := e_same (among (szc sz) n) n (fun c hc => among_len n c hc) (by omega)
  unfold F__law_told_choices
  rw [e_runF]
  unfold M__law_told_choices
  have q := f_eq_il sz sz
  rw [decide_eq_true rfl] at q
  have el : lC (among (szc sz) n) = .lst ((among (szc sz) n).map cD) := rfl
  rw [el] at e2 ⊢
  generalize (among (szc sz) n).map cD = A at *
  simp -implicitDefEqProofs [mListG, listO, e1, e2, q]
/-! ### the program's checks -/
def rowB (sz : List Int) (r : Row) : Bool := decide (r.2.length = sz.length) && (List.range sz.length).all fun k => decide (0 ≤ r.2.getD k 0) && decide (r.2.getD k 0 < sz.getD k 0)
theorem row_len (r : Row) : fLen [rwD r] = some (.sh (.int r.2.length)) := by
  unfold rwD
  split <;> simp
theorem row_is (r : Row) : isTs [.list, .tuple] (rwD r) = some true := by
  unfold rwD
  split <;> rfl
theorem lp_isr (sz : List Int) (r : Row) (hl : r.2.length = sz.length) : ∀ (ks : List Nat) (s2 s3 : Sl), (∀ k ∈ ks, k < sz.length) → s2.np = true → s3.np = true →
    ∃ t2 t3, mFor (tgN 2) L_is_space_row_1 ((ks.map fun (k : Nat) => (k : Int)).map .int) [dS (il sz), dS (rwD r), s2, s3] = if (ks.all fun k => decide (0 ≤ r.2.getD k 0) && decide (r.2.getD k 0 < sz.getD k 0)) = true then .nx [dS (il sz), dS (rwD r), t2, t3] else .rt (.sh (.bl false)) [dS (il sz), dS (rwD r), t2, t3]
  | [], s2, s3, _, _, _ => ⟨s2, s3, by simp⟩
  | k :: ks, s2, s3, hk, n2, n3 => by
    have hk0 := hk k List.mem_cons_self
    obtain ⟨t2, t3, e⟩ := lp_isr sz r hl ks (iS k) (iS (r.2.getD k 0)) (fun x hx => hk x (List.mem_cons_of_mem _ hx)) rfl rfl
    have a := row_at r k (by omega) (by omega)
    rw [Int.toNat_natCast] at a
    have a2 := cs_at sz k hk0
    have w := e_is_whole (r.2.getD k 0)
    rw [List.map_cons, List.map_cons, e_mFor_cons]
    by_cases h : 0 ≤ r.2.getD k 0 ∧ r.2.getD k 0 < sz.getD k 0
    · refine ⟨t2, t3, ?_⟩
      have ea : ((k :: ks).all fun k => decide (0 ≤ r.2.getD k 0) && decide (r.2.getD k 0 < sz.getD k 0)) = (ks.all fun k => decide (0 ≤ r.2.getD k 0) && decide (r.2.getD k 0 < sz.getD k 0)) := by
        rw [List.all_cons, decide_eq_true h.1, decide_eq_true h.2]
        rfl
      rw [ea]
      generalize (ks.all fun k => decide (0 ≤ r.2.getD k 0) && decide (r.2.getD k 0 < sz.getD k 0)) = A at *
      generalize r.2.getD k 0 = v at *
      generalize sz.getD k 0 = z at *
      generalize rwD r = rd at *
      simp -implicitDefEqProofs [setV_z, n2, n3, L_is_space_row_1, a, a2, w, h, e, -List.map_map]
    · refine ⟨iS k, iS (r.2.getD k 0), ?_⟩
      have ea : ((k :: ks).all fun k => decide (0 ≤ r.2.getD k 0) && decide (r.2.getD k 0 < sz.getD k 0)) = false := by
        rw [List.all_cons]
        have : (decide (0 ≤ r.2.getD k 0) && decide (r.2.getD k 0 < sz.getD k 0)) = false := by
          cases hh : (decide (0 ≤ r.2.getD k 0) && decide (r.2.getD k 0 < sz.getD k 0)) with
          | false => rfl
          | true =>
            simp only [Bool.and_eq_true, decide_eq_true_eq] at hh
            exact absurd hh h
        rw [this]
        rfl
      rw [ea]
      generalize r.2.getD k 0 = v at *
      generalize sz.getD k 0 = z at *
      generalize rwD r = rd at *
      by_cases h0 : 0 ≤ v
      · have h1 : ¬ v < z := fun x => h ⟨h0, x⟩
        simp -implicitDefEqProofs [setV_z, n2, n3, L_is_space_row_1, a, a2, w, h0, h1, -List.map_map]
      · simp -implicitDefEqProofs [setV_z, n2, n3, L_is_space_row_1, a, a2, w, h0, -List.map_map]
theorem e_is_row (sz : List Int) (r : Row) (hz : sz.length ≤ 1000) : F_is_space_row [dS (il sz), dS (rwD r)] = .ok (.sh (.bl (rowB sz r))) [dS (il sz), dS (rwD r)] := by
  unfold F_is_space_row
  rw [e_runF]
  unfold M_is_space_row rowB
  have l := row_len r
  have i := row_is r
  have rg := rng_ok sz.length (by omega)
  by_cases hl : r.2.length = sz.length
  · have hl' : (r.2.length : Int) = (sz.length : Int) := by omega
    obtain ⟨t2, t3, e⟩ := lp_isr sz r hl (List.range sz.length) .un .un (fun k hk => List.mem_range.mp hk) rfl rfl
    rw [decide_eq_true hl, Bool.true_and]
    cases hA : ((List.range sz.length).all fun k => decide (0 ≤ r.2.getD k 0) && decide (r.2.getD k 0 < sz.getD k 0)) with
    | true =>
      rw [hA] at e
      generalize rwD r = rd at *
      simp -implicitDefEqProofs [i, l, hl', rg, e, -List.map_map]
    | false =>
      rw [hA] at e
      generalize rwD r = rd at *
      simp -implicitDefEqProofs [i, l, hl', rg, e, -List.map_map]
  · have hl' : ¬ (r.2.length : Int) = (sz.length : Int) := by omega
    rw [decide_eq_false hl, Bool.false_and]
    generalize rwD r = rd at *
    simp -implicitDefEqProofs [i, l, hl']
def rowsB (sz : List Int) (rs : List Row) : Bool := rs.all (rowB sz)
theorem lp_cr (sz : List Int) (hz : sz.length ≤ 1000) (b : Sl) : ∀ (rs : List Row) (s : Sl), s.np = true → ∃ t, mFor (tgN 2) L_check_rows_1 (rs.map rwD) [dS (il sz), b, s] = if rowsB sz rs = true then .nx [dS (il sz), b, t] else .err xSp [dS (il sz), b, t]
  | [], s, n => ⟨s, by simp [rowsB]⟩
  | r :: rs, s, n => by
    obtain ⟨t, e⟩ := lp_cr sz hz b rs (dS (rwD r)) rfl
    have e1 := e_is_row sz r hz
    rw [List.map_cons, e_mFor_cons]
    cases h : rowB sz r with
    | true =>
      refine ⟨t, ?_⟩
      have ea : rowsB sz (r :: rs) = rowsB sz rs := by
        unfold rowsB
        rw [List.all_cons, h, Bool.true_and]
      rw [ea]
      rw [h] at e1
      generalize rwD r = rd at *
      simp -implicitDefEqProofs [setV_z, n, L_check_rows_1, e1, e]
    | false =>
      refine ⟨dS (rwD r), ?_⟩
      have ea : rowsB sz (r :: rs) = false := by
        unfold rowsB
        rw [List.all_cons, h, Bool.false_and]
      rw [ea]
      rw [h] at e1
      generalize rwD r = rd at *
      simp -implicitDefEqProofs [setV_z, n, L_check_rows_1, e1, xSp]
theorem e_check_rows (sz : List Int) (rs : List Row) (hz : sz.length ≤ 1000) : F_check_rows [dS (il sz), dS (rsD rs)] = if rowsB sz rs = true then .ok (.sh .non) [dS (il sz), dS (rsD rs)] else .err xSp [dS (il sz), dS (rsD rs)] := by
  unfold F_check_rows
  rw [e_runF]
  unfold M_check_rows
  obtain ⟨t, e⟩ := lp_cr sz hz (dS (rsD rs)) rs .un rfl
  have er : rsD rs = .lst (rs.map rwD) := rfl
  rw [er] at e ⊢
  generalize rs.map rwD = rd at *
  cases h : rowsB sz rs <;> rw [h] at e <;> simp -implicitDefEqProofs [e]
theorem row_iff (sz : List Int) (r : Row) : rowB sz r = true ↔ r.2.length = sz.length ∧ ∀ k, k < sz.length → 0 ≤ r.2.getD k 0 ∧ r.2.getD k 0 < sz.getD k 0 := by
  simp only [rowB, Bool.and_eq_true, decide_eq_true_eq, List.all_eq_true, List.mem_range]
end Wk

set_option Elab.async false
set_option linter.all false
set_option maxRecDepth 100000
set_option maxHeartbeats 4000000
namespace Wk
open PySem PySem.Spec PyProof.Rows L2 PD
def key (c : Ch) : NestedKey := .tup (c.map fun q => .tup [.num q.1, .num q.2])
theorem nk_pD (q : Int × Int) : nkO (pD q) = some (.tup [.num q.1, .num q.2]) := by
  simp [pD, nkO, nkOs]
theorem nks_ch : ∀ c : Ch, nkOs (c.map pD) = some (c.map fun q => .tup [.num q.1, .num q.2])
  | [] => by simp [nkOs]
  | q :: c => by
    simp only [List.map_cons, nkOs, nk_pD, nks_ch c, Option.bind_some, Option.map_some]
theorem nk_ch (c : Ch) : nkO (cD c) = some (key c) := by
  unfold cD key
  simp only [nkO, nks_ch, Option.map_some]
theorem key_inj {a b : Ch} (h : key a = key b) : a = b := by
  unfold key at h
  injection h with h
  induction a generalizing b with
  | nil =>
    cases b with
    | nil => rfl
    | cons y b => cases h
  | cons x a ih =>
    cases b with
    | nil => cases h
    | cons y b =>
      simp only [List.map_cons, List.cons.injEq] at h
      obtain ⟨h1, h2⟩ := h
      rw [ih h2]
      injection h1 with h1
      simp only [List.cons.injEq] at h1
      obtain ⟨h3, h4, _⟩ := h1
      injection h3 with h3
      injection h4 with h4
      have : x = y := Prod.ext h3 h4
      rw [this]
theorem depth_all : ∀ (c : Ch), NestedKey.depthAll (c.map fun q => .tup [.num q.1, .num q.2]) = if c = [] then 0 else 1
  | [] => by simp [NestedKey.depthAll]
  | q :: c => by
    have ih := depth_all c
    simp only [List.map_cons, NestedKey.depthAll, NestedKey.depth, ih]
    split <;> simp
theorem deep_ch (c : Ch) (h : c ≠ []) : deepD (cD c) = true := by
  unfold deepD
  rw [nk_ch]
  have e : (key c).depth = 2 := by
    unfold key
    simp only [NestedKey.depth]
    rw [depth_all, if_neg h]
  simp [deepK, e]
theorem dkeys_ch : ∀ hs : List Ch, dkeys (hs.map cD) = hs.map key
  | [] => rfl
  | c :: hs => by
    have ih := dkeys_ch hs
    unfold dkeys at *
    rw [List.map_cons, List.filterMap_cons, nk_ch]
    simp only [List.map_cons, ih]
theorem key_mem (c : Ch) (hs : List Ch) : (nkO (cD c) ∈ (dkeys (hs.map cD)).map some) ↔ c ∈ hs := by
  rw [nk_ch, dkeys_ch]
  simp only [List.mem_map]
  constructor
  · rintro ⟨k, ⟨d, hd, rfl⟩, e⟩
    injection e with e
    rw [← key_inj e]
    exact hd
  · intro h
    exact ⟨key c, ⟨c, h, rfl⟩, rfl⟩
theorem all_deep (hs : List Ch) (h : ∀ c ∈ hs, c ≠ []) : (hs.map cD).all deepD = true := by
  rw [List.all_eq_true]
  intro d hd
  obtain ⟨c, hc, rfl⟩ := List.mem_map.mp hd
  exact deep_ch c (h c hc)
def tK (hs : List Ch) : T := .dct (hs.map cD) (hs.map fun _ => .sh (.bl true))
theorem put_ch (s0 s1 s2 s4 s6 : Sl) (hs : List Ch) (c : Ch) (h : ∀ x ∈ hs, x ≠ []) (hc : c ≠ []) (hz : hs.length ≤ 1000000) :
    mSetN 3 (mName 5) (M.pure (.bl true)) [s0, s1, s2, .v (tK hs), s4, dS (cD c), s6] = .nx [s0, s1, s2, .v (tK (if c ∈ hs then hs else hs ++ [c])), s4, dS (cD c), s6] := by
  have hm := key_mem c hs
  have hd := all_deep hs h
  have hdc := deep_ch c hc
  have hl : (hs.map cD).length < sizeLine := by simp [sizeLine]; omega
  have e1 : mSetN 3 (mName 5) (M.pure (.bl true)) [s0, s1, s2, .v (tK hs), s4, dS (cD c), s6] = setN4 3 (.v (tK hs)) (cD c) [s0, s1, s2, .v (tK hs), s4, dS (cD c), s6] (some (tK hs)) := by
    have e0 : mName 5 [s0, s1, s2, .v (tK hs), s4, dS (cD c), s6] = .ok (cD c) [s0, s1, s2, .v (tK hs), s4, dS (cD c), s6] := by simp
    show setN1 3 (mName 5) [s0, s1, s2, .v (tK hs), s4, dS (cD c), s6] (some (tK hs)) = _
    show (mName 5 [s0, s1, s2, .v (tK hs), s4, dS (cD c), s6]).bindS (setN2 3) = _
    rw [e0, obs_ok]
    unfold setN2
    rw [if_pos hdc]
    rfl
  rw [e1]
  show (if (hs.map cD).all deepD = true ∧ (hs.map cD).length < sizeLine then _ else _) = _
  rw [if_pos ⟨hd, hl⟩]
  by_cases hin : c ∈ hs
  · rw [if_pos (hm.mpr hin), if_pos hin]
    rfl
  · rw [if_neg (fun z => hin (hm.mp z)), if_neg hin]
    simp [tK]
def litB : Sl → Bool
  | .un => true
  | .v (.sh _) => true
  | _ => false
theorem lit_np {s : Sl} (h : litB s = true) : s.np = true := by
  cases s with
  | un => rfl
  | v t => rfl
  | p k t => cases h
theorem lp_un1 (s0 s1 s2 s4 s6 : Sl) : ∀ (cs hs : List Ch) (s5 : Sl), (∀ x ∈ hs, x ≠ []) → (∀ x ∈ cs, x ≠ []) → hs.length + cs.length ≤ 1000000 → litB s5 = true →
    ∃ hs' t5, litB t5 = true ∧ (∀ x, x ∈ hs' ↔ x ∈ hs ∨ x ∈ cs) ∧ hs'.length ≤ hs.length + cs.length ∧ mFor (tgN 5) L_uncovered_1 (cs.map cD) [s0, s1, s2, .v (tK hs), s4, s5, s6] = .nx [s0, s1, s2, .v (tK hs'), s4, t5, s6]
  | [], hs, s5, _, _, _, n => ⟨hs, s5, n, fun x => by simp, by simp, by simp⟩
  | c :: cs, hs, s5, h1, h2, hz, n => by
    simp only [List.length_cons] at hz
    have hc := h2 c List.mem_cons_self
    have e1 := put_ch s0 s1 s2 s4 s6 hs c h1 hc (by omega)
    have hl : (if c ∈ hs then hs else hs ++ [c]).length ≤ hs.length + 1 := by split <;> simp
    have hm : ∀ x, x ∈ (if c ∈ hs then hs else hs ++ [c]) ↔ x ∈ hs ∨ x = c := by
      intro x
      split
      · rename_i z
        constructor
        · exact .inl
        · rintro (g | rfl)
          · exact g
          · exact z
      · simp
    generalize (if c ∈ hs then hs else hs ++ [c]) = g at *
    obtain ⟨hs', t5, n5, i1, i2, e2⟩ := lp_un1 s0 s1 s2 s4 s6 cs g (dS (cD c)) (fun x hx => by
      rcases (hm x).mp hx with z | rfl
      · exact h1 x z
      · exact hc) (fun x hx => h2 x (List.mem_cons_of_mem _ hx)) (by omega) rfl
    refine ⟨hs', t5, n5, fun x => ?_, by simp only [List.length_cons]; omega, ?_⟩
    · rw [i1, hm, List.mem_cons, or_assoc]
    · rw [List.map_cons, e_mFor_cons]
      generalize cD c = cd at *
      have n := lit_np n
      simp -implicitDefEqProofs [setV_z, n, L_uncovered_1, e1, e2]
theorem row_seq (r : Row) : (rwD r).seq? = some (r.2.map .int) := by
  unfold rwD
  split <;> rfl
def sgT : D → T
  | .int v => .lst [.sh (.int v)]
  | _ => .sh .non
theorem sg_d (row : List Int) : (T.lst ((row.map D.int).map sgT)).d = cols (single row) := by
  have e5 : ∀ v : Int, (sgT (.int v)).d = il [v] := fun v => by simp [sgT]
  rw [cols, single, td_lst]
  refine congrArg D.lst ?_
  rw [List.map_map, List.map_map, List.map_map]
  exact List.map_congr_left fun v _ => e5 v
theorem lp_un2 (sd : D) (n : Nat) (g1 : 1 ≤ n) (g3 : n ≤ 3) (s2 : Sl) : ∀ (rs : List Row) (hs : List Ch) (s4 s5 : Sl), (∀ x ∈ hs, x ≠ []) → (∀ r ∈ rs, r.2.length ≤ 6) → hs.length + 216 * rs.length ≤ 1000000 → s4.np = true → litB s5 = true →
    ∃ hs' t4 t5, t4.np = true ∧ litB t5 = true ∧ (∀ x, x ∈ hs' ↔ x ∈ hs ∨ ∃ r ∈ rs, x ∈ among (single r.2) n) ∧ mFor (tgN 4) L_uncovered_2 (rs.map rwD) [dS sd, iS n, s2, .v (tK hs), s4, s5, .un] = .nx [dS sd, iS n, s2, .v (tK hs'), t4, t5, .un]
  | [], hs, s4, s5, _, _, _, n4, n5 => ⟨hs, s4, s5, n4, n5, fun x => by simp, by simp⟩
  | r :: rs, hs, s4, s5, h1, h2, hz, n4, n5 => by
    simp only [List.length_cons] at hz
    have hr := h2 r List.mem_cons_self
    have ls : (single r.2).length ≤ 6 := by simp [single]; omega
    have lw : ∀ l ∈ single r.2, l.length ≤ 1 := fun l hl => by
      obtain ⟨v, _, rfl⟩ := List.mem_map.mp hl
      simp
    have e1 := e_among (single r.2) ls (fun l hl => Nat.le_trans (lw l hl) (by decide)) n g1 g3
    have cnt := among_count (single r.2) 1 lw n
    have cnt2 : ((single r.2).length * 1) ^ n ≤ 6 ^ n := Nat.pow_le_pow_left (by omega) _
    have cnt3 : 6 ^ n ≤ 6 ^ 3 := Nat.pow_le_pow_right (by decide) g3
    have cnt4 : (among (single r.2) n).length ≤ 216 := by omega
    have ne : ∀ x ∈ among (single r.2) n, x ≠ [] := fun x hx z => by
      have := among_len n x hx
      rw [z] at this
      simp at this
      omega
    obtain ⟨hs1, u5, m5, i1, i2, e2⟩ := lp_un1 (dS sd) (iS n) s2 (dS (rwD r)) .un (among (single r.2) n) hs s5 h1 ne (by omega) n5
    obtain ⟨hs', t4, t5, k4, k5, j1, e3⟩ := lp_un2 sd n g1 g3 s2 rs hs1 (dS (rwD r)) u5 (fun x hx => by
      rcases (i1 x).mp hx with z | z
      · exact h1 x z
      · exact ne x z) (fun x hx => h2 x (List.mem_cons_of_mem _ hx)) (by omega) rfl m5
    have c := mLc_eq (vs := [6]) (g := tgN 6) (mi := mSeqs (mName 4)) (mt := mYes) (me := mOpN fLstD (mCons (mName 6) mNil)) (ρ := [dS sd, iS n, s2, .v (tK hs), dS (rwD r), s5, .un]) (ρ1 := [dS sd, iS n, s2, .v (tK hs), dS (rwD r), s5, .un]) (ds := r.2.map .int) (fun _ => true) sgT (fun d => [dS sd, iS n, s2, .v (tK hs), dS (rwD r), s5, dS d])
      (by simp -implicitDefEqProofs [row_seq]) (by simp -implicitDefEqProofs [litS]) (by simp -implicitDefEqProofs []) (by simp [sizeLine]; omega) (fun d hd => by
        obtain ⟨z, hz, rfl⟩ := List.mem_map.mp hd
        exact ⟨by simp -implicitDefEqProofs [], by simp -implicitDefEqProofs [], by simp -implicitDefEqProofs [], fun _ => by simp -implicitDefEqProofs [sgT, -tl_nil]⟩)
    rw [List.filter_eq_self.mpr (fun _ _ => rfl)] at c
    have ec := sg_d r.2
    refine ⟨hs', t4, t5, k4, k5, fun x => ?_, ?_⟩
    · rw [j1, i1]
      simp only [List.mem_cons, exists_eq_or_imp, or_assoc]
    · rw [List.map_cons, e_mFor_cons]
      have el : lC (among (single r.2) n) = .lst ((among (single r.2) n).map cD) := rfl
      rw [el] at e1
      generalize (among (single r.2) n).map cD = A at *
      generalize cols (single r.2) = cl at *
      generalize T.lst ((r.2.map D.int).map sgT) = tt at *
      generalize rwD r = rd at *
      simp -implicitDefEqProofs [setV_z, n4, L_uncovered_2, c, ec, e1, e2, e3]
end Wk

set_option Elab.async false
set_option linter.all false
set_option maxRecDepth 100000
set_option maxHeartbeats 4000000
namespace Wk
open PySem PySem.Spec PyProof.Rows L2 PD
def ninP (hs : List Ch) (d : D) : Bool := !decide (nkO d ∈ (dkeys (hs.map cD)).map some)
theorem filter_nin (hs : List Ch) : ∀ cs : List Ch, (cs.map cD).filter (ninP hs) = (cs.filter fun c => !decide (c ∈ hs)).map cD
  | [] => rfl
  | c :: cs => by
    have ih := filter_nin hs cs
    have e : ninP hs (cD c) = !decide (c ∈ hs) := by
      unfold ninP
      rw [decide_eq_decide.mpr (key_mem c hs)]
    rw [List.map_cons, List.filter_cons, List.filter_cons, e, ih]
    split <;> rfl
theorem tS_eq (cs : List Ch) : T.lst ((cs.map cD).map .sh) = tS cs := by
  unfold tS
  rw [List.map_map]
  rfl
/-- the choices that no row holds -/
def unc (sz : List Int) (n : Nat) (rs : List Row) : List Ch := (among (szc sz) n).filter fun c => !anyH rs c
theorem e_uncovered (sz : List Int) (n : Int) (rs : List Row) (hrs : rs.length ≤ 1000) : F_uncovered [dS (il sz), iS n, dS (rsD rs)] =
    if spaB sz = true then (if strB sz n = true then (if rowsB sz rs = true then .ok (tS (unc sz n.toNat rs)) [dS (il sz), iS n, dS (rsD rs)] else .err xSp [dS (il sz), iS n, dS (rsD rs)]) else .err (xCo n) [dS (il sz), iS n, dS (rsD rs)]) else .err xSp [dS (il sz), iS n, dS (rsD rs)] := by
  have e1 := e_check_space sz
  have e2 := e_check_strength sz n
  have er : rsD rs = .lst (rs.map rwD) := rfl
  unfold F_uncovered
  rw [e_runF]
  unfold M_uncovered
  by_cases h1 : spaB sz = true
  · rw [if_pos h1] at e1 ⊢
    obtain ⟨k1, k2⟩ := (spa_iff sz).mp h1
    have e3 := e_check_rows sz rs (by omega)
    by_cases h2 : strB sz n = true
    · rw [if_pos h2] at e2 ⊢
      by_cases h3 : rowsB sz rs = true
      · rw [if_pos h3] at e3 ⊢
        obtain ⟨g1, g2, g3⟩ := (str_iff sz n).mp h2
        obtain ⟨m, rfl⟩ : ∃ m : Nat, n = (m : Int) := ⟨n.toNat, by omega⟩
        have hrow : ∀ r ∈ rs, r.2.length = sz.length := fun r hr => ((row_iff sz r).mp (List.all_eq_true.mp h3 r hr)).1
        obtain ⟨hs, t4, t5, n4, n5, i1, e4⟩ := lp_un2 (il sz) m (by omega) (by omega) (dS (rsD rs)) rs [] .un .un (by simp) (fun r hr => by rw [hrow r hr]; omega) (by simp; omega) rfl rfl
        obtain ⟨sa, sb⟩ := szc_ok k1.2 k2
        obtain ⟨l1, l2⟩ := among_ok (szc sz) sa sb m (by omega)
        have e5 := e_choice_list sz k1.2 k2 m (by omega) (by omega)
        have hlen : ((szc sz).length) = sz.length := by simp [szc]
        have hhs : ∀ x ∈ hs, x ≠ [] := fun x hx z => by
          rcases (i1 x).mp hx with g | ⟨r, hr, g⟩
          · cases g
          · have := among_len m x g
            rw [z] at this
            simp at this
            omega
        have hfil : (among (szc sz) m).filter (fun c => !decide (c ∈ hs)) = unc sz m rs := by
          unfold unc
          apply List.filter_congr
          intro c hc
          have hiff : c ∈ hs ↔ anyH rs c = true := by
            rw [i1]
            simp only [List.not_mem_nil, false_or, anyH, List.any_eq_true]
            constructor
            · rintro ⟨r, hr, g⟩
              exact ⟨r, hr, (holds_iff (szc sz) r.2 (by rw [hrow r hr, hlen]) m c hc).mp g⟩
            · rintro ⟨r, hr, g⟩
              exact ⟨r, hr, (holds_iff (szc sz) r.2 (by rw [hrow r hr, hlen]) m c hc).mpr g⟩
          cases hA : anyH rs c with
          | true =>
            rw [decide_eq_true (hiff.mpr hA)]
          | false =>
            rw [decide_eq_false fun z => by rw [hiff.mp z] at hA; cases hA]
        have hd := all_deep hs hhs
        have ht5 : restS [dS (il sz), iS m, dS (rsD rs), .v (tK hs), t4, t5, .un] (wipeS [dS (il sz), iS m, dS (rsD rs), .v (tK hs), t4, t5, .un] [5]) [5] = [dS (il sz), iS m, dS (rsD rs), .v (tK hs), t4, t5, .un] := by simp
        have lit5 : litS [dS (il sz), iS m, dS (rsD rs), .v (tK hs), t4, t5, .un] [5] = true := by
          unfold litS
          cases t5 with
          | un => rfl
          | p k t => cases n5
          | v t =>
            cases t with
            | sh d => rfl
            | _ => cases n5
        have c := mLc_eq (vs := [5]) (g := tgN 5) (mi := mSeqs (mGv (mCall F_choice_list (qCons (mName 0) (qCons (mName 1) qNil)) []))) (mt := mNNotIn 3 (mName 5)) (me := mSh (mName 5))
          (ρ := [dS (il sz), iS m, dS (rsD rs), .v (tK hs), t4, t5, .un]) (ρ1 := [dS (il sz), iS m, dS (rsD rs), .v (tK hs), t4, t5, .un]) (ds := (among (szc sz) m).map cD) (ninP hs) T.sh (fun d => [dS (il sz), iS m, dS (rsD rs), .v (tK hs), t4, dS d, .un])
          (by simp -implicitDefEqProofs [e5, lC]) lit5 ht5 (by simp [sizeLine]; omega) (fun d hd' => by
            obtain ⟨c, hc, rfl⟩ := List.mem_map.mp hd'
            have hcn : c ≠ [] := fun z => by
              have := among_len m c hc
              rw [z] at this
              simp at this
              omega
            refine ⟨by simp -implicitDefEqProofs [], ?_, by simp -implicitDefEqProofs [], fun _ => by simp -implicitDefEqProofs []⟩
            have e0 : mName 5 [dS (il sz), iS m, dS (rsD rs), .v (tK hs), t4, dS (cD c), .un] = .ok (cD c) [dS (il sz), iS m, dS (rsD rs), .v (tK hs), t4, dS (cD c), .un] := by simp -implicitDefEqProofs []
            show (mName 5 [dS (il sz), iS m, dS (rsD rs), .v (tK hs), t4, dS (cD c), .un]).bind _ = _
            rw [e0, ob_ok]
            show (if deepD (cD c) = true ∧ (hs.map cD).all deepD = true then _ else _) = _
            rw [if_pos ⟨deep_ch c hcn, hd⟩]
            rfl)
        rw [filter_nin, tS_eq, hfil] at c
        rw [Int.toNat_natCast]
        have ek : T.dct [] [] = tK [] := rfl
        generalize unc sz m rs = U at *
        generalize tK hs = th at *
        rw [er] at e3 e4 c ⊢
        generalize rs.map rwD = rd at *
        simp -implicitDefEqProofs [e1, e2, e3, mDict0, ek, e4, c]
      · rw [if_neg h3] at e3 ⊢
        generalize rsD rs = rd at *
        simp -implicitDefEqProofs [e1, e2, e3]
    · rw [if_neg h2] at e2 ⊢
      generalize rsD rs = rd at *
      simp -implicitDefEqProofs [e1, e2]
  · rw [if_neg h1] at e1 ⊢
    generalize rsD rs = rd at *
    simp -implicitDefEqProofs [e1]
theorem e_covers (sz : List Int) (n : Int) (rs : List Row) (hrs : rs.length ≤ 1000) : F_covers [dS (il sz), iS n, dS (rsD rs)] =
    if spaB sz = true then (if strB sz n = true then (if rowsB sz rs = true then .ok (.sh (.bl (decide ((unc sz n.toNat rs).length = 0)))) [dS (il sz), iS n, dS (rsD rs)] else .err xSp [dS (il sz), iS n, dS (rsD rs)]) else .err (xCo n) [dS (il sz), iS n, dS (rsD rs)]) else .err xSp [dS (il sz), iS n, dS (rsD rs)] := by
  have e := e_uncovered sz n rs hrs
  unfold F_covers
  rw [e_runF]
  unfold M_covers
  have ed : (tS (unc sz n.toNat rs)).d = .lst ((unc sz n.toNat rs).map cD) := by
    unfold tS
    rw [td_lst, List.map_map]
    rfl
  have lm : ((unc sz n.toNat rs).map cD).length = (unc sz n.toNat rs).length := List.length_map _
  generalize rsD rs = rd at *
  by_cases h1 : spaB sz = true
  · rw [if_pos h1] at e ⊢
    by_cases h2 : strB sz n = true
    · rw [if_pos h2] at e ⊢
      by_cases h3 : rowsB sz rs = true
      · rw [if_pos h3] at e ⊢
        generalize tS (unc sz n.toNat rs) = ut at *
        generalize (unc sz n.toNat rs).map cD = ud at *
        generalize (unc sz n.toNat rs).length = ul at *
        have z : decide ((ul : Int) = 0) = decide (ul = 0) := by
          by_cases g : ul = 0
          · subst g; rfl
          · have : ¬ (ul : Int) = 0 := by omega
            simp [g, this]
        simp -implicitDefEqProofs [e, ed, lm, z]
      · rw [if_neg h3] at e ⊢
        simp -implicitDefEqProofs [e]
    · rw [if_neg h2] at e ⊢
      simp -implicitDefEqProofs [e]
  · rw [if_neg h1] at e ⊢
    simp -implicitDefEqProofs [e]
end Wk

set_option Elab.async false
set_option linter.all false
set_option maxRecDepth 100000
set_option maxHeartbeats 4000000
namespace Wk
open PySem PySem.Spec PyProof.Rows L2 PD
def cpT : D → T
  | .lst ds => .lst (ds.map .sh)
  | d => .sh d
theorem cut_all (ds : List D) : cut ds none none = ds := by
  have e := cut_from ds 0 (by decide)
  have h : cut ds none none = cut ds (some 0) none := by
    unfold cut
    rw [HT.sIx_none, HT.sIx_none, sIx_pos _ _ _ (by decide)]
    simp
  rw [h, e]
  rfl
theorem sl_all (r : Row) : fSl (rwD r) none none = some (cpT (rwD r)) := by
  unfold rwD
  split
  · show (if HT.sIx _ 0 none = 0 ∧ HT.sIx _ _ none = _ then _ else _) = _
    rw [if_pos ⟨HT.sIx_none _ _, HT.sIx_none _ _⟩]
    rfl
  · rw [fSl_lst, cut_all]
    rfl
theorem cp_d (r : Row) : (cpT (rwD r)).d = rwD r := by
  unfold rwD
  split
  · rfl
  · simp [cpT, -tl_fold3]
theorem cps_d (rs : List Row) : (T.lst ((rs.map rwD).map cpT)).d = rsD rs := by
  rw [td_lst, rsD]
  refine congrArg D.lst ?_
  rw [List.map_map, List.map_map]
  exact List.map_congr_left fun r _ => cp_d r
theorem f_ne_bl (a b : Bool) : fNe (.bl a) (.bl b) = some (!(a == b)) := by
  show (if D.shal 60 (.bl a) = true ∧ D.shal 60 (.bl b) = true then some (!D.eqv (.bl a) (.bl b)) else none) = _
  rw [if_pos ⟨by simp, by simp⟩]
  simp only [D.eqv]
theorem eqv_row (r : Row) : D.eqv (rwD r) (rwD r) = true := by
  unfold rwD
  split <;> simp only [D.eqv, eqvs_ints, decide_true]
theorem eqv_rows : ∀ rs : List Row, D.eqvs (rs.map rwD) (rs.map rwD) = true
  | [] => by simp [D.eqvs]
  | r :: rs => by simp only [List.map_cons, D.eqvs, eqv_row r, eqv_rows rs, Bool.and_self]
theorem eq_rows (rs : List Row) : fEq (rsD rs) (rsD rs) = some true := by
  have hs : D.shal 60 (rsD rs) = true := by
    unfold rsD
    rw [D.shal_lst, List.all_eq_true]
    intro d hd
    obtain ⟨r, _, rfl⟩ := List.mem_map.mp hd
    unfold rwD
    split
    · rw [D.shal_tup]; exact shal_ints _ _
    · rw [D.shal_lst]; exact shal_ints _ _
  show (if D.shal 60 (rsD rs) = true ∧ D.shal 60 (rsD rs) = true then some (D.eqv (rsD rs) (rsD rs)) else none) = _
  rw [if_pos ⟨hs, hs⟩]
  unfold rsD
  simp only [D.eqv, eqv_rows]
theorem tS_d (cs : List Ch) : (tS cs).d = lC cs := by
  unfold tS lC
  rw [td_lst, List.map_map]
  rfl
theorem e_asked (sz : List Int) (n : Nat) (rs : List Row) (hrs : rs.length ≤ 1000) (h1 : spaB sz = true) (h2 : strB sz n = true) (h3 : rowsB sz rs = true) :
    F__law_asked [dS (il sz), iS n, dS (rsD rs), dS (lC (unc sz n rs))] = .ok (.sh (.bl true)) [dS (il sz), iS n, dS (rsD rs), dS (lC (unc sz n rs))] := by
  have e1 := e_uncovered sz n rs hrs
  have e2 := e_covers sz n rs hrs
  rw [if_pos h1, if_pos h2, if_pos h3, Int.toNat_natCast] at e1 e2
  obtain ⟨k1, k2⟩ := (spa_iff sz).mp h1
  obtain ⟨g1, g2, g3⟩ := (str_iff sz n).mp h2
  obtain ⟨sa, sb⟩ := szc_ok k1.2 k2
  obtain ⟨l1, _⟩ := among_ok (szc sz) sa sb n (by omega)
  have lu : (unc sz n rs).length ≤ 27000 := Nat.le_trans (List.length_filter_le _ _) l1
  have e3 := e_same (unc sz n rs) n (fun c hc => among_len n c (List.mem_filter.mp hc).1) (by omega)
  have q1 := f_eq_il sz sz
  rw [decide_eq_true rfl] at q1
  have q2 := eq_rows rs
  have er : rsD rs = .lst (rs.map rwD) := rfl
  have c := mLc_eq (vs := [6]) (g := tgN 6) (mi := mSeqs (mName 2)) (mt := mYes) (me := mSl (mName 6) (M.pure none) (M.pure none))
    (ρ := [dS (il sz), iS n, dS (rsD rs), dS (lC (unc sz n rs)), .v (tl sz), .un, .un, .un, .un]) (ρ1 := [dS (il sz), iS n, dS (rsD rs), dS (lC (unc sz n rs)), .v (tl sz), .un, .un, .un, .un]) (ds := rs.map rwD) (fun _ => true) cpT
    (fun d => [dS (il sz), iS n, dS (rsD rs), dS (lC (unc sz n rs)), .v (tl sz), .un, dS d, .un, .un]) (by simp -implicitDefEqProofs [rsD]) (by simp -implicitDefEqProofs [litS]) (by simp -implicitDefEqProofs []) (by simp [sizeLine]; omega) (fun d hd => by
      obtain ⟨r, hr, rfl⟩ := List.mem_map.mp hd
      have sl := sl_all r
      generalize rwD r = rd at *
      exact ⟨by simp -implicitDefEqProofs [], by simp -implicitDefEqProofs [], by simp -implicitDefEqProofs [], fun _ => by simp -implicitDefEqProofs [sl]⟩)
  rw [List.filter_eq_self.mpr (fun _ _ => rfl)] at c
  have cd := cps_d rs
  unfold F__law_asked
  rw [e_runF]
  unfold M__law_asked
  have lm : ((unc sz n rs).map cD).length = (unc sz n rs).length := List.length_map _
  have el : lC (unc sz n rs) = .lst ((unc sz n rs).map cD) := rfl
  have td := tS_d (unc sz n rs)
  have nm : ∀ (i : Nat) (ρ : List Sl), nmS i ρ (some (.v (tS (unc sz n rs)))) = .ok (.lst ((unc sz n rs).map cD)) (ρ.set i (dS (.lst ((unc sz n rs).map cD)))) := fun i ρ => nm_tS i ρ _
  have nm2 : ∀ (i : Nat) (ρ : List Sl), nmS i ρ (some (.v (.lst ((rs.map rwD).map cpT)))) = .ok (rsD rs) (ρ.set i (dS (rsD rs))) := fun i ρ => by
    rw [← cd]
    rfl
  have z : decide (((unc sz n rs).length : Int) = 0) = decide ((unc sz n rs).length = 0) := by
    by_cases g : (unc sz n rs).length = 0
    · rw [g]; rfl
    · have : ¬ ((unc sz n rs).length : Int) = 0 := by omega
      simp [g, this]
  rw [el] at e3 c ⊢
  generalize tS (unc sz n rs) = ut at *
  generalize (unc sz n rs).map cD = ud at *
  generalize (unc sz n rs).length = ul at *
  generalize T.lst ((rs.map rwD).map cpT) = rt at *
  generalize rsD rs = rd at *
  simp -implicitDefEqProofs [c, nm, nm2, e1, e3, e2, lm, z, f_ne_bl, q1, q2]
def toldT : T := .tup [.sh (.str "told"), .sh (.int 0)]
def spaceT : T := .tup [.sh (.str "space"), .sh (.int 0)]
def countT (i : Int) : T := .tup [.sh (.str "count"), .sh (.int i)]
def outT (door : Int) (sz : List Int) (n : Int) (rs : List Row) : T :=
  if spaB sz = true then (if strB sz n = true then (if door = 0 ∨ rowsB sz rs = true then toldT else spaceT) else countT n) else spaceT
theorem e_outcome (door : Int) (hdoor : door = 0 ∨ door = 1 ∨ door = 2) (sz : List Int) (n : Int) (rs : List Row) (hrs : rs.length ≤ 1000) : F__law_outcome [iS door, dS (il sz), iS n, dS (rsD rs)] = .ok (outT door sz n rs) [iS door, dS (il sz), iS n, dS (rsD rs)] := by
  have e1 := e_uncovered sz n rs hrs
  have e2 := e_covers sz n rs hrs
  have e3 := e_choices sz n
  have er : rsD rs = .lst (rs.map rwD) := rfl
  have c := mLc_eq (vs := [5]) (g := tgN 5) (mi := mSeqs (mName 3)) (mt := mYes) (me := mSl (mName 5) (M.pure none) (M.pure none))
    (ρ := [iS door, dS (il sz), iS n, dS (rsD rs), .un, .un, .un]) (ρ1 := [iS door, dS (il sz), iS n, dS (rsD rs), .un, .un, .un]) (ds := rs.map rwD) (fun _ => true) cpT
    (fun d => [iS door, dS (il sz), iS n, dS (rsD rs), .un, dS d, .un]) (by simp -implicitDefEqProofs [rsD]) (by simp -implicitDefEqProofs [litS]) (by simp -implicitDefEqProofs []) (by simp [sizeLine]; omega) (fun d hd => by
      obtain ⟨r, hr, rfl⟩ := List.mem_map.mp hd
      have sl := sl_all r
      generalize rwD r = rd at *
      exact ⟨by simp -implicitDefEqProofs [], by simp -implicitDefEqProofs [], by simp -implicitDefEqProofs [], fun _ => by simp -implicitDefEqProofs [sl]⟩)
  rw [List.filter_eq_self.mpr (fun _ _ => rfl)] at c
  have nm2 : ∀ (i : Nat) (ρ : List Sl), nmS i ρ (some (.v (.lst ((rs.map rwD).map cpT)))) = .ok (rsD rs) (ρ.set i (dS (rsD rs))) := fun i ρ => by
    rw [← cps_d rs]
    rfl
  unfold F__law_outcome
  rw [e_runF]
  unfold M__law_outcome outT
  generalize T.lst ((rs.map rwD).map cpT) = rt at *
  generalize rsD rs = rd at *
  by_cases h1 : spaB sz = true
  · rw [if_pos h1] at e1 e2 e3 ⊢
    by_cases h2 : strB sz n = true
    · rw [if_pos h2] at e1 e2 e3 ⊢
      generalize (among (szc sz) n.toNat).map cD = A at *
      generalize tS (unc sz n.toNat rs) = ut at *
      generalize (unc sz n.toNat rs).length = ul at *
      by_cases h3 : rowsB sz rs = true
      · rw [if_pos h3] at e1 e2
        rw [if_pos (Or.inr h3)]
        rcases hdoor with rfl | rfl | rfl <;> simp -implicitDefEqProofs [c, nm2, mListG, listO, e1, e2, e3, toldT]
      · rw [if_neg h3] at e1 e2
        rcases hdoor with rfl | rfl | rfl
        · rw [if_pos (Or.inl rfl)]
          simp -implicitDefEqProofs [c, nm2, mListG, listO, e3, toldT]
        · rw [if_neg (by simp [h3])]
          simp -implicitDefEqProofs [c, nm2, e1, xSp, catF_TouchstoneError, mh__law_outcome, faultR, faultS, spaceT]
        · rw [if_neg (by simp [h3])]
          simp -implicitDefEqProofs [c, nm2, e2, xSp, catF_TouchstoneError, mh__law_outcome, faultR, faultS, spaceT]
    · rw [if_neg h2] at e1 e2 e3 ⊢
      rcases hdoor with rfl | rfl | rfl <;> simp -implicitDefEqProofs [c, nm2, mListG, listO, errs, e1, e2, e3, xCo, catF_TouchstoneError, mh__law_outcome, faultR, faultS, countT, intQ]
  · rw [if_neg h1] at e1 e2 e3 ⊢
    rcases hdoor with rfl | rfl | rfl <;> simp -implicitDefEqProofs [c, nm2, mListG, listO, errs, e1, e2, e3, xSp, catF_TouchstoneError, mh__law_outcome, faultR, faultS, spaceT]
end Wk

set_option Elab.async false
set_option linter.all false
set_option maxRecDepth 100000
set_option maxHeartbeats 4000000
namespace Wk
open PySem PySem.Spec PyProof.Rows L2 PD
theorem lp_sp (way size : Int) (hs : 2 ≤ size ∧ size ≤ 5) (s2 : Sl) : ∀ (ks : List Nat) (b : Bag) (sz : List Int) (s5 : Sl), (∀ z ∈ sz, 2 ≤ z ∧ z ≤ 5) → sz.length + ks.length ≤ 100 → s5.np = true →
    ∃ b' sz' t5, (∀ z ∈ sz', 2 ≤ z ∧ z ≤ 5) ∧ sz'.length = sz.length + ks.length ∧ mFor (tgN 5) L__law_space_1 ((ks.map fun (k : Nat) => (k : Int)).map .int) [.p 0 b.t, iS way, s2, iS size, .v (tl sz), s5] = .nx [.p 0 (Bag.t b'), iS way, s2, iS size, .v (tl sz'), t5]
  | [], b, sz, s5, h, _, n => ⟨b, sz, s5, h, by simp, by simp⟩
  | k :: ks, b, sz, s5, h, hz, n => by
    simp only [List.length_cons] at hz
    have z : sz.length ≤ 1000000 := by omega
    by_cases hw : way = 0
    · obtain ⟨b', sz', t5, i1, i2, e⟩ := lp_sp way size hs s2 ks b (sz ++ [size]) (iS k) (fun x hx => by
        rcases List.mem_append.mp hx with g | g
        · exact h x g
        · simp at g; omega) (by simp; omega) rfl
      refine ⟨b', sz', t5, i1, by simp at i2 ⊢; omega, ?_⟩
      subst hw
      rw [List.map_cons, List.map_cons, e_mFor_cons]
      simp -implicitDefEqProofs [setV_z, n, L__law_space_1, z, e, -List.map_map]
    · obtain ⟨r, b1, e1, g1, l1⟩ := tk b 4 (by decide) (by decide)
      obtain ⟨b', sz', t5, i1, i2, e⟩ := lp_sp way size hs s2 ks b1 (sz ++ [2 + r]) (iS k) (fun x hx => by
        rcases List.mem_append.mp hx with g | g
        · exact h x g
        · simp at g; omega) (by simp; omega) rfl
      refine ⟨b', sz', t5, i1, by simp at i2 ⊢; omega, ?_⟩
      rw [List.map_cons, List.map_cons, e_mFor_cons]
      simp -implicitDefEqProofs [setV_z, n, L__law_space_1, hw, e1, z, e, -List.map_map]
theorem e_space (b : Bag) : ∃ (sz : List Int) (b' : Bag), F__law_space [.v b.t] = .ok (tl sz) [.v b'.t] ∧ spaB sz = true := by
  obtain ⟨r1, b1, e1, g1, l1⟩ := tk b 4 (by decide) (by decide)
  obtain ⟨r2, b2, e2, g2, l2⟩ := tk b1 6 (by decide) (by decide)
  obtain ⟨r3, b3, e3, g3, l3⟩ := tk b2 4 (by decide) (by decide)
  obtain ⟨b', sz, t5, i1, i2, e⟩ := lp_sp r1 (2 + r3) (by omega) (iS (1 + r2)) (List.range (1 + r2).toNat) b3 [] .un (by simp) (by simp; omega) rfl
  have r := f_rng1 (1 + r2) (by omega) (by omega)
  refine ⟨sz, b', ?_, (spa_iff sz).mpr ⟨by simp at i2; omega, i1⟩⟩
  unfold F__law_space
  rw [e_runF]
  unfold M__law_space
  simp -implicitDefEqProofs [e1, e2, e3, r, e, -List.map_map]
theorem e_kept (b : Bag) (r : Row) : ∃ (r' : Row) (b' : Bag) (t : T), F__law_kept_kind [.v b.t, dS (rwD r)] = .ok t [.v b'.t, dS (rwD r)] ∧ t.d = rwD r' ∧ r'.2 = r.2 := by
  obtain ⟨r1, b1, e1, g1, l1⟩ := tk b 2 (by decide) (by decide)
  obtain ⟨k, xs⟩ := r
  have c1 : ∃ t, fTuple [rwD (k, xs)] = some t ∧ t.d = rwD (true, xs) := by
    cases k with
    | true => exact ⟨_, rfl, rfl⟩
    | false => exact ⟨_, rfl, by rw [td_tup_sh]; rfl⟩
  have c2 : ∃ t, fList [rwD (k, xs)] = some t ∧ t.d = rwD (false, xs) := by
    cases k with
    | true => exact ⟨_, rfl, by rw [td_lst_sh]; rfl⟩
    | false => exact ⟨_, rfl, by rw [td_lst_sh]; rfl⟩
  obtain ⟨t1, c1, d1⟩ := c1
  obtain ⟨t2, c2, d2⟩ := c2
  by_cases h : r1 = 0
  · refine ⟨(true, xs), b1, t1, ?_, d1, rfl⟩
    unfold F__law_kept_kind
    rw [e_runF]
    unfold M__law_kept_kind
    generalize rwD (k, xs) = rd at *
    simp -implicitDefEqProofs [e1, h, c1]
  · refine ⟨(false, xs), b1, t2, ?_, d2, rfl⟩
    unfold F__law_kept_kind
    rw [e_runF]
    unfold M__law_kept_kind
    generalize rwD (k, xs) = rd at *
    simp -implicitDefEqProofs [e1, h, c2]
def rowOk (sz row : List Int) : Prop := row.length = sz.length ∧ ∀ k, k < sz.length → 0 ≤ row.getD k 0 ∧ row.getD k 0 < sz.getD k 0
def prOk (sz : List Int) (q : Int × Int) : Prop := 0 ≤ q.1 ∧ q.1 < sz.length ∧ 0 ≤ q.2 ∧ q.2 < sz.getD q.1.toNat 0
def putR (row : List Int) (c : Ch) : List Int := c.foldl (fun row q => row.set q.1.toNat q.2) row
theorem set_at (row : List Int) (i j : Nat) (x : Int) (h : i < row.length) : (row.set i x).getD j 0 = if i = j then x else row.getD j 0 := by
  simp only [List.getD, List.getElem?_set]
  by_cases e : i = j
  · subst e
    simp [h]
  · simp [e]
theorem row_set {sz row : List Int} {q : Int × Int} (h : rowOk sz row) (hq : prOk sz q) : rowOk sz (row.set q.1.toNat q.2) := by
  obtain ⟨h1, h2⟩ := h
  obtain ⟨q1, q2, q3, q4⟩ := hq
  refine ⟨by simp [h1], fun k hk => ?_⟩
  rw [set_at row _ k _ (by omega)]
  split
  · rename_i e
    rw [← e]
    exact ⟨q3, q4⟩
  · exact h2 k hk
theorem putR_ok {sz : List Int} : ∀ (c : Ch) (row : List Int), rowOk sz row → (∀ q ∈ c, prOk sz q) → rowOk sz (putR row c)
  | [], row, h, _ => h
  | q :: c, row, h, hc => putR_ok c _ (row_set h (hc q List.mem_cons_self)) fun x hx => hc x (List.mem_cons_of_mem _ hx)
theorem putR_keep {sz : List Int} (j : Nat) : ∀ (c : Ch) (row : List Int), rowOk sz row → (∀ q ∈ c, prOk sz q) → (∀ q ∈ c, q.1.toNat ≠ j) → (putR row c).getD j 0 = row.getD j 0
  | [], row, _, _, _ => rfl
  | q :: c, row, h, hc, hn => by
    have hq := hc q List.mem_cons_self
    obtain ⟨q1, q2, q3, q4⟩ := hq
    show (putR (row.set q.1.toNat q.2) c).getD j 0 = _
    rw [putR_keep j c _ (row_set h (hc q List.mem_cons_self)) (fun x hx => hc x (List.mem_cons_of_mem _ hx)) (fun x hx => hn x (List.mem_cons_of_mem _ hx))]
    rw [set_at row _ j _ (by rw [h.1]; omega), if_neg (hn q List.mem_cons_self)]
theorem putR_holds {sz : List Int} : ∀ (c : Ch) (row : List Int), rowOk sz row → (∀ q ∈ c, prOk sz q) → c.Pairwise (fun a b => a.1 < b.1) → holdsB (putR row c) c = true
  | [], row, _, _, _ => rfl
  | q :: c, row, h, hc, hp => by
    have hq := hc q List.mem_cons_self
    obtain ⟨q1, q2, q3, q4⟩ := hq
    obtain ⟨p1, p2⟩ := List.pairwise_cons.mp hp
    have ih := putR_holds c _ (row_set h (hc q List.mem_cons_self)) (fun x hx => hc x (List.mem_cons_of_mem _ hx)) p2
    have e : (putR row (q :: c)).getD q.1.toNat 0 = q.2 := by
      show (putR (row.set q.1.toNat q.2) c).getD q.1.toNat 0 = _
      rw [putR_keep q.1.toNat c _ (row_set h (hc q List.mem_cons_self)) (fun x hx => hc x (List.mem_cons_of_mem _ hx)) (fun x hx => by
        have := p1 x hx
        have := (hc x (List.mem_cons_of_mem _ hx)).1
        omega)]
      rw [set_at row _ _ _ (by rw [h.1]; omega), if_pos rfl]
    show ((q :: c).all fun p => decide ((putR row (q :: c)).getD p.1.toNat 0 = p.2)) = true
    rw [List.all_cons, decide_eq_true e, Bool.true_and]
    exact ih
theorem ixN_nat (n k : Nat) (h : k < n) : ixN n (k : Int) = some k := by
  rw [ixN_in (by omega) (by omega)]
  rfl
theorem lp_rw1 (s2 s5 : Sl) (sd : D) : ∀ (zs : List Int) (b : Bag) (row : List Int) (s4 : Sl), (∀ z ∈ zs, 2 ≤ z ∧ z ≤ 5) → row.length + zs.length ≤ 1000 → s4.np = true →
    ∃ b' more t4, more.length = zs.length ∧ (∀ k, k < zs.length → 0 ≤ more.getD k 0 ∧ more.getD k 0 < zs.getD k 0) ∧ mFor (tgN 4) L__law_row_with_1 (zs.map .int) [.p 0 b.t, dS sd, s2, .v (tl row), s4, s5] = .nx [.p 0 (Bag.t b'), dS sd, s2, .v (tl (row ++ more)), t4, s5]
  | [], b, row, s4, _, _, n => ⟨b, [], s4, rfl, fun k hk => by simp at hk, by simp⟩
  | z :: zs, b, row, s4, h, hz, n => by
    simp only [List.length_cons] at hz
    have hz0 := h z List.mem_cons_self
    obtain ⟨r, b1, e1, g1, l1⟩ := tk b z (by omega) (by omega)
    obtain ⟨b', more, t4, i1, i2, e⟩ := lp_rw1 s2 s5 sd zs b1 (row ++ [r]) (iS z) (fun x hx => h x (List.mem_cons_of_mem _ hx)) (by simp; omega) rfl
    have zz : row.length ≤ 1000000 := by omega
    refine ⟨b', r :: more, t4, by simp [i1], fun k hk => ?_, ?_⟩
    · cases k with
      | zero => exact ⟨g1, l1⟩
      | succ k => exact i2 k (by simp at hk; omega)
    · rw [List.append_assoc, List.singleton_append] at e
      rw [List.map_cons, e_mFor_cons]
      simp -implicitDefEqProofs [setV_z, n, L__law_row_with_1, e1, zz, e]
theorem lp_rw2 (sz : List Int) (s0 s1 s2 s4 : Sl) : ∀ (c : Ch) (row : List Int) (s5 : Sl), row.length = sz.length → (∀ q ∈ c, prOk sz q) → s5.np = true →
    ∃ t5, mFor (tgN 5) L__law_row_with_2 (c.map pD) [s0, s1, s2, .v (tl row), s4, s5] = .nx [s0, s1, s2, .v (tl (putR row c)), s4, t5]
  | [], row, s5, _, _, n => ⟨s5, by simp [putR]⟩
  | q :: c, row, s5, hl, hc, n => by
    obtain ⟨q1, q2, q3, q4⟩ := hc q List.mem_cons_self
    obtain ⟨t5, e⟩ := lp_rw2 sz s0 s1 s2 s4 c (row.set q.1.toNat q.2) (dS (pD q)) (by simp [hl]) (fun x hx => hc x (List.mem_cons_of_mem _ hx)) rfl
    refine ⟨t5, ?_⟩
    have ix : ixN row.length q.1 = some q.1.toNat := ixN_in q1 (by omega)
    have ep : putR row (q :: c) = putR (row.set q.1.toNat q.2) c := rfl
    rw [List.map_cons, e_mFor_cons, ep]
    unfold pD at *
    simp -implicitDefEqProofs [setV_z, n, L__law_row_with_2, ix, e]
theorem e_row_with (b : Bag) (sz : List Int) (hs : spaB sz = true) (c : Ch) (hc : ∀ q ∈ c, prOk sz q) (hp : c.Pairwise (fun a b => a.1 < b.1)) : ∃ (row : List Int) (b' : Bag), F__law_row_with [.v b.t, dS (il sz), dS (cD c)] = .ok (tl row) [.v b'.t, dS (il sz), dS (cD c)] ∧ rowOk sz row ∧ holdsB row c = true := by
  obtain ⟨k1, k2⟩ := (spa_iff sz).mp hs
  obtain ⟨b', more, t4, i1, i2, e1⟩ := lp_rw1 (dS (cD c)) .un (il sz) sz b [] .un k2 (by simp; omega) rfl
  rw [List.nil_append] at e1
  obtain ⟨t5, e2⟩ := lp_rw2 sz (.p 0 b'.t) (dS (il sz)) (dS (cD c)) t4 c more .un i1 hc rfl
  have ok : rowOk sz more := ⟨i1, i2⟩
  refine ⟨putR more c, b', ?_, putR_ok c more ok hc, putR_holds c more ok hc hp⟩
  unfold F__law_row_with
  rw [e_runF]
  unfold M__law_row_with
  have ec : cD c = .tup (c.map pD) := rfl
  rw [ec] at e1 e2 ⊢
  generalize c.map pD = pd at *
  generalize putR more c = fin at *
  simp -implicitDefEqProofs [e1, e2]
end Wk

set_option Elab.async false
set_option linter.all false
set_option maxRecDepth 100000
set_option maxHeartbeats 4000000
namespace Wk
open PySem PySem.Spec PyProof.Rows L2 PD
def tR (rs : List Row) : T := .lst (rs.map fun r => .sh (rwD r))
theorem tR_d (rs : List Row) : (tR rs).d = rsD rs := by
  unfold tR rsD
  rw [td_lst, List.map_map]
  rfl
theorem nm_tR (i : Nat) (ρ : List Sl) (rs : List Row) : nmS i ρ (some (.v (tR rs))) = .ok (rsD rs) (ρ.set i (dS (rsD rs))) := by
  show Out.ok (tR rs).d (ρ.set i (.v (.sh (tR rs).d))) = _
  rw [tR_d]
theorem app0_tR (i : Nat) (m : M T) (ρ : List Sl) (xs : List Row) : app0 i m ρ (some (tR xs)) = (m ρ).bindS fun t ρ' => app1 i t ρ' ρ'[i]? := rfl
theorem app2_tR (i : Nat) (r : Row) (s : Sl) (ρ : List Sl) (xs : List Row) (h : xs.length ≤ 1000000) : app2 i (.sh (rwD r)) s ρ (some (tR xs)) = .nx (ρ.set i (s.re (tR (xs ++ [r])))) := by
  unfold tR
  rw [app2_lst _ _ _ _ _ (by simp [sizeLine]; omega)]
  simp
theorem len_tR (rs : List Row) : (tR rs).len = some rs.length := by
  show some (List.map _ rs).length = _
  rw [List.length_map]
theorem item_tR (rs : List Row) (k : Nat) (h : k < rs.length) : (tR rs).item (k : Int) = some (rwD (rs.getD k (false, []))) := by
  show (atI (rs.map fun r => T.sh (rwD r)) (k : Int)).bind shT = _
  rw [atI_map, atI_in (by omega) (by omega), Int.toNat_natCast]
  simp [List.getD, List.getElem?_eq_getElem h]
theorem row_of (sz : List Int) (r : Row) (h : rowOk sz r.2) : rowB sz r = true := (row_iff sz r).mpr h
theorem rows_snoc {sz : List Int} {rs : List Row} {r : Row} (h : rowsB sz rs = true) (hr : rowB sz r = true) : rowsB sz (rs ++ [r]) = true := by
  unfold rowsB at *
  rw [List.all_append, h, List.all_cons, hr]
  rfl
theorem mem_getD (rs : List Row) (k : Nat) (h : k < rs.length) : rs.getD k (false, []) ∈ rs := by
  simp only [List.getD, List.getElem?_eq_getElem h, Option.getD_some]
  exact List.getElem_mem h
theorem turn_dr (ns : List Int) (sz : List Int) (hs : spaB sz = true) (k : Nat) (hk : k < 100) (s1 : Sl) (s5 s6 s7 : Sl) (rs : List Row) (h : rowsB sz rs = true) (hz : rs.length ≤ 1000) (n5 : s5.np = true) (n6 : s6.np = true) (n7 : s7.np = true) :
    ∃ r t5 t6 t7, t5.np = true ∧ t6.np = true ∧ t7.np = true ∧ rowB sz r = true ∧ L__law_drawn_rows_1 [dS (scr ns), s1, dS (il sz), .v (tR rs), iS k, s5, s6, s7] = .nx [dS (scr ns), s1, dS (il sz), .v (tR (rs ++ [r])), iS k, t5, t6, t7] := by
  obtain ⟨b0, e0⟩ := e_bag ns (3 + (k : Int)) (by omega) (by omega)
  obtain ⟨r1, b1, e1, g1, l1⟩ := tk b0 8 (by decide) (by decide)
  have lt := len_tR rs
  have z : rs.length ≤ 1000000 := by omega
  have a2 := fun r ρ s => app2_tR 3 r s ρ rs z
  by_cases hc : r1 = 0 ∧ 0 < rs.length
  · obtain ⟨r2, b2, e2, g2, l2⟩ := tk b1 rs.length (by omega) (by omega)
    obtain ⟨j, rfl⟩ : ∃ j : Nat, r2 = (j : Int) := ⟨r2.toNat, by omega⟩
    have hj : j < rs.length := by omega
    have it := item_tR rs j hj
    have hm := mem_getD rs j hj
    obtain ⟨r', b3, t, e3, d3, q3⟩ := e_kept b2 (rs.getD j (false, []))
    have hrow := List.all_eq_true.mp h _ hm
    refine ⟨r', .v b3.t, iS r1, dS (rwD (rs.getD j (false, []))), rfl, rfl, rfl, ?_, ?_⟩
    · rw [row_iff] at hrow ⊢
      rw [q3]
      exact hrow
    · have a3 := a2 r'
      have hl : 0 < rs.length := hc.2
      have h1 := hc.1
      subst h1
      have a1 := fun m ρ => app0_tR 3 m ρ rs
      generalize rs.getD j (false, []) = rj at *
      generalize rwD rj = rd at *
      generalize rwD r' = rd' at *
      generalize scr ns = script at *
      generalize rs.length = rl at *
      generalize tR (rs ++ [r']) = tr2 at *
      generalize tR rs = tr at *
      simp -implicitDefEqProofs [setV_z, n5, n6, n7, L__law_drawn_rows_1, e0, e1, lt, hl, e2, it, e3, d3, a1, a3]
  · obtain ⟨row, b2, e2, g2, _⟩ := e_row_with b1 sz hs [] (by simp) .nil
    obtain ⟨r', b3, t, e3, d3, q3⟩ := e_kept b2 (false, row)
    have e0' : cD [] = .tup [] := rfl
    have er : rwD (false, row) = il row := rfl
    rw [er] at e3
    rw [e0'] at e2
    refine ⟨r', .v b3.t, iS r1, dS (il row), rfl, rfl, rfl, row_of sz r' (by rw [q3]; exact g2), ?_⟩
    have a3 := a2 r'
    have a1 := fun m ρ => app0_tR 3 m ρ rs
    generalize rwD r' = rd' at *
    generalize scr ns = script at *
    generalize rs.length = rl at *
    generalize tR (rs ++ [r']) = tr2 at *
    generalize tR rs = tr at *
    by_cases h1 : r1 = 0
    · have hl : ¬ 0 < rl := fun x => hc ⟨h1, x⟩
      simp -implicitDefEqProofs [setV_z, n5, n6, n7, L__law_drawn_rows_1, e0, e1, lt, h1, hl, e2, e3, d3, a1, a3]
    · simp -implicitDefEqProofs [setV_z, n5, n6, n7, L__law_drawn_rows_1, e0, e1, lt, h1, e2, e3, d3, a1, a3]
theorem lp_dr (ns : List Int) (sz : List Int) (hs : spaB sz = true) (s1 : Sl) : ∀ (ks : List Nat) (rs : List Row) (s4 s5 s6 s7 : Sl), (∀ k ∈ ks, k < 100) → rowsB sz rs = true → rs.length + ks.length ≤ 500 → s4.np = true → s5.np = true → s6.np = true → s7.np = true →
    ∃ rs' t4 t5 t6 t7, rowsB sz rs' = true ∧ rs'.length = rs.length + ks.length ∧ mFor (tgN 4) L__law_drawn_rows_1 ((ks.map fun (k : Nat) => (k : Int)).map .int) [dS (scr ns), s1, dS (il sz), .v (tR rs), s4, s5, s6, s7] = .nx [dS (scr ns), s1, dS (il sz), .v (tR rs'), t4, t5, t6, t7]
  | [], rs, s4, s5, s6, s7, _, h, _, _, _, _, _ => ⟨rs, s4, s5, s6, s7, h, by simp, by simp⟩
  | k :: ks, rs, s4, s5, s6, s7, hk, h, hz, n4, n5, n6, n7 => by
    simp only [List.length_cons] at hz
    obtain ⟨r, u5, u6, u7, m5, m6, m7, hr, e1⟩ := turn_dr ns sz hs k (hk k List.mem_cons_self) s1 s5 s6 s7 rs h (by omega) n5 n6 n7
    obtain ⟨rs', t4, t5, t6, t7, i1, i2, e2⟩ := lp_dr ns sz hs s1 ks (rs ++ [r]) (iS k) u5 u6 u7 (fun x hx => hk x (List.mem_cons_of_mem _ hx)) (rows_snoc h hr) (by simp; omega) rfl m5 m6 m7
    refine ⟨rs', t4, t5, t6, t7, i1, by simp at i2 ⊢; omega, ?_⟩
    rw [List.map_cons, List.map_cons, e_mFor_cons]
    generalize scr ns = script at *
    generalize tR (rs ++ [r]) = tr2 at *
    generalize tR rs' = tr3 at *
    generalize tR rs = tr at *
    simp -implicitDefEqProofs [setV_z, n4, e1, e2, -List.map_map]
theorem e_drawn (ns : List Int) (b : Bag) (sz : List Int) (hs : spaB sz = true) : ∃ (rs : List Row) (b' : Bag), F__law_drawn_rows [dS (scr ns), .v b.t, dS (il sz)] = .ok (tR rs) [dS (scr ns), .v b'.t, dS (il sz)] ∧ rowsB sz rs = true ∧ rs.length ≤ 100 := by
  obtain ⟨r1, b1, e1, g1, l1⟩ := tk b 13 (by decide) (by decide)
  obtain ⟨m, rfl⟩ : ∃ m : Nat, r1 = (m : Int) := ⟨r1.toNat, by omega⟩
  obtain ⟨rs, t4, t5, t6, t7, i1, i2, e2⟩ := lp_dr ns sz hs (.p 1 b1.t) (List.range m) [] .un .un .un .un (fun k hk => by have := List.mem_range.mp hk; omega) rfl (by simp; omega) rfl rfl rfl rfl
  have r := rng_ok m (by omega)
  refine ⟨rs, b1, ?_, i1, by simp at i2; omega⟩
  rw [show tR [] = tl [] from rfl] at e2
  unfold F__law_drawn_rows
  rw [e_runF]
  unfold M__law_drawn_rows
  generalize scr ns = script at *
  generalize tR rs = tr at *
  simp -implicitDefEqProofs [e1, r, e2, -List.map_map]
end Wk

set_option Elab.async false
set_option linter.all false
set_option maxRecDepth 100000
set_option maxHeartbeats 4000000
namespace Wk
open PySem PySem.Spec PyProof.Rows L2 PD
def shS (s : Sl) : Prop := s = .un ∨ ∃ d, s = dS d
theorem shS_np {s : Sl} (h : shS s) : s.np = true := by rcases h with rfl | ⟨d, rfl⟩ <;> rfl
theorem shS_ok {s : Sl} (h : shS s) : s.okB = true := by rcases h with rfl | ⟨d, rfl⟩ <;> simp
theorem shS_d (d : D) : shS (dS d) := Or.inr ⟨d, rfl⟩
theorem lp_nr1 (sz fx : List Int) (hs : spaB sz = true) (s0 s2 s3 s4 s5 : Sl) : ∀ (m : Ch) (row : List Int) (s7 s8 : Sl), rowOk sz row → (∀ q ∈ m, prOk sz q) → (s7 = .v (tl fx) ∨ s7 = dS (il fx)) → shS s8 →
    ∃ row' t7 t8, t7.np = true ∧ shS t8 ∧ t7.okB = true ∧ rowOk sz row' ∧ mFor (tgN 8) L__law_near_rows_1 (m.map pD) [s0, dS (il sz), s2, s3, s4, s5, .v (tl row), s7, s8] = .nx [s0, dS (il sz), s2, s3, s4, s5, .v (tl row'), t7, t8]
  | [], row, s7, s8, h, _, h7, h8 => ⟨row, s7, s8, by rcases h7 with rfl | rfl <;> rfl, h8, by rcases h7 with rfl | rfl <;> simp, h, by simp⟩
  | q :: m, row, s7, s8, h, hm, h7, h8 => by
    have n8 := shS_np h8
    have hq := hm q List.mem_cons_self
    obtain ⟨q1, q2, q3, q4⟩ := hq
    obtain ⟨k1, k2⟩ := (spa_iff sz).mp hs
    have hsz := k2 (sz.getD q.1.toNat 0) (by
      rw [List.getD, List.getElem?_eq_getElem (show q.1.toNat < sz.length by omega)]
      exact List.getElem_mem _)
    have at1 := atI_ints sz q.1 q1 q2
    rw [List.map_cons, e_mFor_cons]
    by_cases hi : q.1 ∈ fx
    · obtain ⟨row', t7, t8, a1, a2, a3, a5, e⟩ := lp_nr1 sz fx hs s0 s2 s3 s4 s5 m row (dS (il fx)) (dS (pD q)) h (fun x hx => hm x (List.mem_cons_of_mem _ hx)) (Or.inr rfl) (shS_d _)
      refine ⟨row', t7, t8, a1, a2, a3, a5, ?_⟩
      unfold pD at *
      rcases h7 with rfl | rfl <;> simp -implicitDefEqProofs [setV_z, n8, L__law_near_rows_1, hi, e]
    · have ix : ixN row.length q.1 = some q.1.toNat := ixN_in q1 (by have := h.1; omega)
      have md := f_mod (q.2 + 1) (sz.getD q.1.toNat 0) (by omega)
      have hr : rowOk sz (row.set q.1.toNat ((q.2 + 1) % sz.getD q.1.toNat 0)) := row_set (q := (q.1, (q.2 + 1) % sz.getD q.1.toNat 0)) h ⟨q1, q2, Int.emod_nonneg _ (by omega), Int.emod_lt_of_pos _ (by omega)⟩
      obtain ⟨row', t7, t8, a1, a2, a3, a5, e⟩ := lp_nr1 sz fx hs s0 s2 s3 s4 s5 m _ (dS (il fx)) (dS (pD q)) hr (fun x hx => hm x (List.mem_cons_of_mem _ hx)) (Or.inr rfl) (shS_d _)
      refine ⟨row', t7, t8, a1, a2, a3, a5, ?_⟩
      generalize sz.getD q.1.toNat 0 = z at *
      unfold pD at *
      rcases h7 with rfl | rfl <;> simp -implicitDefEqProofs [setV_z, n8, L__law_near_rows_1, hi, at1, ix, md, e]
theorem prOk_of {sz : List Int} (hs : spaB sz = true) {n : Nat} {c : Ch} (hc : c ∈ among (szc sz) n) : (∀ q ∈ c, prOk sz q) ∧ c.Pairwise (fun a b => a.1 < b.1) := by
  refine ⟨fun q hq => ?_, (among_asc n c hc).1⟩
  obtain ⟨a1, a2, a3⟩ := among_pair n c hc q hq
  have el : (szc sz).length = sz.length := List.length_map _
  rw [el] at a2
  rw [szc_at sz q.1.toNat (by omega)] at a3
  have := mem_rng.mp a3
  exact ⟨a1, a2, by omega, by omega⟩
theorem prOk_in {sz : List Int} {c : Ch} (h : ∀ q ∈ c, prOk sz q) (row : List Int) (hr : rowOk sz row) : inP row.length c := fun q hq => by
  obtain ⟨a1, a2, _⟩ := h q hq
  exact ⟨a1, by rw [hr.1]; exact a2⟩
theorem turn_nr (sz : List Int) (hs : spaB sz = true) (ms c : Ch) (hm : ∀ q ∈ ms, prOk sz q) (hc : ∀ q ∈ c, prOk sz q) (hp : c.Pairwise (fun a b => a.1 < b.1)) (hcz : c.length ≤ 1000) (s2 : Sl) (s5 s6 s7 s8 : Sl) (o2 : s2.okB = true) (n6 : s6.np = true) (n7 : s7.np = true) (o7 : s7.okB = true) (h8 : shS s8) (b : Bag) (rs : List Row) (h : rowsB sz rs = true) (hz : rs.length ≤ 1000) :
    ∃ b' rs' t6 t7 t8, t6.np = true ∧ t7.np = true ∧ t7.okB = true ∧ shS t8 ∧ rowsB sz rs' = true ∧ rs'.length ≤ rs.length + 1 ∧ L__law_near_rows_2 [.p 0 b.t, dS (il sz), s2, dS (cD ms), .v (tR rs), dS (cD c), s6, s7, s8] = .nx [.p 0 (Bag.t b'), dS (il sz), s2, dS (cD ms), .v (tR rs'), dS (cD c), t6, t7, t8] := by
  have ne := ne_ch c ms
  have o8 := shS_ok h8
  by_cases hcm : c = ms
  · refine ⟨b, rs, s6, s7, s8, n6, n7, o7, h8, h, by omega, ?_⟩
    rw [decide_eq_true hcm] at ne
    generalize cD ms = md at *
    generalize cD c = cd at *
    generalize tR rs = tr at *
    simp -implicitDefEqProofs [L__law_near_rows_2, ne]
  · rw [decide_eq_false hcm] at ne
    obtain ⟨row, b1, e1, g1, _⟩ := e_row_with b sz hs c hc hp
    have e2 := e_holds (false, row) ms (prOk_in hm row g1)
    have er : rwD (false, row) = il row := rfl
    rw [er] at e2
    have z : rs.length ≤ 1000000 := by omega
    have a2 := fun r ρ s => app2_tR 4 r s ρ rs z
    have a1 := fun m ρ => app0_tR 4 m ρ rs
    have bor := bor_eq 6 (mCall F__law_holds (qCons (mName 6) (qCons (mName 3) qNil)) []) [.un, dS (il sz), s2, dS (cD ms), .un, dS (cD c), .v (tl row), s7, s8] (.v (tl row)) (tl row) (.sh (.bl (holdsB row ms))) rfl rfl (by
      generalize cD ms = md at *
      generalize cD c = cd at *
      generalize holdsB row ms = hb at *
      simp -implicitDefEqProofs [e2]) rfl (by
      generalize cD ms = md at *
      generalize cD c = cd at *
      simp -implicitDefEqProofs [o2, o7, o8])
    cases hh : holdsB row ms with
    | false =>
      obtain ⟨r', b2, t, e3, d3, q3⟩ := e_kept b1 (false, row)
      rw [er] at e3
      refine ⟨b2, rs ++ [r'], dS (il row), s7, s8, rfl, n7, o7, h8, rows_snoc h (row_of sz r' (by rw [q3]; exact g1)), by simp, ?_⟩
      rw [hh] at bor
      have a3 := a2 r'
      generalize tR (rs ++ [r']) = tr2 at *
      generalize tR rs = tr at *
      generalize rwD r' = rd' at *
      generalize cD ms = md at *
      generalize cD c = cd at *
      simp -implicitDefEqProofs [L__law_near_rows_2, ne, n6, e1, bor, e3, d3, a1, a3]
    | true =>
      rw [hh] at bor
      have ec : cD c = .tup (c.map pD) := rfl
      have em : cD ms = .tup (ms.map pD) := rfl
      have cl := fun (tr : T) => mLc_eq (vs := [8]) (g := tgN 8) (mi := mSeqs (mName 5)) (mt := mYes) (me := mSh (mOpD fIx (mName 8) (M.pure (.int 0))))
        (ρ := [.p 0 b1.t, dS (il sz), s2, dS (cD ms), .v tr, dS (cD c), .v (tl row), s7, s8]) (ρ1 := [.p 0 b1.t, dS (il sz), s2, dS (cD ms), .v tr, dS (cD c), .v (tl row), s7, s8]) (ds := c.map pD) (fun _ => true) (fun d => match d with | .tup (x :: _) => .sh x | d => .sh d)
        (fun d => [.p 0 b1.t, dS (il sz), s2, dS (cD ms), .v tr, dS (cD c), .v (tl row), s7, dS d]) (by
          rw [ec]
          generalize cD ms = md at *
          generalize c.map pD = cd at *
          simp -implicitDefEqProofs []) (by
          generalize cD ms = md at *
          generalize cD c = cd at *
          rcases h8 with rfl | ⟨d, rfl⟩ <;> simp -implicitDefEqProofs [litS]) (by
          generalize cD ms = md at *
          generalize cD c = cd at *
          simp -implicitDefEqProofs []) (by simp [sizeLine]; omega) (fun d hd => by
          obtain ⟨q, hq, rfl⟩ := List.mem_map.mp hd
          generalize cD ms = md at *
          generalize cD c = cd at *
          unfold pD
          exact ⟨by simp -implicitDefEqProofs [], by simp -implicitDefEqProofs [], by simp -implicitDefEqProofs [], fun _ => by simp -implicitDefEqProofs []⟩)
      rw [List.filter_eq_self.mpr (fun _ _ => rfl)] at cl
      have ef : (c.map pD).map (fun d => match d with | .tup (x :: _) => T.sh x | d => T.sh d) = (c.map fun q => q.1).map fun x => T.sh (.int x) := by
        rw [List.map_map, List.map_map]
        rfl
      rw [ef] at cl
      obtain ⟨row', t7, t8, a1', a2', a3', a5, lp⟩ := lp_nr1 sz (c.map fun q => q.1) hs (.p 0 b1.t) s2 (dS (cD ms)) (.v (tR rs)) (dS (cD c)) ms row (.v (tl (c.map fun q => q.1))) s8 g1 hm (Or.inl rfl) h8
      obtain ⟨r', b2, t, e3, d3, q3⟩ := e_kept b1 (false, row')
      have er' : rwD (false, row') = il row' := rfl
      rw [er'] at e3
      refine ⟨b2, rs ++ [r'], dS (il row'), t7, t8, rfl, a1', a3', a2', rows_snoc h (row_of sz r' (by rw [q3]; exact a5)), by simp, ?_⟩
      have a3 := a2 r'
      have tle : T.lst ((c.map fun q => q.1).map fun x => T.sh (.int x)) = tl (c.map fun q => q.1) := rfl
      rw [tle] at cl
      have cl := cl (tR rs)
      rw [em] at cl bor lp ne ⊢
      generalize tR (rs ++ [r']) = tr2 at *
      generalize tR rs = tr at *
      generalize rwD r' = rd' at *
      generalize ms.map pD = md at *
      generalize tl (c.map fun q => q.1) = fx at *
      generalize cD c = cd at *
      simp -implicitDefEqProofs [L__law_near_rows_2, ne, n6, n7, e1, bor, cl, lp, e3, d3, a1, a3, setV_z]
theorem lp_nr (sz : List Int) (hs : spaB sz = true) (ms : Ch) (hm : ∀ q ∈ ms, prOk sz q) (s2 : Sl) (o2 : s2.okB = true) : ∀ (cs : List Ch) (b : Bag) (rs : List Row) (s5 s6 s7 s8 : Sl), (∀ c ∈ cs, (∀ q ∈ c, prOk sz q) ∧ c.Pairwise (fun a b => a.1 < b.1) ∧ c.length ≤ 1000) → rowsB sz rs = true → rs.length + cs.length ≤ 500 → s5.np = true → s6.np = true → s7.np = true → s7.okB = true → shS s8 →
    ∃ b' rs' t5 t6 t7 t8, rowsB sz rs' = true ∧ rs'.length ≤ rs.length + cs.length ∧ mFor (tgN 5) L__law_near_rows_2 (cs.map cD) [.p 0 b.t, dS (il sz), s2, dS (cD ms), .v (tR rs), s5, s6, s7, s8] = .nx [.p 0 (Bag.t b'), dS (il sz), s2, dS (cD ms), .v (tR rs'), t5, t6, t7, t8]
  | [], b, rs, s5, s6, s7, s8, _, h, _, _, _, _, _, _ => ⟨b, rs, s5, s6, s7, s8, h, by simp, by simp⟩
  | c :: cs, b, rs, s5, s6, s7, s8, hc, h, hz, n5, n6, n7, o7, h8 => by
    simp only [List.length_cons] at hz
    obtain ⟨c1, c2, c3⟩ := hc c List.mem_cons_self
    obtain ⟨b1, rs1, u6, u7, u8, m6, m7, p7, g8, hr, hl, e1⟩ := turn_nr sz hs ms c hm c1 c2 c3 s2 s5 s6 s7 s8 o2 n6 n7 o7 h8 b rs h (by omega)
    obtain ⟨b', rs', t5, t6, t7, t8, i1, i2, e2⟩ := lp_nr sz hs ms hm s2 o2 cs b1 rs1 (dS (cD c)) u6 u7 u8 (fun x hx => hc x (List.mem_cons_of_mem _ hx)) hr (by omega) rfl m6 m7 p7 g8
    refine ⟨b', rs', t5, t6, t7, t8, i1, by simp only [List.length_cons]; omega, ?_⟩
    rw [List.map_cons, e_mFor_cons]
    generalize tR rs1 = tr2 at *
    generalize tR rs' = tr3 at *
    generalize tR rs = tr at *
    generalize cD c = cd at *
    generalize cD ms = md at *
    simp -implicitDefEqProofs [setV_z, n5, e1, e2]
theorem e_near (b : Bag) (sz : List Int) (hs : spaB sz = true) (n : Nat) (cs : List Ch) (ms : Ch) (hcs : ∀ c ∈ cs, c ∈ among (szc sz) n) (hms : ms ∈ among (szc sz) n) (hn : n ≤ 3) (hz : cs.length ≤ 100) : ∃ (rs : List Row) (b' : Bag), F__law_near_rows [.v b.t, dS (il sz), dS (lC cs), dS (cD ms)] = .ok (tR rs) [.v b'.t, dS (il sz), dS (lC cs), dS (cD ms)] ∧ rowsB sz rs = true ∧ rs.length ≤ 100 := by
  obtain ⟨b', rs, t5, t6, t7, t8, i1, i2, e⟩ := lp_nr sz hs ms (prOk_of hs hms).1 (dS (lC cs)) (by simp) cs b [] .un .un .un .un (fun c hc => ⟨(prOk_of hs (hcs c hc)).1, (prOk_of hs (hcs c hc)).2, by
    rw [among_len n c (hcs c hc)]; omega⟩) rfl (by simp; omega) rfl rfl rfl rfl (Or.inl rfl)
  refine ⟨rs, b', ?_, i1, by simp at i2; omega⟩
  rw [show tR [] = tl [] from rfl] at e
  unfold F__law_near_rows
  rw [e_runF]
  unfold M__law_near_rows
  have el : lC cs = .lst (cs.map cD) := rfl
  rw [el] at e ⊢
  generalize tR rs = tr at *
  generalize cs.map cD = cd at *
  generalize cD ms = md at *
  simp -implicitDefEqProofs [e]
end Wk

set_option Elab.async false
set_option linter.all false
set_option maxRecDepth 100000
set_option maxHeartbeats 4000000
namespace Wk
open PySem PySem.Spec PyProof.Rows L2 PD
theorem cut_toI (cs : List Int) (k : Int) (h : 0 ≤ k) : cut (cs.map D.int) none (some k) = (cs.take k.toNat).map D.int := by
  rw [cut_to _ _ h, List.map_take]
theorem cut_frI (cs : List Int) (k : Int) (h : 0 ≤ k) : cut (cs.map D.int) (some k) none = (cs.drop k.toNat).map D.int := by
  rw [cut_from _ _ h, List.map_drop]
theorem f_add_l1 (xs : List Int) (a : Int) (h : xs.length ≤ 100000) : fAdd (.lst (xs.map .int)) (.lst [.int a]) = some (tl (xs ++ [a])) := f_add_il xs [a] (by simp only [List.length_cons, List.length_nil]; omega)
theorem f_mul7 (xs : List Int) (h : xs.length ≤ 1000) : fMul (.lst (xs.map .int)) (.int 7) = some (tl (List.replicate 7 xs).flatten) := by
  show (if _ then _ else _) = _
  rw [if_pos ⟨by decide, by decide, by simp [sizeLine]; omega⟩]
  simp [List.replicate, tl, -tl_fold, -tl_fold2, Function.comp_def]
theorem spa_bad_len {sz : List Int} (h : ¬ (1 ≤ sz.length ∧ sz.length ≤ 6)) : spaB sz = false := by
  rw [← Bool.not_eq_true, spa_iff]
  exact fun x => h x.1
theorem spa_bad_mem {sz : List Int} {z : Int} (h : z ∈ sz) (hz : ¬ (2 ≤ z ∧ z ≤ 5)) : spaB sz = false := by
  rw [← Bool.not_eq_true, spa_iff]
  exact fun x => hz (x.2 z h)
theorem e_bad_sizes (b : Bag) (sz : List Int) (hs : spaB sz = true) : ∃ (bz : List Int) (b' : Bag), F__law_bad_sizes [.v b.t, dS (il sz)] = .ok (tl bz) [.v b'.t, dS (il sz)] ∧ spaB bz = false := by
  obtain ⟨h1, h2⟩ := (spa_iff sz).mp hs
  obtain ⟨way, b1, e1, g1, l1⟩ := tk b 7 (by decide) (by decide)
  obtain ⟨a, b2, e2, g2, l2⟩ := tk b1 sz.length (by omega) (by omega)
  obtain ⟨far, b3, e3, g3, l3⟩ := tk b2 1000 (by decide) (by decide)
  by_cases w0 : way = 0
  · refine ⟨[], b1, ?_, spa_bad_len (by simp)⟩
    unfold F__law_bad_sizes
    rw [e_runF]
    unfold M__law_bad_sizes
    simp -implicitDefEqProofs [e1, w0]
  by_cases w1 : way = 1
  · have m := f_mul7 sz (by omega)
    have l : (List.replicate 7 sz).flatten.length = 7 * sz.length := by simp; omega
    have ct := cut_toI (List.replicate 7 sz).flatten 7 (by decide)
    refine ⟨(List.replicate 7 sz).flatten.take 7, b1, ?_, spa_bad_len (by rw [List.length_take, l]; omega)⟩
    unfold F__law_bad_sizes
    rw [e_runF]
    unfold M__law_bad_sizes
    rw [show ((7 : Int).toNat) = 7 from rfl] at ct
    generalize (List.replicate 7 sz).flatten = big at *
    generalize big.take 7 = fin at *
    simp -implicitDefEqProofs [e1, w0, w1, m, ct]
  have ct := cut_toI sz a g2
  have cf := cut_frI sz (a + 1) (by omega)
  have lt : (sz.take a.toNat).length ≤ 6 := by simp; omega
  have ld : (sz.drop (a + 1).toNat).length ≤ 6 := by simp; omega
  generalize sz.take a.toNat = pre at *
  generalize sz.drop (a + 1).toNat = post at *
  have key : ∀ (z : Int), ¬ (2 ≤ z ∧ z ≤ 5) → (∀ (ρ : List Sl), fIx (.lst [.int 1, .int 0, .int 6, .int (6 + far), .int (-far)]) (.int (way - 2)) = some (.int z)) → ∃ (bz : List Int) (b' : Bag), F__law_bad_sizes [.v b.t, dS (il sz)] = .ok (tl bz) [.v b'.t, dS (il sz)] ∧ spaB bz = false := fun z hz hx => by
    have f1 := f_add_l1 pre z (by omega)
    have f2 := f_add_il (pre ++ [z]) post (by simp; omega)
    refine ⟨pre ++ [z] ++ post, b3, ?_, spa_bad_mem (z := z) (by simp) hz⟩
    have hx := hx []
    have hf : fLstD [.int 1, .int 0, .int 6, .int (6 + far), .int (-far)] = some (tl [1, 0, 6, 6 + far, -far]) := rfl
    unfold F__law_bad_sizes
    rw [e_runF]
    unfold M__law_bad_sizes
    generalize pre ++ [z] ++ post = fin at *
    generalize pre ++ [z] = pz at *
    simp only [fIx_lst] at hx
    simp -implicitDefEqProofs [e1, w0, w1, e2, e3, ct, cf, f1, f2, hf, hx]
  have : way = 2 ∨ way = 3 ∨ way = 4 ∨ way = 5 ∨ way = 6 := by omega
  rcases this with rfl | rfl | rfl | rfl | rfl
  · exact key 1 (by omega) fun _ => rfl
  · exact key 0 (by omega) fun _ => rfl
  · exact key 6 (by omega) fun _ => rfl
  · exact key (6 + far) (by omega) fun _ => rfl
  · exact key (-far) (by omega) fun _ => rfl
theorem e_bad_strength (b : Bag) (sz : List Int) (hs : spaB sz = true) : ∃ (n : Int) (b' : Bag), F__law_bad_strength [.v b.t, dS (il sz)] = .ok (.sh (.int n)) [.v b'.t, dS (il sz)] ∧ strB sz n = false := by
  obtain ⟨h1, h2⟩ := (spa_iff sz).mp hs
  obtain ⟨way, b1, e1, g1, l1⟩ := tk b 4 (by decide) (by decide)
  obtain ⟨far, b3, e3, g3, l3⟩ := tk b1 1000 (by decide) (by decide)
  have e4 := f_min2 3 sz.length
  have hb : (if (sz.length : Int) < 3 then (sz.length : Int) else 3) ≤ 3 ∧ (if (sz.length : Int) < 3 then (sz.length : Int) else 3) ≤ sz.length ∧ 0 ≤ (if (sz.length : Int) < 3 then (sz.length : Int) else 3) ∧ (3 ≤ (if (sz.length : Int) < 3 then (sz.length : Int) else 3) ∨ sz.length ≤ (if (sz.length : Int) < 3 then (sz.length : Int) else 3)) := by split <;> omega
  generalize (if (sz.length : Int) < 3 then (sz.length : Int) else 3) = top at *
  have key : ∀ (z : Int), ¬ (1 ≤ z ∧ z ≤ 3 ∧ z ≤ sz.length) → fIx (.lst [.int 0, .int (top + 1), .int (-1 - far), .int (4 + far)]) (.int way) = some (.int z) → ∃ (n : Int) (b' : Bag), F__law_bad_strength [.v b.t, dS (il sz)] = .ok (.sh (.int n)) [.v b'.t, dS (il sz)] ∧ strB sz n = false := fun z hz hx => by
    refine ⟨z, b3, ?_, by rw [← Bool.not_eq_true, str_iff]; exact hz⟩
    unfold F__law_bad_strength
    rw [e_runF]
    unfold M__law_bad_strength
    simp only [fIx_lst] at hx
    have hf : fLstD [.int 0, .int (top + 1), .int (-1 - far), .int (4 + far)] = some (tl [0, top + 1, -1 - far, 4 + far]) := rfl
    simp -implicitDefEqProofs [e1, e3, e4, hf, hx]
  have : way = 0 ∨ way = 1 ∨ way = 2 ∨ way = 3 := by omega
  rcases this with rfl | rfl | rfl | rfl
  · exact key 0 (by omega) rfl
  · exact key (top + 1) (by omega) rfl
  · exact key (-1 - far) (by omega) rfl
  · exact key (4 + far) (by omega) rfl
end Wk

set_option Elab.async false
set_option linter.all false
set_option maxRecDepth 100000
set_option maxHeartbeats 4000000
namespace Wk
open PySem PySem.Spec PyProof.Rows L2 PD
theorem row_bad_len {sz : List Int} {r : Row} (h : r.2.length ≠ sz.length) : rowB sz r = false := by
  rw [← Bool.not_eq_true, row_iff]
  exact fun x => h x.1
theorem row_bad_at {sz : List Int} {r : Row} (k : Nat) (hk : k < sz.length) (h : ¬ (0 ≤ r.2.getD k 0 ∧ r.2.getD k 0 < sz.getD k 0)) : rowB sz r = false := by
  rw [← Bool.not_eq_true, row_iff]
  exact fun x => h (x.2 k hk)
theorem e_bad_row (b : Bag) (sz : List Int) (hs : spaB sz = true) : ∃ (r : Row) (b' : Bag) (t : T), F__law_bad_row [.v b.t, dS (il sz)] = .ok t [.v b'.t, dS (il sz)] ∧ t.d = rwD r ∧ rowB sz r = false := by
  obtain ⟨h1, h2⟩ := (spa_iff sz).mp hs
  obtain ⟨way, b1, e1, g1, l1⟩ := tk b 6 (by decide) (by decide)
  obtain ⟨a, b2, e2, g2, l2⟩ := tk b1 sz.length (by omega) (by omega)
  obtain ⟨far, b3, e3, g3, l3⟩ := tk b2 1000 (by decide) (by decide)
  obtain ⟨row, b4, e4, g4, _⟩ := e_row_with b3 sz hs [] (by simp) .nil
  rw [show cD [] = .tup [] from rfl] at e4
  obtain ⟨g5, g6⟩ := g4
  have at1 := atI_ints sz a g2 l2
  have ct := cut_toI row a g2
  have cf := cut_frI row (a + 1) (by omega)
  have cf2 := cut_frI row a g2
  by_cases w0 : way = 0
  · have f1 := f_add_il (row.take a.toNat) (row.drop (a + 1).toNat) (by simp; omega)
    have l : (row.take a.toNat ++ row.drop (a + 1).toNat).length ≠ sz.length := by simp; omega
    generalize row.take a.toNat = pre at *
    generalize row.drop (a + 1).toNat = post at *
    generalize pre ++ post = fin at *
    obtain ⟨r', b5, t, e5, d5, q5⟩ := e_kept b4 (false, fin)
    rw [show rwD (false, fin) = il fin from rfl] at e5
    refine ⟨r', b5, t, ?_, d5, row_bad_len (by rw [q5]; exact l)⟩
    unfold F__law_bad_row
    rw [e_runF]
    unfold M__law_bad_row
    simp -implicitDefEqProofs [e1, e2, e3, e4, w0, ct, cf, f1, e5]
  by_cases w1 : way = 1
  · have f1 := f_add_l1 (row.take a.toNat) 0 (by simp; omega)
    have f2 := f_add_il (row.take a.toNat ++ [0]) (row.drop a.toNat) (by simp; omega)
    have l : (row.take a.toNat ++ [0] ++ row.drop a.toNat).length ≠ sz.length := by simp; omega
    generalize row.take a.toNat = pre at *
    generalize row.drop a.toNat = post at *
    generalize pre ++ [0] ++ post = fin at *
    generalize pre ++ [0] = pz at *
    obtain ⟨r', b5, t, e5, d5, q5⟩ := e_kept b4 (false, fin)
    rw [show rwD (false, fin) = il fin from rfl] at e5
    refine ⟨r', b5, t, ?_, d5, row_bad_len (by rw [q5]; exact l)⟩
    unfold F__law_bad_row
    rw [e_runF]
    unfold M__law_bad_row
    simp -implicitDefEqProofs [e1, e2, e3, e4, w0, w1, ct, cf2, f1, f2, e5]
  have ix : ixN row.length a = some a.toNat := ixN_in g2 (by omega)
  have hz0 : ∀ z : Int, ¬ (0 ≤ z ∧ z < sz.getD a.toNat 0) → rowB sz (false, row.set a.toNat z) = false := fun z hz => row_bad_at a.toNat (by omega) (by
    show ¬ (0 ≤ (row.set a.toNat z).getD a.toNat 0 ∧ (row.set a.toNat z).getD a.toNat 0 < sz.getD a.toNat 0)
    rw [set_at row a.toNat a.toNat z (by omega), if_pos rfl]
    exact hz)
  have hsz : 2 ≤ sz.getD a.toNat 0 := (h2 _ (by
      rw [List.getD, List.getElem?_eq_getElem (show a.toNat < sz.length by omega)]
      exact List.getElem_mem _)).1
  generalize sz.getD a.toNat 0 = top at *
  have key : ∀ (z : Int), ¬ (0 ≤ z ∧ z < top) → fIx (.lst [.int top, .int (top + far), .int (-1), .int (-1 - far)]) (.int (way - 2)) = some (.int z) → ∃ (r : Row) (b' : Bag) (t : T), F__law_bad_row [.v b.t, dS (il sz)] = .ok t [.v b'.t, dS (il sz)] ∧ t.d = rwD r ∧ rowB sz r = false := fun z hz hx => by
    have hb := hz0 z hz
    obtain ⟨r', b5, t, e5, d5, q5⟩ := e_kept b4 (false, row.set a.toNat z)
    rw [show rwD (false, row.set a.toNat z) = il (row.set a.toNat z) from rfl] at e5
    refine ⟨r', b5, t, ?_, d5, ?_⟩
    · simp only [fIx_lst] at hx
      have hf : fLstD [.int top, .int (top + far), .int (-1), .int (-1 - far)] = some (tl [top, top + far, -1, -1 - far]) := rfl
      unfold F__law_bad_row
      rw [e_runF]
      unfold M__law_bad_row
      simp -implicitDefEqProofs [e1, e2, e3, e4, w0, w1, at1, hf, hx, ix, e5]
    · have he : rowB sz r' = rowB sz (false, row.set a.toNat z) := by unfold rowB; rw [q5]
      rw [he]
      exact hb
  have : way = 2 ∨ way = 3 ∨ way = 4 ∨ way = 5 := by omega
  rcases this with rfl | rfl | rfl | rfl
  · exact key top (by omega) rfl
  · exact key (top + far) (by omega) rfl
  · exact key (-1) (by omega) rfl
  · exact key (-1 - far) (by omega) rfl
end Wk

set_option Elab.async false
set_option linter.all false
set_option maxRecDepth 100000
set_option maxHeartbeats 4000000
namespace Wk
open PySem PySem.Spec PyProof.Rows L2 PD
theorem f_ne_si (a b : Str) (i j : Int) : fNe (.tup [.str a, .int i]) (.tup [.str b, .int j]) = some (!((a == b) && (i == j))) := by
  show (if D.shal 60 _ = true ∧ D.shal 60 _ = true then some (!D.eqv _ _) else none) = _
  rw [if_pos ⟨by simp, by simp⟩]
  simp [D.eqv, D.eqvs]
theorem turn_rf (door : Int) (hdoor : door = 0 ∨ door = 1 ∨ door = 2) (s0 s3 s6 s10 s11 : Sl) (sz bz : List Int) (n bn sn mn : Int) (wr gr sr : List Row) (hs : spaB sz = true) (hb : spaB bz = false) (hn : strB sz n = true) (hbn : strB sz bn = false) (hmn : strB sz mn = true) (mnE : fMin [.int 3, .int sz.length] = some (.sh (.int mn))) (hwr : rowsB sz wr = false) (hgr : rowsB sz gr = true) (lw : wr.length ≤ 1000) (lg : gr.length ≤ 1000) (ls : sr.length ≤ 1000) (s4 s7 s12 s14 : Sl)
    (n4 : ∀ (i : Nat) (ρ : List Sl), ρ[i]? = some s4 → nmS i ρ (some s4) = .ok (il bz) (ρ.set i (dS (il bz)))) (n7 : ∀ (i : Nat) (ρ : List Sl), ρ[i]? = some s7 → nmS i ρ (some s7) = .ok (rsD wr) (ρ.set i (dS (rsD wr)))) (n12 : ∀ (i : Nat) (ρ : List Sl), ρ[i]? = some s12 → nmS i ρ (some s12) = .ok (rsD gr) (ρ.set i (dS (rsD gr)))) (n14 : s14.np = true) :
    ∃ t14, t14.np = true ∧ L__law_refusals_1 [s0, dS (il sz), iS n, s3, s4, iS bn, s6, s7, iS sn, dS (rsD sr), s10, s11, s12, iS door, s14] = .nx [s0, dS (il sz), iS n, s3, dS (il bz), iS bn, s6, dS (rsD wr), iS sn, dS (rsD sr), s10, s11, dS (rsD gr), iS door, t14] := by
  have o1 := e_outcome door hdoor bz sn sr ls
  have o2 := e_outcome door hdoor sz bn sr ls
  have o3 := e_outcome door hdoor sz n wr lw
  have o4 := e_outcome door hdoor sz n gr lg
  have o5 := e_outcome door hdoor sz mn gr lg
  unfold outT at o1 o2 o3 o4 o5
  rw [if_neg (by simp [hb])] at o1
  rw [if_pos hs, if_neg (by simp [hbn])] at o2
  rw [if_pos hs, if_pos hn] at o3 o4
  rw [if_pos hs, if_pos hmn] at o5
  rw [if_pos (Or.inr hgr)] at o4 o5
  have ns := fun j => f_ne_si "space" "space" 0 j
  have nt := fun j => f_ne_si "told" "told" 0 j
  have nc := fun i j => f_ne_si "count" "count" i j
  by_cases h0 : door = 0
  · rw [if_pos (Or.inl h0)] at o3
    subst h0
    unfold spaceT at o1
    unfold countT at o2
    unfold toldT at o3 o4 o5
    generalize rsD wr = wd at *
    generalize rsD gr = gd at *
    generalize rsD sr = sd at *
    refine ⟨dS (.tup [.str "told", .int 0]), rfl, ?_⟩
    simp -implicitDefEqProofs [setV_z, L__law_refusals_1, o1, o2, o3, o4, o5, n4, n7, n12, n14, f_ne_si, mnE]
  · rw [if_neg (by simp [hwr, h0])] at o3
    unfold spaceT at o1 o3
    unfold countT at o2
    unfold toldT at o4 o5
    generalize rsD wr = wd at *
    generalize rsD gr = gd at *
    generalize rsD sr = sd at *
    refine ⟨dS (.tup [.str "space", .int 0]), rfl, ?_⟩
    simp -implicitDefEqProofs [setV_z, L__law_refusals_1, h0, o1, o2, o3, o4, o5, n4, n7, n12, n14, f_ne_si, mnE]
theorem sl_to (rs : List Row) (a : Int) (h : 0 ≤ a) : fSl (rsD rs) none (some a) = some (tR (rs.take a.toNat)) := by
  unfold rsD tR
  rw [fSl_lst, cut_to _ _ h, ← List.map_take, List.map_map]
  rfl
theorem sl_fr (rs : List Row) (a : Int) (h : 0 ≤ a) : fSl (rsD rs) (some a) none = some (tR (rs.drop a.toNat)) := by
  unfold rsD tR
  rw [fSl_lst, cut_from _ _ h, ← List.map_drop, List.map_map]
  rfl
theorem add_r (xs ys : List Row) (h : xs.length + ys.length ≤ 1000000) : fAdd (rsD xs) (rsD ys) = some (tR (xs ++ ys)) := by
  show (if _ then _ else _) = _
  rw [if_pos (by simp [sizeLine]; omega), ← List.map_append, List.map_map]
  rfl
theorem one_r (r : Row) : fLstD [rwD r] = some (tR [r]) := rfl
def spl (rs : List Row) (a : Int) (r : Row) : List Row := rs.take a.toNat ++ [r] ++ rs.drop a.toNat
theorem spl_len (rs : List Row) (a : Int) (r : Row) : (spl rs a r).length = rs.length + 1 := by
  unfold spl
  simp
  omega
theorem spl_all (p : Row → Bool) (rs : List Row) (a : Int) (r : Row) : (spl rs a r).all p = (p r && rs.all p) := by
  have e : rs.all p = ((rs.take a.toNat).all p && (rs.drop a.toNat).all p) := by
    rw [← List.all_append, List.take_append_drop]
  unfold spl
  rw [List.all_append, List.all_append, e]
  simp only [List.all_cons, List.all_nil, Bool.and_true]
  cases p r <;> cases (rs.take a.toNat).all p <;> simp
theorem splice (rs : List Row) (a : Int) (h : 0 ≤ a) (r : Row) (hz : rs.length ≤ 1000) : ∃ (t1 t2 t3 t4 t5 : T), fSl (rsD rs) none (some a) = some t1 ∧ fSl (rsD rs) (some a) none = some t2 ∧ fLstD [rwD r] = some t3 ∧ fAdd t1.d t3.d = some t4 ∧ fAdd t4.d t2.d = some t5 ∧ t5 = tR (spl rs a r) := by
  refine ⟨_, _, _, tR (rs.take a.toNat ++ [r]), _, sl_to rs a h, sl_fr rs a h, one_r r, ?_, ?_, rfl⟩
  · rw [tR_d, tR_d]
    exact add_r _ _ (by simp; omega)
  · rw [tR_d, tR_d]
    exact add_r _ _ (by simp; omega)
end Wk

set_option Elab.async false
set_option linter.all false
set_option maxRecDepth 100000
set_option maxHeartbeats 4000000
namespace Wk
open PySem PySem.Spec PyProof.Rows L2 PD
theorem set_same (i : Nat) (ρ : List Sl) (s : Sl) (h : ρ[i]? = some s) : ρ.set i s = ρ := by
  obtain ⟨hi, e⟩ := List.getElem?_eq_some_iff.mp h
  rw [← e]
  exact List.set_getElem_self _
theorem nm_d (t : T) (d : D) (h : t.d = d) : ∀ (i : Nat) (ρ : List Sl), ρ[i]? = some (.v t) → nmS i ρ (some (.v t)) = .ok d (ρ.set i (dS d)) := fun i ρ hi => by
  subst h
  cases t with
  | sh d =>
    show Out.ok d ρ = _
    rw [show (T.sh d).d = d from rfl, set_same i ρ _ hi]
  | _ => rfl
theorem nm_s (d : D) : ∀ (i : Nat) (ρ : List Sl), ρ[i]? = some (dS d) → nmS i ρ (some (dS d)) = .ok d (ρ.set i (dS d)) := nm_d _ _ rfl
theorem nm_il (xs : List Int) : ∀ (i : Nat) (ρ : List Sl), ρ[i]? = some (.v (tl xs)) → nmS i ρ (some (.v (tl xs))) = .ok (il xs) (ρ.set i (dS (il xs))) := nm_d _ _ (by simp)
theorem fMin_ok (sz : List Int) (h1 : 1 ≤ sz.length) : ∃ mn : Int, fMin [.int 3, .int sz.length] = some (.sh (.int mn)) ∧ strB sz mn = true ∧ 1 ≤ mn ∧ mn ≤ 3 ∧ mn ≤ sz.length := by
  refine ⟨_, f_min2 3 sz.length, ?_, ?_⟩
  · rw [str_iff]
    split <;> omega
  · split <;> omega
theorem e_refusals (b : Bag) (sz : List Int) (n : Int) (rs : List Row) (hs : spaB sz = true) (hn : strB sz n = true) (hr : rowsB sz rs = true) (hz : rs.length ≤ 900) : ∃ b' : Bag, F__law_refusals [.v b.t, dS (il sz), iS n, dS (rsD rs)] = .ok (.sh (.bl true)) [.v b'.t, dS (il sz), iS n, dS (rsD rs)] := by
  obtain ⟨h1, h2⟩ := (spa_iff sz).mp hs
  obtain ⟨bz, b1, e1, g1⟩ := e_bad_sizes b sz hs
  obtain ⟨bn, b2, e2, g2⟩ := e_bad_strength b1 sz hs
  obtain ⟨a, b3, e3, g3, l3⟩ := tk b2 (rs.length + 1) (by omega) (by omega)
  obtain ⟨r, b4, tr, e4, d4, g4⟩ := e_bad_row b3 sz hs
  obtain ⟨c1, b5, e5, g5, l5⟩ := tk b4 2 (by decide) (by decide)
  obtain ⟨c2, b6, e6, g6, l6⟩ := tk b5 2 (by decide) (by decide)
  obtain ⟨mn, m1, m2, _⟩ := fMin_ok sz h1.1
  have lr : fLen [rsD rs] = some (.sh (.int rs.length)) := by
    show some (T.sh (D.int ((rs.map rwD).length : Nat))) = _
    rw [List.length_map]
  obtain ⟨t1, t2, t3, t4, t5, p1, p2, p3, p4, p5, p6⟩ := splice rs a g3 r (by omega)
  have hw : rowsB sz (spl rs a r) = false := by
    unfold rowsB
    rw [spl_all, g4]
    rfl
  have wl := spl_len rs a r
  have wd5 : t5.d = rsD (spl rs a r) := by rw [p6, tR_d]
  have edge : rowB sz (true, sz.map (fun z => z - 1)) = true := (row_iff sz _).mpr ⟨by simp, fun k hk => by
    have e1 : (sz.map fun z => z - 1).getD k 0 = sz.getD k 0 - 1 := by
      simp only [List.getD, List.getElem?_map, List.getElem?_eq_getElem hk, Option.map_some, Option.getD_some]
    have e2 := h2 (sz.getD k 0) (by
      rw [List.getD, List.getElem?_eq_getElem hk]
      exact List.getElem_mem _)
    show 0 ≤ (sz.map fun z => z - 1).getD k 0 ∧ (sz.map fun z => z - 1).getD k 0 < sz.getD k 0
    rw [e1]
    omega⟩
  obtain ⟨u1, u2, u3, u4, u5, v1, v2, v3, v4, v5, v6⟩ := splice rs a g3 (true, sz.map (fun z => z - 1)) (by omega)
  obtain rfl : t1 = u1 := by
    rw [p1] at v1
    exact Option.some.inj v1
  obtain rfl : t2 = u2 := by
    rw [p2] at v2
    exact Option.some.inj v2
  have hg : rowsB sz (spl rs a (true, sz.map (fun z => z - 1))) = true := by
    unfold rowsB at *
    rw [spl_all, edge, hr]
    rfl
  have gl := spl_len rs a (true, sz.map (fun z => z - 1))
  have gd5 : u5.d = rsD (spl rs a (true, sz.map (fun z => z - 1))) := by rw [v6, tR_d]
  obtain ⟨et, k1, k2⟩ : ∃ t, fTuple [il (sz.map fun z => z - 1)] = some t ∧ t.d = rwD (true, sz.map fun z => z - 1) := ⟨_, rfl, by rw [td_tup_sh]; rfl⟩
  obtain ⟨sn, x1⟩ : ∃ sn, atI [D.int n, D.int bn] c1 = some (D.int sn) := by
    have : c1 = 0 ∨ c1 = 1 := by omega
    rcases this with rfl | rfl
    · exact ⟨n, rfl⟩
    · exact ⟨bn, rfl⟩
  obtain ⟨sr, x2, ls⟩ : ∃ sr, atI [rsD rs, rsD (spl rs a r)] c2 = some (rsD sr) ∧ sr.length ≤ 1000 := by
    have : c2 = 0 ∨ c2 = 1 := by omega
    rcases this with rfl | rfl
    · exact ⟨rs, rfl, by omega⟩
    · exact ⟨spl rs a r, rfl, by omega⟩
  have hf1 : fLstD [.int n, .int bn] = some (tl [n, bn]) := rfl
  have hf2 : ∀ d e : D, fLstD [d, e] = some (.lst [.sh d, .sh e]) := fun _ _ => rfl
  generalize spl rs a r = wr at *
  generalize spl rs a (true, sz.map (fun z => z - 1)) = gr at *
  generalize rwD (true, sz.map fun z => z - 1) = ed at *
  have turn := fun (door : Int) (hd : door = 0 ∨ door = 1 ∨ door = 2) => turn_rf door hd (.p 0 b6.t) (dS (rsD rs)) (iS a) (dS ed) .un sz bz n bn sn mn wr gr sr hs g1 hn g2 m2 m1 hw hg (by omega) (by omega) ls
  obtain ⟨w1, y1, z1⟩ := turn 0 (by decide) (.v (tl bz)) (dS (rsD wr)) (.v u5) .un (nm_il bz) (nm_s _) (nm_d _ _ gd5) rfl
  obtain ⟨w2, y2, z2⟩ := turn 1 (by decide) (dS (il bz)) (dS (rsD wr)) (dS (rsD gr)) w1 (nm_s _) (nm_s _) (nm_s _) y1
  obtain ⟨w3, y3, z3⟩ := turn 2 (by decide) (dS (il bz)) (dS (rsD wr)) (dS (rsD gr)) w2 (nm_s _) (nm_s _) (nm_s _) y2
  have rg := rng_ok 3 (by decide)
  rw [show ((3 : Nat) : Int) = 3 from rfl, show (((List.range 3).map fun (i : Nat) => (i : Int)).map D.int) = [D.int 0, D.int 1, D.int 2] from rfl] at rg
  have nw := nm_d t5 _ wd5
  have ne := nm_d et _ k2
  clear p6 v6 turn
  generalize rsD wr = wd at *
  generalize rsD gr = gd at *
  generalize rsD sr = sd at *
  generalize rsD rs = rd at *
  generalize rwD r = rwr at *
  have c := mLc_eq (vs := [11]) (g := tgN 11) (mi := mSeqs (mName 1)) (mt := mYes) (me := mOp2 fSub (mName 11) (M.pure (.int 1)))
    (ρ := [.p 0 b6.t, dS (il sz), iS n, dS rd, .v (tl bz), iS bn, iS a, dS wd, iS sn, dS sd, .un, .un, .un, .un, .un]) (ρ1 := [.p 0 b6.t, dS (il sz), iS n, dS rd, .v (tl bz), iS bn, iS a, dS wd, iS sn, dS sd, .un, .un, .un, .un, .un]) (ds := sz.map .int) (fun _ => true) (mapD fun z => z - 1)
    (fun d => [.p 0 b6.t, dS (il sz), iS n, dS rd, .v (tl bz), iS bn, iS a, dS wd, iS sn, dS sd, .un, dS d, .un, .un, .un])
    (by simp -implicitDefEqProofs []) (by simp -implicitDefEqProofs [litS]) (by simp -implicitDefEqProofs []) (by simp [sizeLine]; omega) (fun d hd => by
      obtain ⟨c, _, rfl⟩ := List.mem_map.mp hd
      exact ⟨by simp -implicitDefEqProofs [], by simp -implicitDefEqProofs [], by simp -implicitDefEqProofs [], by simp -implicitDefEqProofs [mapD]⟩)
  rw [map_mapD] at c
  generalize sz.map (fun z => z - 1) = se at *
  have lp : mFor (tgN 13) L__law_refusals_1 [.int 0, .int 1, .int 2] [.p 0 b6.t, dS (il sz), iS n, dS rd, .v (tl bz), iS bn, iS a, dS wd, iS sn, dS sd, dS ed, .un, .v u5, .un, .un] = .nx [.p 0 b6.t, dS (il sz), iS n, dS rd, dS (il bz), iS bn, iS a, dS wd, iS sn, dS sd, dS ed, .un, dS gd, iS 2, w3] := by
    simp -implicitDefEqProofs [e_mFor_cons, z1, z2, z3, setV_z]
  refine ⟨b6, ?_⟩
  unfold F__law_refusals
  rw [e_runF]
  unfold M__law_refusals
  simp -implicitDefEqProofs [e1, e2, lr, e3, e4, d4, p1, p2, p3, p4, p5, nw, hf1, hf2, e5, e6, x1, x2, c, k1, ne, v1, v2, v3, v4, v5, rg, lp]
end Wk

set_option Elab.async false
set_option linter.all false
set_option maxRecDepth 100000
set_option maxHeartbeats 4000000
namespace Wk
open PySem PySem.Spec PyProof.Rows L2 PD
noncomputable section
def M_rows : MS := (mIfS (mAnd (mCmp fEq (mName 2) (M.pure (.int 0))) (mCmp fLe (mGv (mOpN fLen (mCons (mName 5) mNil))) (M.pure (.int 100))))
  (mSeq (mSet 6 (mSh (mOpD fIx (mName 5) (mGv (mCall F__law_take (qOwn 1 (qCons (mGv (mOpN fLen (mCons (mName 5) mNil))) qNil)) [])))))
  (mSet 7 (mCallT F__law_near_rows (mCall F__law_bag (qCons (mName 0) (qCons (M.pure (.int 1)) qNil)) []) (qCons (mName 3) (qCons (mName 5) (qCons (mName 6) qNil))))))
  (mSet 7 (mCall F__law_drawn_rows (qCons (mName 0) (qOwn 1 (qCons (mName 3) qNil))) [])))
def M_more : MS := (mIfS (mCmp fGt (mGv (mOpN fLen (mCons (mName 8) mNil))) (M.pure (.int 0)))
  (mSeq (mSet 9 (mSh (mOpD fIx (mName 8) (mGv (mCall F__law_take (qOwn 1 (qCons (mGv (mOpN fLen (mCons (mName 8) mNil))) qNil)) [])))))
  (mSeq (mSet 10 (mCall F__law_kept_kind (qOwn 1 (qCons (mGv (mCall F__law_row_with (qOwn 1 (qCons (mName 3) (qCons (mName 9) qNil))) [])) qNil)) []))
  (mSeq (mSet 11 (mCall F__law_take (qOwn 1 (qCons (mGv (mOp2 fAdd (mGv (mOpN fLen (mCons (mName 7) mNil))) (M.pure (.int 1)))) qNil)) []))
  (mSeq (mSet 7 (mOp2 fAdd (mGv (mOp2 fAdd (mGv (mSl (mName 7) (M.pure none) (mPart (mName 11)))) (mGv (mOpN fLstD (mCons (mName 10) mNil))))) (mGv (mSl (mName 7) (mPart (mName 11)) (M.pure none)))))
  (mSeq (mSet 8 (mLc [12] (tgN 12) (mSeqs (mName 8)) (mNot (mTru (mGv (mCall F__law_holds (qCons (mName 10) (qCons (mName 12) qNil)) [])))) (mSh (mName 12))))
  (mIfS (mNot (mTru (mGv (mCall F__law_asked (qCons (mName 3) (qCons (mName 4) (qCons (mName 7) (qCons (mName 8) qNil)))) []))))
  (mRet (mSh (M.pure (.bl false))))
  mSkip))))))
  mSkip)
def M_end : MS := (mSeq (mSet 8 (mCall F__law_not_held (qCons (mName 5) (qCons (mName 7) qNil)) []))
  (mSeq (mIfS (mNot (mTru (mGv (mCall F__law_asked (qCons (mName 3) (qCons (mName 4) (qCons (mName 7) (qCons (mName 8) qNil)))) []))))
  (mRet (mSh (M.pure (.bl false))))
  mSkip)
  (mSeq M_more
  (mRet (mCallT F__law_refusals (mCall F__law_bag (qCons (mName 0) (qCons (M.pure (.int 2)) qNil)) []) (qCons (mName 3) (qCons (mName 4) (qCons (mName 7) qNil))))))))
theorem e_M_law : M_law = (mSeq (mSet 1 (mCall F__law_bag (qCons (mName 0) (qCons (M.pure (.int 0)) qNil)) []))
  (mSeq (mSet 2 (mCall F__law_take (qOwn 1 (qCons (M.pure (.int 3)) qNil)) []))
  (mSeq (mSet 3 (mCall F__law_space (qOwn 1 qNil) []))
  (mSeq (mSet 4 (mOp2 fAdd (M.pure (.int 1)) (mGv (mCall F__law_take (qOwn 1 (qCons (mGv (mOpN fMin (mCons (M.pure (.int 3)) (mCons (mGv (mOpN fLen (mCons (mName 3) mNil))) mNil)))) qNil)) []))))
  (mSeq (mSet 5 (mCall F__law_all_choices (qCons (mName 3) (qCons (mName 4) qNil)) []))
  (mSeq (mIfS (mNot (mTru (mGv (mCall F__law_told_choices (qCons (mName 3) (qCons (mName 4) (qCons (mName 5) qNil))) []))))
  (mRet (mSh (M.pure (.bl false))))
  mSkip)
  (mSeq M_rows M_end))))))) := rfl
end
theorem among_ne (cols : List (List Int)) (h : ∀ p, p < cols.length → ∃ v, v ∈ cols.getD p []) : ∀ n, n ≤ cols.length → ∃ c, c ∈ among cols n ∧ fst' c = n
  | 0, _ => ⟨[], by simp [among], rfl⟩
  | n + 1, hn => by
    obtain ⟨c, hc, hf⟩ := among_ne cols h n (by omega)
    obtain ⟨v, hv⟩ := h n (by omega)
    refine ⟨c ++ [((n : Int), v)], ?_, by rw [fst_snoc]; rfl⟩
    show _ ∈ (among cols n).flatMap (step cols)
    exact List.mem_flatMap.mpr ⟨c, hc, mem_step.mpr ⟨n, v, rfl, by omega, by omega, by rwa [Int.toNat_natCast]⟩⟩
theorem len_D (ds : List D) : fLen [.lst ds] = some (.sh (.int ds.length)) := rfl
theorem e_rows (ns : List Int) (b : Bag) (sz : List Int) (hs : spaB sz = true) (st : Nat) (hn : strB sz st = true) (near : Int) : ∃ (s6 : Sl) (rs : List Row) (b' : Bag), s6.np = true ∧ rowsB sz rs = true ∧ rs.length ≤ 100 ∧
    M_rows [dS (scr ns), .v b.t, iS near, dS (il sz), iS st, dS (lC (among (szc sz) st)), .un, .un, .un, .un, .un, .un, .un] = .nx [dS (scr ns), .v b'.t, iS near, dS (il sz), iS st, dS (lC (among (szc sz) st)), s6, .v (tR rs), .un, .un, .un, .un, .un] := by
  obtain ⟨h1, h2⟩ := (spa_iff sz).mp hs
  obtain ⟨g1, g2, g3⟩ := (str_iff sz st).mp hn
  obtain ⟨sa, sb⟩ := szc_ok h1.2 h2
  obtain ⟨al, _⟩ := among_ok (szc sz) sa sb st (by omega)
  have hin : ∀ c ∈ among (szc sz) st, c ∈ among (szc sz) st := fun _ h => h
  generalize hA : among (szc sz) st = A at *
  have el : lC A = .lst (A.map cD) := rfl
  have lm : (A.map cD).length = A.length := List.length_map _
  by_cases hc : near = 0 ∧ A.length ≤ 100
  · have h0 : 0 < A.length := by
      obtain ⟨c, hc, _⟩ := among_ne (szc sz) (fun p hp => by
        rw [show (szc sz).length = sz.length from List.length_map _] at hp
        rw [szc_at sz p hp]
        have := h2 (sz.getD p 0) (by
          rw [List.getD, List.getElem?_eq_getElem hp]
          exact List.getElem_mem _)
        exact ⟨0, mem_rng.mpr (by omega)⟩) st (by rw [show (szc sz).length = sz.length from List.length_map _]; omega)
      rw [hA] at hc
      exact List.length_pos_of_mem hc
    · obtain ⟨k, b1, e1, p1, p2⟩ := tk b A.length (by omega) (by omega)
      obtain ⟨j, rfl⟩ : ∃ j : Nat, k = (j : Int) := ⟨k.toNat, by omega⟩
      have at1 := lC_at A j (by omega)
      obtain ⟨b0, e0⟩ := e_bag ns 1 (by decide) (by decide)
      obtain ⟨rs, b2, e2, r1, r2⟩ := e_near b0 sz hs st A (A.getD j []) (by rw [hA]; exact hin) (by
        rw [hA, List.getD, List.getElem?_eq_getElem (show j < A.length by omega)]
        exact List.getElem_mem _) (by omega) hc.2
      refine ⟨dS (cD (A.getD j [])), rs, b1, rfl, r1, r2, ?_⟩
      have hc1 := hc.1
      have hc2 := hc.2
      have hc3 : (A.length : Int) ≤ 100 := by omega
      subst hc1
      rw [el] at e2 ⊢
      generalize scr ns = script at *
      generalize A.getD j [] = ms at *
      generalize cD ms = md at *
      generalize A.map cD = ad at *
      generalize tR rs = tr at *
      generalize A.length = al at *
      unfold M_rows
      simp -implicitDefEqProofs [lm, hc2, hc3, e0, e1, e2, at1]
  · obtain ⟨rs, b1, e1, r1, r2⟩ := e_drawn ns b sz hs
    refine ⟨.un, rs, b1, rfl, r1, r2, ?_⟩
    rw [el]
    generalize scr ns = script at *
    generalize A.map cD = ad at *
    generalize tR rs = tr at *
    unfold M_rows
    by_cases hn0 : near = 0
    · have hc2 : ¬ A.length ≤ 100 := fun x => hc ⟨hn0, x⟩
      have hc3 : ¬ (A.length : Int) ≤ 100 := by omega
      simp -implicitDefEqProofs [lm, hn0, hc2, hc3, e1]
    · simp -implicitDefEqProofs [lm, hn0, e1]
end Wk

set_option Elab.async false
set_option linter.all false
set_option maxRecDepth 100000
set_option maxHeartbeats 4000000
namespace Wk
open PySem PySem.Spec PyProof.Rows L2 PD
def pI : D → Int × Int
  | .tup [.int a, .int b] => (a, b)
  | _ => (0, 0)
def chD : D → Ch
  | .tup ds => ds.map pI
  | _ => []
theorem chD_c (c : Ch) : chD (cD c) = c := by
  show (c.map pD).map pI = c
  rw [List.map_map]
  exact (List.map_congr_left fun q _ => rfl).trans (List.map_id c)
theorem unc_spl (sz : List Int) (st : Nat) (rs : List Row) (a : Int) (r : Row) : (unc sz st rs).filter (fun c => !holdsB r.2 c) = unc sz st (spl rs a r) := by
  unfold unc
  rw [List.filter_filter]
  refine List.filter_congr fun c _ => ?_
  have e : anyH (spl rs a r) c = (holdsB r.2 c || anyH rs c) := by
    have s : anyH rs c = ((rs.take a.toNat).any (fun r => holdsB r.2 c) || (rs.drop a.toNat).any (fun r => holdsB r.2 c)) := by
      unfold anyH
      rw [← List.any_append, List.take_append_drop]
    unfold anyH spl at *
    rw [List.any_append, List.any_append, s]
    simp only [List.any_cons, List.any_nil, Bool.or_false]
    cases holdsB r.2 c <;> cases (rs.take a.toNat).any (fun r => holdsB r.2 c) <;> simp
  rw [e]
  cases holdsB r.2 c <;> simp
theorem e_more (ns : List Int) (b : Bag) (sz : List Int) (hs : spaB sz = true) (st : Nat) (hn : strB sz st = true) (near : Int) (s5 s6 : Sl) (rs : List Row) (hr : rowsB sz rs = true) (hz : rs.length ≤ 100) :
    ∃ (rs' : List Row) (b' : Bag) (t8 t9 t10 t11 t12 : Sl), rowsB sz rs' = true ∧ rs'.length ≤ 101 ∧
    M_more [dS (scr ns), .v b.t, iS near, dS (il sz), iS st, s5, s6, dS (rsD rs), dS (lC (unc sz st rs)), .un, .un, .un, .un] = .nx [dS (scr ns), .v b'.t, iS near, dS (il sz), iS st, s5, s6, dS (rsD rs'), t8, t9, t10, t11, t12] := by
  obtain ⟨h1, h2⟩ := (spa_iff sz).mp hs
  obtain ⟨g1, g2, g3⟩ := (str_iff sz st).mp hn
  obtain ⟨sa, sb⟩ := szc_ok h1.2 h2
  obtain ⟨al, _⟩ := among_ok (szc sz) sa sb st (by omega)
  have ul : (unc sz st rs).length ≤ 27000 := Nat.le_trans (List.length_filter_le _ _) al
  have uin : ∀ c ∈ unc sz st rs, c ∈ among (szc sz) st := fun c hc => (List.mem_filter.mp hc).1
  have el : lC (unc sz st rs) = .lst ((unc sz st rs).map cD) := rfl
  have lm : ((unc sz st rs).map cD).length = (unc sz st rs).length := List.length_map _
  have us := unc_spl sz st rs
  generalize hU : unc sz st rs = U at *
  by_cases h0 : 0 < U.length
  · obtain ⟨k, b1, e1, p1, p2⟩ := tk b U.length (by omega) (by omega)
    obtain ⟨j, rfl⟩ : ∃ j : Nat, k = (j : Int) := ⟨k.toNat, by omega⟩
    have at1 := lC_at U j (by omega)
    have cin := uin (U.getD j []) (by
      rw [List.getD, List.getElem?_eq_getElem (show j < U.length by omega)]
      exact List.getElem_mem _)
    generalize U.getD j [] = c at *
    obtain ⟨c1, c2⟩ := prOk_of hs cin
    obtain ⟨row, b2, e2, q1, q2⟩ := e_row_with b1 sz hs c c1 c2
    obtain ⟨r', b3, t, e3, d3, q3⟩ := e_kept b2 (false, row)
    rw [show rwD (false, row) = il row from rfl] at e3
    have rok : rowOk sz r'.2 := by rw [q3]; exact q1
    obtain ⟨a, b4, e4, p3, p4⟩ := tk b3 (rs.length + 1) (by omega) (by omega)
    have lr : fLen [rsD rs] = some (.sh (.int rs.length)) := by
      show some (T.sh (D.int ((rs.map rwD).length : Nat))) = _
      rw [List.length_map]
    obtain ⟨t1, t2, t3, t4, t5, s1, s2, s3, s4, s5', s6'⟩ := splice rs a p3 r' (by omega)
    have us := us a r'
    have hr' : rowsB sz (spl rs a r') = true := by
      unfold rowsB at *
      rw [spl_all, row_of sz r' rok, hr]
      rfl
    have sl := spl_len rs a r'
    have wd5 : t5.d = rsD (spl rs a r') := by rw [s6', tR_d]
    have ea := e_asked sz st (spl rs a r') (by omega) hs hn hr'
    have eh := fun (x : Ch) (hx : x ∈ U) => e_holds r' x (prOk_in (prOk_of hs (uin x hx)).1 _ rok)
    have nw := nm_d t5 _ wd5
    have nt := nm_d t _ d3
    refine ⟨spl rs a r', b4, dS (lC (unc sz st (spl rs a r'))), dS (cD c), dS (rwD r'), iS a, .un, hr', by omega, ?_⟩
    clear s6'
    rw [← us] at ea ⊢
    generalize hF : spl rs a r' = fin at *
    have cmp := mLc_eq (vs := [12]) (g := tgN 12) (mi := mSeqs (mName 8)) (mt := mNot (mTru (mGv (mCall F__law_holds (qCons (mName 10) (qCons (mName 12) qNil)) [])))) (me := mSh (mName 12))
      (ρ := [dS (scr ns), .v b4.t, iS near, dS (il sz), iS st, s5, s6, .v t5, dS (lC U), dS (cD c), dS (rwD r'), iS a, .un]) (ρ1 := [dS (scr ns), .v b4.t, iS near, dS (il sz), iS st, s5, s6, .v t5, dS (lC U), dS (cD c), dS (rwD r'), iS a, .un]) (ds := U.map cD) (fun d => !holdsB r'.2 (chD d)) T.sh
      (fun d => [dS (scr ns), .v b4.t, iS near, dS (il sz), iS st, s5, s6, .v t5, dS (lC U), dS (cD c), dS (rwD r'), iS a, dS d])
      (by
        rw [el]
        generalize scr ns = script at *
        generalize U.map cD = ud at *
        generalize cD c = cd at *
        generalize rwD r' = rd at *
        simp -implicitDefEqProofs []) (by
        generalize scr ns = script at *
        generalize lC U = ud at *
        generalize cD c = cd at *
        generalize rwD r' = rd at *
        simp -implicitDefEqProofs [litS]) (by
        generalize scr ns = script at *
        generalize lC U = ud at *
        generalize cD c = cd at *
        generalize rwD r' = rd at *
        simp -implicitDefEqProofs []) (by simp [sizeLine]; omega) (fun d hd => by
        obtain ⟨x, hx, rfl⟩ := List.mem_map.mp hd
        have eh := eh x hx
        rw [chD_c]
        generalize holdsB r'.2 x = hb at *
        generalize scr ns = script at *
        generalize lC U = ud at *
        generalize cD c = cd at *
        generalize cD x = xd at *
        generalize rwD r' = rd at *
        exact ⟨by simp -implicitDefEqProofs [], by simp -implicitDefEqProofs [eh], by simp -implicitDefEqProofs [], fun _ => by simp -implicitDefEqProofs []⟩)
    have cf : ((U.map cD).filter fun d => !holdsB r'.2 (chD d)) = (U.filter fun x => !holdsB r'.2 x).map cD := by
      rw [List.filter_map]
      refine congrArg (List.map cD) (List.filter_congr fun x _ => ?_)
      show (!holdsB r'.2 (chD (cD x))) = _
      rw [chD_c]
    rw [cf, tS_eq] at cmp
    have nu := nm_d (tS (U.filter fun x => !holdsB r'.2 x)) _ (tS_d _)
    generalize tS (U.filter fun x => !holdsB r'.2 x) = ut at *
    generalize lC (U.filter fun x => !holdsB r'.2 x) = uf at *
    have hp : (0 : Int) < (U.length : Int) := by omega
    rw [el] at cmp ⊢
    clear us al ul uin hU lm
    have lm : (U.map cD).length = U.length := List.length_map _
    generalize scr ns = script at *
    generalize U.map cD = ud at *
    generalize U.length = ulen at *
    generalize cD c = cd at *
    generalize rwD r' = rd at *
    generalize rsD fin = fd at *
    generalize rsD rs = rsd at *
    unfold M_more
    simp -implicitDefEqProofs [lm, hp, h0, e1, at1, e2, e3, lr, e4, s1, s2, s3, s4, s5', nt, nw, cmp, nu, ea]
  · refine ⟨rs, b, dS (.lst []), .un, .un, .un, .un, hr, by omega, ?_⟩
    have hp : ¬ (0 : Int) < (U.length : Int) := by omega
    rw [el]
    have hu : U.map cD = [] := by
      rw [List.length_eq_zero_iff.mp (show U.length = 0 by omega)]
      rfl
    rw [hu]
    generalize scr ns = script at *
    generalize rsD rs = rsd at *
    unfold M_more
    simp -implicitDefEqProofs []
end Wk

set_option Elab.async false
set_option linter.all false
set_option maxRecDepth 100000
set_option maxHeartbeats 4000000
namespace Wk
open PySem PySem.Spec PyProof.Rows L2 PD
theorem e_end (ns : List Int) (b : Bag) (sz : List Int) (hs : spaB sz = true) (st : Nat) (hn : strB sz st = true) (near : Int) (s6 : Sl) (rs : List Row) (hr : rowsB sz rs = true) (hz : rs.length ≤ 100) :
    ∃ (b' : Bag) (t5 t7 t8 t9 t10 t11 t12 : Sl), M_end [dS (scr ns), .v b.t, iS near, dS (il sz), iS st, dS (lC (among (szc sz) st)), s6, .v (tR rs), .un, .un, .un, .un, .un] = .rt (.sh (.bl true)) [dS (scr ns), .v b'.t, iS near, dS (il sz), iS st, t5, s6, t7, t8, t9, t10, t11, t12] := by
  obtain ⟨h1, h2⟩ := (spa_iff sz).mp hs
  obtain ⟨g1, g2, g3⟩ := (str_iff sz st).mp hn
  obtain ⟨sa, sb⟩ := szc_ok h1.2 h2
  obtain ⟨al, _⟩ := among_ok (szc sz) sa sb st (by omega)
  have rok := fun r hr' => (row_iff sz r).mp (List.all_eq_true.mp hr r hr')
  have e1 := e_not_held rs (among (szc sz) st) (fun c hc r hr' => prOk_in (prOk_of hs hc).1 _ (rok r hr')) (by omega)
  have e2 := e_asked sz st rs (by omega) hs hn hr
  obtain ⟨rs', b1, t8, t9, t10, t11, t12, q1, q2, e3⟩ := e_more ns b sz hs st hn near (dS (lC (among (szc sz) st))) s6 rs hr hz
  obtain ⟨b0, e0⟩ := e_bag ns 2 (by decide) (by decide)
  obtain ⟨b2, e4⟩ := e_refusals b0 sz st rs' hs hn q1 (by omega)
  refine ⟨b1, dS (lC (among (szc sz) st)), dS (rsD rs'), t8, t9, t10, t11, t12, ?_⟩
  have eu : ((among (szc sz) st).filter fun c => !anyH rs c) = unc sz st rs := rfl
  rw [eu] at e1
  have nr := nm_d (tR rs) _ (tR_d rs)
  have nu := nm_d (tS (unc sz st rs)) _ (tS_d _)
  generalize tS (unc sz st rs) = ut at *
  generalize lC (unc sz st rs) = ud at *
  generalize lC (among (szc sz) st) = ad at *
  generalize scr ns = script at *
  generalize tR rs = tr at *
  generalize rsD rs = rd at *
  generalize rsD rs' = rd' at *
  unfold M_end
  simp -implicitDefEqProofs [nr, nu, e0, e1, e2, e3, e4]
theorem e_law (ns : List Int) (hz : ns.length ≤ 63) : F_law [.v (.sh (scr ns))] = .ok (.sh (.bl true)) [.v (.sh (scr ns))] := by
  obtain ⟨b0, e0⟩ := e_bag ns 0 (by decide) (by decide)
  obtain ⟨near, b1, e1, p1, p2⟩ := tk b0 3 (by decide) (by decide)
  obtain ⟨sz, b2, e2, hs⟩ := e_space b1
  obtain ⟨h1, h2⟩ := (spa_iff sz).mp hs
  obtain ⟨mn, m1, m2, m3, m4, m5⟩ := fMin_ok sz h1.1
  obtain ⟨r, b3, e3, p3, p4⟩ := tk b2 mn m3 (by omega)
  obtain ⟨st, hst⟩ : ∃ st : Nat, 1 + r = (st : Int) := ⟨(1 + r).toNat, by omega⟩
  have hn : strB sz st = true := (str_iff sz st).mpr (by omega)
  have e4 := e_all_choices sz h1.2 h2 st (by omega) (by omega) (by omega)
  have e5 := e_told sz st hs hn
  obtain ⟨s6, rs, b4, n6, q1, q2, e6⟩ := e_rows ns b3 sz hs st hn near
  obtain ⟨b5, t5, t7, t8, t9, t10, t11, t12, e7⟩ := e_end ns b4 sz hs st hn near s6 rs q1 q2
  unfold F_law
  rw [e_runF, e_M_law]
  have lz : fLen [il sz] = some (.sh (.int sz.length)) := by
    show some (T.sh (D.int ((sz.map D.int).length : Nat))) = _
    rw [List.length_map]
  generalize lC (among (szc sz) st) = ad at *
  generalize scr ns = script at *
  generalize tR rs = tr at *
  generalize M_rows = mr at *
  generalize M_end = me at *
  simp -implicitDefEqProofs [e0, e1, e2, m1, e3, hst, e4, e5, e6, e7]
end Wk

set_option Elab.async false
set_option linter.all false
set_option maxRecDepth 100000
set_option maxHeartbeats 4000000
namespace Wk
open PySem PySem.Spec PyProof.Rows L2 PD
noncomputable section
variable {w : World} {K : PySem.W.Frag} {mg : Str → Option Value} {base : Heap}
theorem scX__law_integer : FnScope ["value"] ["value"] (defScope (top 24)) := ⟨rfl, rfl, rfl, by decide +kernel, rfl, by decide +kernel, by decide +kernel⟩
theorem CX__law_integer (h : HW K mg base) : ClX Pw w K mg base "_law_integer" ["value"] 3 FX__law_integer := by
  obtain ⟨fd, F⟩ := h.says.def_ 13
  have sc := scX__law_integer
  refine ⟨⟨fd, okFH F sc rfl (fun cdv A outer s H E rt p dd c hrH hE => ?_), F.bindsN fun _ _ _ _ _ _ us hl => match us, hl with | [_], _ => rfl⟩, h.g__law_integer, F.kp⟩
  by_cases hc : c ∈ errs
  · rw [show MX__law_integer p.1 dd c = _ from if_pos hc]
    have tk : L2.Takes (L2H.cxH (L2.CX Pw w) Pw w K mg base ["value"] "_law_integer" (defScope (top 24)) (He.ga K "_law_integer") cdv A outer s H E p) (WE0 E) := takes_of rfl rfl rfl rfl
    exact (ss_one (st_ret (PEs.d (s_and (s_is1 (by exact rfl) h.n_isinstance (s_name 0 rfl (.inl rfl)) (tyNm (by exact rfl) h.n_int Boot.«int»)) (s_one (s_not (s_is1 (by exact rfl) h.n_isinstance (s_name 0 rfl (.inl rfl)) (tyNm (by exact rfl) h.n_bool Boot.«bool»))))))))
  · rw [show MX__law_integer p.1 dd c = _ from if_neg hc]
    exact ss_bad
theorem scX__law_fault : FnScope ["raised"] ["raised"] (defScope (top 37)) := ⟨rfl, rfl, rfl, by decide +kernel, rfl, by decide +kernel, by decide +kernel⟩
theorem CX__law_fault (h : HW K mg base) : ClX Pw w K mg base "_law_fault" ["raised"] 5 FX__law_fault := by
  have CX__law_integer := CX__law_integer (w := w) h
  obtain ⟨fd, F⟩ := h.says.def_ 26
  have sc := scX__law_fault
  refine ⟨⟨fd, okFH F sc rfl (fun cdv A outer s H E rt p dd c hrH hE => ?_), F.bindsN fun _ _ _ _ _ _ us hl => match us, hl with | [_], _ => rfl⟩, h.g__law_fault, F.kp⟩
  by_cases hc : c ∈ errs
  · rw [show MX__law_fault p.1 dd c = _ from if_pos hc]
    have tk : L2.Takes (L2H.cxH (L2.CX Pw w) Pw w K mg base ["raised"] "_law_fault" (defScope (top 37)) (He.ga K "_law_fault") cdv A outer s H E p) (WE0 E) := takes_of rfl rfl rfl rfl
    exact (ss_cons (st_if (t_not (t_val (s_isX hE (h.xc c hc).1 (by exact rfl) h.n_isinstance (s_name 0 rfl (.inl rfl)) (pe_bltn (v := .ty "ValueError") (by exact rfl) h.n_ValueError Boot.«ValueError» rfl) (.ty _) (h.xa_ValueError c hc))))
    (ss_one (st_ret (d_tup (as_cons s_str (as_cons s_int as_nil)))))
    ss_nil)
    (ss_cons (st_if (PWd.t (w_and (t_val (s_isX hE (h.xc c hc).1 (by exact rfl) h.n_isinstance (s_name 0 rfl (.inl rfl)) (pe_glob (v := .ref _) rfl h.g_InvalidSpace rfl) (.own _) (h.xa_InvalidSpace c hc))) (w_and1 (t_not (t_val (s_isX hE (h.xc c hc).1 (by exact rfl) h.n_isinstance (s_name 0 rfl (.inl rfl)) (pe_glob (v := .ref _) rfl h.g_InvalidCount rfl) (.own _) (h.xa_InvalidCount c hc)))))))
    (ss_one (st_ret (d_tup (as_cons s_str (as_cons s_int as_nil)))))
    ss_nil)
    (ss_cons (st_if (PWd.t (w_and (t_val (s_isX hE (h.xc c hc).1 (by exact rfl) h.n_isinstance (s_name 0 rfl (.inl rfl)) (pe_glob (v := .ref _) rfl h.g_InvalidCount rfl) (.own _) (h.xa_InvalidCount c hc))) (w_and1 (t_not (t_val (s_isX hE (h.xc c hc).1 (by exact rfl) h.n_isinstance (s_name 0 rfl (.inl rfl)) (pe_glob (v := .ref _) rfl h.g_InvalidSpace rfl) (.own _) (h.xa_InvalidSpace c hc)))))))
    (ss_one (st_if (t_val (PEd.s (d_callXC CX__law_integer hE tk hrH (by decide) rfl (q_cons (s_xf hE (h.xc c hc).2 (h.xn_count c hc) (s_name 0 rfl (.inl rfl))) q_nil))))
    (ss_one (st_ret (d_tup (as_cons s_str (as_cons (s_xf hE (h.xc c hc).2 (h.xn_count c hc) (s_name 0 rfl (.inl rfl))) as_nil)))))
    ss_nil))
    ss_nil)
    (ss_one (st_ret (d_tup (as_cons s_str (as_cons s_int as_nil))))))))
  · rw [show MX__law_fault p.1 dd c = _ from if_neg hc]
    exact ss_bad
theorem sc_is_whole : FnScope ["value"] ["value"] (defScope (top 5)) := ⟨rfl, rfl, rfl, by decide +kernel, rfl, by decide +kernel, by decide +kernel⟩
theorem C_is_whole (h : HW K mg base) : Cl Pw w K mg base "is_whole" ["value"] 3 F_is_whole := by
  obtain ⟨fd, F⟩ := h.says.def_ 0
  have sc := sc_is_whole
  refine ⟨⟨fd, okF F sc rfl (fun cdv A outer s H E rt hr => ?_), F.bindsN fun _ _ _ _ _ _ us hl => match us, hl with | [_], _ => rfl⟩, h.g_is_whole, F.kp⟩
  have tk : L2.Takes (cxOf (L2.CX Pw w) Pw w K mg base ["value"] "is_whole" (defScope (top 5)) (He.ga K "is_whole") cdv A outer s H E) (WE0 E) := takes_of rfl rfl rfl rfl
  have pw : PassesOwn (model Pw w) (cxOf (L2.CX Pw w) Pw w K mg base ["value"] "is_whole" (defScope (top 5)) (He.ga K "is_whole") cdv A outer s H E).A (cxOf (L2.CX Pw w) Pw w K mg base ["value"] "is_whole" (defScope (top 5)) (He.ga K "is_whole") cdv A outer s H E).env (cxOf (L2.CX Pw w) Pw w K mg base ["value"] "is_whole" (defScope (top 5)) (He.ga K "is_whole") cdv A outer s H E).xe := passes_of rfl
  exact (ss_one (st_ret (PEs.d (s_and (s_is1 (by exact rfl) h.n_isinstance (s_name 0 rfl (.inl rfl)) (tyNm (by exact rfl) h.n_int Boot.«int»)) (s_one (s_not (s_is1 (by exact rfl) h.n_isinstance (s_name 0 rfl (.inl rfl)) (tyNm (by exact rfl) h.n_bool Boot.«bool»))))))))
theorem sc_check_count : FnScope ["count", "low", "high"] ["count", "low", "high"] (defScope (top 6)) := ⟨rfl, rfl, rfl, by decide +kernel, rfl, by decide +kernel, by decide +kernel⟩
theorem C_check_count (h : HW K mg base) : Cl Pw w K mg base "check_count" ["count", "low", "high"] 5 F_check_count := by
  have C_is_whole := C_is_whole (w := w) h
  obtain ⟨fd, F⟩ := h.says.def_ 1
  have sc := sc_check_count
  refine ⟨⟨fd, okF F sc rfl (fun cdv A outer s H E rt hr => ?_), F.bindsN fun _ _ _ _ _ _ us hl => match us, hl with | [_, _, _], _ => rfl⟩, h.g_check_count, F.kp⟩
  have tk : L2.Takes (cxOf (L2.CX Pw w) Pw w K mg base ["count", "low", "high"] "check_count" (defScope (top 6)) (He.ga K "check_count") cdv A outer s H E) (WE0 E) := takes_of rfl rfl rfl rfl
  have pw : PassesOwn (model Pw w) (cxOf (L2.CX Pw w) Pw w K mg base ["count", "low", "high"] "check_count" (defScope (top 6)) (He.ga K "check_count") cdv A outer s H E).A (cxOf (L2.CX Pw w) Pw w K mg base ["count", "low", "high"] "check_count" (defScope (top 6)) (He.ga K "check_count") cdv A outer s H E).env (cxOf (L2.CX Pw w) Pw w K mg base ["count", "low", "high"] "check_count" (defScope (top 6)) (He.ga K "check_count") cdv A outer s H E).xe := passes_of rfl
  exact (ss_cons (st_if (PWd.t (w_or (t_not (t_val (PEd.s (d_callC C_is_whole tk hr (by decide) (by exact rfl) (q_cons (s_name 0 rfl (.inl rfl)) q_nil))))) (w_or1 (t_cmp (op_ltA) cmT_lt (s_name 0 rfl (.inl rfl)) (s_name 1 rfl (.inl rfl)) (nomark _)))))
    (ss_one (st_raiseC h.e_InvalidCount rfl tk hr (by decide) rfl (as_cons (s_name 0 rfl (.inl rfl)) as_nil)))
    ss_nil)
    (ss_one (st_if (PWd.t (w_and (t_cmp (op_notN) cmT_notN (s_name 2 rfl (.inl rfl)) s_non (nomark _)) (w_and1 (t_cmp (op_gtA) cmT_gt (s_name 0 rfl (.inl rfl)) (s_name 2 rfl (.inl rfl)) (nomark _)))))
    (ss_one (st_raiseC h.e_InvalidCount rfl tk hr (by decide) rfl (as_cons (s_name 0 rfl (.inl rfl)) as_nil)))
    ss_nil)))
theorem sc_check_space : FnScope ["sizes", "size"] ["sizes"] (defScope (top 12)) := ⟨rfl, rfl, rfl, by decide +kernel, rfl, by decide +kernel, by decide +kernel⟩
theorem C_check_space (h : HW K mg base) : Cl Pw w K mg base "check_space" ["sizes"] 5 F_check_space := by
  have C_is_whole := C_is_whole (w := w) h
  obtain ⟨fd, F⟩ := h.says.def_ 2
  have sc := sc_check_space
  refine ⟨⟨fd, okF F sc rfl (fun cdv A outer s H E rt hr => ?_), F.bindsN fun _ _ _ _ _ _ us hl => match us, hl with | [_], _ => rfl⟩, h.g_check_space, F.kp⟩
  have tk : L2.Takes (cxOf (L2.CX Pw w) Pw w K mg base ["sizes", "size"] "check_space" (defScope (top 12)) (He.ga K "check_space") cdv A outer s H E) (WE0 E) := takes_of rfl rfl rfl rfl
  have pw : PassesOwn (model Pw w) (cxOf (L2.CX Pw w) Pw w K mg base ["sizes", "size"] "check_space" (defScope (top 12)) (He.ga K "check_space") cdv A outer s H E).A (cxOf (L2.CX Pw w) Pw w K mg base ["sizes", "size"] "check_space" (defScope (top 12)) (He.ga K "check_space") cdv A outer s H E).env (cxOf (L2.CX Pw w) Pw w K mg base ["sizes", "size"] "check_space" (defScope (top 12)) (He.ga K "check_space") cdv A outer s H E).xe := passes_of rfl
  exact (ss_cons (st_if (t_not (t_chain (op_leA) (op_leA) cmT_le cmT_le s_int (PEd.s (d_callB call_lenA caT_len (by exact rfl) h.n_len boot_len (as_cons (s_name 0 rfl (.inl rfl)) as_nil))) (s_gint rfl (h.i_MOST_PARAMETERS))))
    (ss_one (st_raiseTC h.x_InvalidSpace rfl tk rfl))
    ss_nil)
    (ss_one (st_for pw rfl (i_any (s_name 0 rfl (.inl rfl))) (tg_name sc.nd (i := 1) rfl (.inl rfl))
    (ss_one (st_if (PWd.t (w_or (t_not (t_val (PEd.s (d_callC C_is_whole tk hr (by decide) (by exact rfl) (q_cons (s_name 1 rfl (.inl rfl)) q_nil))))) (w_or1 (t_not (t_chain (op_leA) (op_leA) cmT_le cmT_le (s_gint rfl (h.i_LEAST_SIZE)) (s_name 1 rfl (.inl rfl)) (s_gint rfl (h.i_GREATEST_SIZE)))))))
    (ss_one (st_raiseTC h.x_InvalidSpace rfl tk rfl))
    ss_nil)))))
theorem sc_check_strength : FnScope ["sizes", "strength"] ["sizes", "strength"] (defScope (top 13)) := ⟨rfl, rfl, rfl, by decide +kernel, rfl, by decide +kernel, by decide +kernel⟩
theorem C_check_strength (h : HW K mg base) : Cl Pw w K mg base "check_strength" ["sizes", "strength"] 7 F_check_strength := by
  have C_check_count := C_check_count (w := w) h
  obtain ⟨fd, F⟩ := h.says.def_ 3
  have sc := sc_check_strength
  refine ⟨⟨fd, okF F sc rfl (fun cdv A outer s H E rt hr => ?_), F.bindsN fun _ _ _ _ _ _ us hl => match us, hl with | [_, _], _ => rfl⟩, h.g_check_strength, F.kp⟩
  have tk : L2.Takes (cxOf (L2.CX Pw w) Pw w K mg base ["sizes", "strength"] "check_strength" (defScope (top 13)) (He.ga K "check_strength") cdv A outer s H E) (WE0 E) := takes_of rfl rfl rfl rfl
  have pw : PassesOwn (model Pw w) (cxOf (L2.CX Pw w) Pw w K mg base ["sizes", "strength"] "check_strength" (defScope (top 13)) (He.ga K "check_strength") cdv A outer s H E).A (cxOf (L2.CX Pw w) Pw w K mg base ["sizes", "strength"] "check_strength" (defScope (top 13)) (He.ga K "check_strength") cdv A outer s H E).env (cxOf (L2.CX Pw w) Pw w K mg base ["sizes", "strength"] "check_strength" (defScope (top 13)) (He.ga K "check_strength") cdv A outer s H E).xe := passes_of rfl
  exact (ss_one (st_expr (d_callC C_check_count tk hr (by decide) (by exact rfl) (q_cons (s_name 1 rfl (.inl rfl)) (q_cons s_int (q_cons (PEd.s (d_callB (call_minA rfl) caT_min (by exact rfl) h.n_min Boot.«min» (as_cons (s_gint rfl (h.i_MOST_STRENGTH)) (as_cons (PEd.s (d_callB call_lenA caT_len (by exact rfl) h.n_len boot_len (as_cons (s_name 0 rfl (.inl rfl)) as_nil))) as_nil)))) q_nil))))))
theorem sc_is_space_row : FnScope ["sizes", "row", "parameter", "value"] ["sizes", "row"] (defScope (top 14)) := ⟨rfl, rfl, rfl, by decide +kernel, rfl, by decide +kernel, by decide +kernel⟩
theorem C_is_space_row (h : HW K mg base) : Cl Pw w K mg base "is_space_row" ["sizes", "row"] 5 F_is_space_row := by
  have C_is_whole := C_is_whole (w := w) h
  obtain ⟨fd, F⟩ := h.says.def_ 4
  have sc := sc_is_space_row
  refine ⟨⟨fd, okF F sc rfl (fun cdv A outer s H E rt hr => ?_), F.bindsN fun _ _ _ _ _ _ us hl => match us, hl with | [_, _], _ => rfl⟩, h.g_is_space_row, F.kp⟩
  have tk : L2.Takes (cxOf (L2.CX Pw w) Pw w K mg base ["sizes", "row", "parameter", "value"] "is_space_row" (defScope (top 14)) (He.ga K "is_space_row") cdv A outer s H E) (WE0 E) := takes_of rfl rfl rfl rfl
  have pw : PassesOwn (model Pw w) (cxOf (L2.CX Pw w) Pw w K mg base ["sizes", "row", "parameter", "value"] "is_space_row" (defScope (top 14)) (He.ga K "is_space_row") cdv A outer s H E).A (cxOf (L2.CX Pw w) Pw w K mg base ["sizes", "row", "parameter", "value"] "is_space_row" (defScope (top 14)) (He.ga K "is_space_row") cdv A outer s H E).env (cxOf (L2.CX Pw w) Pw w K mg base ["sizes", "row", "parameter", "value"] "is_space_row" (defScope (top 14)) (He.ga K "is_space_row") cdv A outer s H E).xe := passes_of rfl
  exact (ss_cons (st_if (PWd.t (w_or (t_not (t_val (s_isTs (by exact rfl) h.n_isinstance (s_name 1 rfl (.inl rfl)) (tyNms_cons (tyNm (by exact rfl) h.n_list Boot.«list») (tyNms_cons (tyNm (by exact rfl) h.n_tuple Boot.«tuple») tyNms_nil)) (by decide) rfl))) (w_or1 (t_cmp (op_neP hr.units) cmT_ne (PEd.s (d_callB call_lenA caT_len (by exact rfl) h.n_len boot_len (as_cons (s_name 1 rfl (.inl rfl)) as_nil))) (PEd.s (d_callB call_lenA caT_len (by exact rfl) h.n_len boot_len (as_cons (s_name 0 rfl (.inl rfl)) as_nil))) (nomark _)))))
    (ss_one (st_ret (PEs.d s_bl)))
    ss_nil)
    (ss_cons (st_for pw rfl (i_rng1 (by exact rfl) h.n_range (as_cons (PEd.s (d_callB call_lenA caT_len (by exact rfl) h.n_len boot_len (as_cons (s_name 0 rfl (.inl rfl)) as_nil))) as_nil)) (tg_name sc.nd (i := 2) rfl (.inl rfl))
    (ss_cons (st_set sc.nd (i := 3) rfl (.inl rfl) (PEs.d (s_ix (s_name 1 rfl (.inl rfl)) (s_name 2 rfl (.inl rfl)) (fun _ _ => rfl))))
    (ss_one (st_if (PWd.t (w_or (t_not (t_val (PEd.s (d_callC C_is_whole tk hr (by decide) (by exact rfl) (q_cons (s_name 3 rfl (.inl rfl)) q_nil))))) (w_or1 (t_not (t_chain (op_leA) (op_ltA) cmT_le cmT_lt s_int (s_name 3 rfl (.inl rfl)) (s_ix (s_name 0 rfl (.inl rfl)) (s_name 2 rfl (.inl rfl)) (fun _ _ => rfl)))))))
    (ss_one (st_ret (PEs.d s_bl)))
    ss_nil))))
    (ss_one (st_ret (PEs.d s_bl)))))
theorem sc_check_rows : FnScope ["sizes", "rows", "row"] ["sizes", "rows"] (defScope (top 15)) := ⟨rfl, rfl, rfl, by decide +kernel, rfl, by decide +kernel, by decide +kernel⟩
theorem C_check_rows (h : HW K mg base) : Cl Pw w K mg base "check_rows" ["sizes", "rows"] 7 F_check_rows := by
  have C_is_space_row := C_is_space_row (w := w) h
  obtain ⟨fd, F⟩ := h.says.def_ 5
  have sc := sc_check_rows
  refine ⟨⟨fd, okF F sc rfl (fun cdv A outer s H E rt hr => ?_), F.bindsN fun _ _ _ _ _ _ us hl => match us, hl with | [_, _], _ => rfl⟩, h.g_check_rows, F.kp⟩
  have tk : L2.Takes (cxOf (L2.CX Pw w) Pw w K mg base ["sizes", "rows", "row"] "check_rows" (defScope (top 15)) (He.ga K "check_rows") cdv A outer s H E) (WE0 E) := takes_of rfl rfl rfl rfl
  have pw : PassesOwn (model Pw w) (cxOf (L2.CX Pw w) Pw w K mg base ["sizes", "rows", "row"] "check_rows" (defScope (top 15)) (He.ga K "check_rows") cdv A outer s H E).A (cxOf (L2.CX Pw w) Pw w K mg base ["sizes", "rows", "row"] "check_rows" (defScope (top 15)) (He.ga K "check_rows") cdv A outer s H E).env (cxOf (L2.CX Pw w) Pw w K mg base ["sizes", "rows", "row"] "check_rows" (defScope (top 15)) (He.ga K "check_rows") cdv A outer s H E).xe := passes_of rfl
  exact (ss_one (st_for pw rfl (i_any (s_name 1 rfl (.inl rfl))) (tg_name sc.nd (i := 2) rfl (.inl rfl))
    (ss_one (st_if (t_not (t_val (PEd.s (d_callC C_is_space_row tk hr (by decide) (by exact rfl) (q_cons (s_name 0 rfl (.inl rfl)) (q_cons (s_name 2 rfl (.inl rfl)) q_nil))))))
    (ss_one (st_raiseTC h.x_InvalidSpace rfl tk rfl))
    ss_nil))))
theorem sc_choices_among : FnScope ["columns", "strength", "found", "_", "longer", "choice", "first", "parameter", "value"] ["columns", "strength"] (defScope (top 16)) := ⟨rfl, rfl, rfl, by decide +kernel, rfl, by decide +kernel, by decide +kernel⟩
theorem C_choices_among (h : HW K mg base) : Cl Pw w K mg base "choices_among" ["columns", "strength"] 3 F_choices_among := by
  obtain ⟨fd, F⟩ := h.says.def_ 6
  have sc := sc_choices_among
  refine ⟨⟨fd, okF F sc rfl (fun cdv A outer s H E rt hr => ?_), F.bindsN fun _ _ _ _ _ _ us hl => match us, hl with | [_, _], _ => rfl⟩, h.g_choices_among, F.kp⟩
  have tk : L2.Takes (cxOf (L2.CX Pw w) Pw w K mg base ["columns", "strength", "found", "_", "longer", "choice", "first", "parameter", "value"] "choices_among" (defScope (top 16)) (He.ga K "choices_among") cdv A outer s H E) (WE0 E) := takes_of rfl rfl rfl rfl
  have pw : PassesOwn (model Pw w) (cxOf (L2.CX Pw w) Pw w K mg base ["columns", "strength", "found", "_", "longer", "choice", "first", "parameter", "value"] "choices_among" (defScope (top 16)) (He.ga K "choices_among") cdv A outer s H E).A (cxOf (L2.CX Pw w) Pw w K mg base ["columns", "strength", "found", "_", "longer", "choice", "first", "parameter", "value"] "choices_among" (defScope (top 16)) (He.ga K "choices_among") cdv A outer s H E).env (cxOf (L2.CX Pw w) Pw w K mg base ["columns", "strength", "found", "_", "longer", "choice", "first", "parameter", "value"] "choices_among" (defScope (top 16)) (He.ga K "choices_among") cdv A outer s H E).xe := passes_of rfl
  exact (ss_cons (st_set sc.nd (i := 2) rfl (.inl rfl) (d_lst (as_cons (PEd.s (d_tup as_nil)) as_nil)))
    (ss_cons (st_for pw rfl (i_rng1 (by exact rfl) h.n_range (as_cons (s_name 1 rfl (.inl rfl)) as_nil)) (tg_name sc.nd (i := 3) rfl (.inl rfl))
    (ss_cons (st_set sc.nd (i := 4) rfl (.inl rfl) (d_lst as_nil))
    (ss_cons (st_for pw rfl (i_any (s_name 2 rfl (.inl rfl))) (tg_name sc.nd (i := 5) rfl (.inl rfl))
    (ss_cons (st_set sc.nd (i := 6) rfl (.inl rfl) (PEs.d (s_ifExp (t_val (s_name 5 rfl (.inl rfl))) (PEd.s (d_bin op_addA opT_add (s_ix (s_ix (s_name 5 rfl (.inl rfl)) (s_neg s_int) (fun _ _ => rfl)) s_int (fun _ _ => rfl)) s_int)) s_int)))
    (ss_one (st_for pw rfl (i_rng2 (by exact rfl) h.n_range (as_cons (s_name 6 rfl (.inl rfl)) (as_cons (PEd.s (d_callB call_lenA caT_len (by exact rfl) h.n_len boot_len (as_cons (s_name 0 rfl (.inl rfl)) as_nil))) as_nil))) (tg_name sc.nd (i := 7) rfl (.inl rfl))
    (ss_one (st_for pw rfl (i_any (s_ix (s_name 0 rfl (.inl rfl)) (s_name 7 rfl (.inl rfl)) (fun _ _ => rfl))) (tg_name sc.nd (i := 8) rfl (.inl rfl))
    (ss_one (st_app (i := 4) rfl (.inl rfl) (d_tup (as_star (s_name 5 rfl (.inl rfl)) (as_cons (PEd.s (d_tup (as_cons (s_name 7 rfl (.inl rfl)) (as_cons (s_name 8 rfl (.inl rfl)) as_nil)))) as_nil))) (hbm := (fun h => ⟨_, pe_bm PySem.F.plainAttrs_list PySem.F.slot_list_append PySem.F.type_list_append mt_append (pv _) (pa_cons h pa_nil), rfl⟩))))))))))
    (ss_one (st_set sc.nd (i := 2) rfl (.inl rfl) (PEs.d (s_name 4 rfl (.inl rfl))))))))
    (ss_one (st_ret (d_move 2 rfl (.inl rfl))))))
theorem sc_choice_list : FnScope ["sizes", "strength", "size"] ["sizes", "strength"] (defScope (top 17)) := ⟨rfl, rfl, rfl, by decide +kernel, rfl, by decide +kernel, by decide +kernel⟩
theorem C_choice_list (h : HW K mg base) : Cl Pw w K mg base "choice_list" ["sizes", "strength"] 5 F_choice_list := by
  have C_choices_among := C_choices_among (w := w) h
  obtain ⟨fd, F⟩ := h.says.def_ 7
  have sc := sc_choice_list
  refine ⟨⟨fd, okF F sc rfl (fun cdv A outer s H E rt hr => ?_), F.bindsN fun _ _ _ _ _ _ us hl => match us, hl with | [_, _], _ => rfl⟩, h.g_choice_list, F.kp⟩
  have tk : L2.Takes (cxOf (L2.CX Pw w) Pw w K mg base ["sizes", "strength", "size"] "choice_list" (defScope (top 17)) (He.ga K "choice_list") cdv A outer s H E) (WE0 E) := takes_of rfl rfl rfl rfl
  have pw : PassesOwn (model Pw w) (cxOf (L2.CX Pw w) Pw w K mg base ["sizes", "strength", "size"] "choice_list" (defScope (top 17)) (He.ga K "choice_list") cdv A outer s H E).A (cxOf (L2.CX Pw w) Pw w K mg base ["sizes", "strength", "size"] "choice_list" (defScope (top 17)) (He.ga K "choice_list") cdv A outer s H E).env (cxOf (L2.CX Pw w) Pw w K mg base ["sizes", "strength", "size"] "choice_list" (defScope (top 17)) (He.ga K "choice_list") cdv A outer s H E).xe := passes_of rfl
  exact (ss_one (st_ret (d_callC C_choices_among tk hr (by decide) (by exact rfl) (q_cons (PEd.s (d_lc rfl sc.nd (own := [("size", 2)]) (blkOk_by (show blkC ["sizes", "strength", "size"] (defScope (top 17)) _ _ = true from by decide +kernel)) (i_any (s_name 0 rfl (by first | exact .inl rfl | exact .inr (.inl rfl) | exact .inr (.inr rfl)))) (fun _ _ _ _ _ => (go_name (by decide) sc.nd (i := 2) rfl (.inl rfl))) (fun _ _ _ _ _ => ts_nil) (fun _ _ _ _ _ => (d_lrng1 rfl (by exact rfl) h.n_list (by exact rfl) h.n_range (s_name 2 rfl (by first | exact .inl rfl | exact .inr (.inl rfl) | exact .inr (.inr rfl))))))) (q_cons (s_name 1 rfl (by first | exact .inl rfl | exact .inr (.inl rfl) | exact .inr (.inr rfl))) q_nil)))))
theorem sc_choices : GScope ["sizes", "strength", "choice"] ["sizes", "strength"] (defScope (top 18)) := ⟨rfl, rfl, rfl, by decide +kernel, rfl, by decide +kernel, by decide +kernel⟩
theorem C_choices (h : HW K mg base) : ClG Pw w K mg base "choices" ["sizes", "strength"] 9 FG_choices := by
  have C_check_space := C_check_space (w := w) h
  have C_check_strength := C_check_strength (w := w) h
  have C_choice_list := C_choice_list (w := w) h
  obtain ⟨fd, F⟩ := h.says.def_ 8
  have sc := sc_choices
  refine ⟨⟨fd, okG F sc (fun cdv A outer s H E rt pn hr => ?_), F.bindsN fun _ _ _ _ _ _ us hl => match us, hl with | [_, _], _ => rfl⟩, h.g_choices, F.kp⟩
  have tk : L2.Takes (gcxOf Pw w K mg base ["sizes", "strength", "choice"] "choices" (defScope (top 18)) (He.ga K "choices") cdv A outer s H E pn) (WE0 E) := takes_gcx
  have pw : PassesOwn (model Pw w) (gcxOf Pw w K mg base ["sizes", "strength", "choice"] "choices" (defScope (top 18)) (He.ga K "choices") cdv A outer s H E pn).A (gcxOf Pw w K mg base ["sizes", "strength", "choice"] "choices" (defScope (top 18)) (He.ga K "choices") cdv A outer s H E pn).env (gcxOf Pw w K mg base ["sizes", "strength", "choice"] "choices" (defScope (top 18)) (He.ga K "choices") cdv A outer s H E pn).xe := owns_gcx
  exact (gns_cons (gn_plain (st_expr (d_callC C_check_space tk hr (by decide) (by exact rfl) (q_cons (s_name 0 rfl (.inl rfl)) q_nil))))
    (gns_cons (gn_plain (st_expr (d_callC C_check_strength tk hr (by decide) (by exact rfl) (q_cons (s_name 0 rfl (.inl rfl)) (q_cons (s_name 1 rfl (.inl rfl)) q_nil)))))
    (gns_cons (gn_for pw rfl (i_any (PEd.s (d_callC C_choice_list tk hr (by decide) (by exact rfl) (q_cons (s_name 0 rfl (.inl rfl)) (q_cons (s_name 1 rfl (.inl rfl)) q_nil))))) (tg_name sc.nd (i := 2) rfl (.inl rfl))
    (gns_cons (gn_yield (s_name 2 rfl (.inl rfl)))
    gns_nil))
    gns_nil)))
theorem sc_uncovered : FnScope ["sizes", "strength", "rows", "held", "row", "choice", "value"] ["sizes", "strength", "rows"] (defScope (top 19)) := ⟨rfl, rfl, rfl, by decide +kernel, rfl, by decide +kernel, by decide +kernel⟩
theorem C_uncovered (h : HW K mg base) : Cl Pw w K mg base "uncovered" ["sizes", "strength", "rows"] 9 F_uncovered := by
  have C_check_rows := C_check_rows (w := w) h
  have C_check_space := C_check_space (w := w) h
  have C_check_strength := C_check_strength (w := w) h
  have C_choice_list := C_choice_list (w := w) h
  have C_choices_among := C_choices_among (w := w) h
  obtain ⟨fd, F⟩ := h.says.def_ 9
  have sc := sc_uncovered
  refine ⟨⟨fd, okF F sc rfl (fun cdv A outer s H E rt hr => ?_), F.bindsN fun _ _ _ _ _ _ us hl => match us, hl with | [_, _, _], _ => rfl⟩, h.g_uncovered, F.kp⟩
  have tk : L2.Takes (cxOf (L2.CX Pw w) Pw w K mg base ["sizes", "strength", "rows", "held", "row", "choice", "value"] "uncovered" (defScope (top 19)) (He.ga K "uncovered") cdv A outer s H E) (WE0 E) := takes_of rfl rfl rfl rfl
  have pw : PassesOwn (model Pw w) (cxOf (L2.CX Pw w) Pw w K mg base ["sizes", "strength", "rows", "held", "row", "choice", "value"] "uncovered" (defScope (top 19)) (He.ga K "uncovered") cdv A outer s H E).A (cxOf (L2.CX Pw w) Pw w K mg base ["sizes", "strength", "rows", "held", "row", "choice", "value"] "uncovered" (defScope (top 19)) (He.ga K "uncovered") cdv A outer s H E).env (cxOf (L2.CX Pw w) Pw w K mg base ["sizes", "strength", "rows", "held", "row", "choice", "value"] "uncovered" (defScope (top 19)) (He.ga K "uncovered") cdv A outer s H E).xe := passes_of rfl
  exact (ss_cons (st_expr (d_callC C_check_space tk hr (by decide) (by exact rfl) (q_cons (s_name 0 rfl (by first | exact .inl rfl | exact .inr (.inl rfl) | exact .inr (.inr rfl))) q_nil)))
    (ss_cons (st_expr (d_callC C_check_strength tk hr (by decide) (by exact rfl) (q_cons (s_name 0 rfl (by first | exact .inl rfl | exact .inr (.inl rfl) | exact .inr (.inr rfl))) (q_cons (s_name 1 rfl (by first | exact .inl rfl | exact .inr (.inl rfl) | exact .inr (.inr rfl))) q_nil))))
    (ss_cons (st_expr (d_callC C_check_rows tk hr (by decide) (by exact rfl) (q_cons (s_name 0 rfl (by first | exact .inl rfl | exact .inr (.inl rfl) | exact .inr (.inr rfl))) (q_cons (s_name 2 rfl (by first | exact .inl rfl | exact .inr (.inl rfl) | exact .inr (.inr rfl))) q_nil))))
    (ss_cons (st_set sc.nd (i := 3) rfl (by first | exact .inl rfl | exact .inr rfl) d_dict0)
    (ss_cons (st_for pw rfl (i_any (s_name 2 rfl (by first | exact .inl rfl | exact .inr (.inl rfl) | exact .inr (.inr rfl)))) (tg_name sc.nd (i := 4) rfl (by first | exact .inl rfl | exact .inr rfl))
    (ss_one (st_for pw rfl (i_any (PEd.s (d_callC C_choices_among tk hr (by decide) (by exact rfl) (q_cons (PEd.s (d_lc rfl sc.nd (own := [("value", 6)]) (blkOk_by (show blkC ["sizes", "strength", "rows", "held", "row", "choice", "value"] (defScope (top 19)) _ _ = true from by decide +kernel)) (i_any (s_name 4 rfl (by first | exact .inl rfl | exact .inr (.inl rfl) | exact .inr (.inr rfl)))) (fun _ _ _ _ _ => (go_name (by decide) sc.nd (i := 6) rfl (.inl rfl))) (fun _ _ _ _ _ => ts_nil) (fun _ _ _ _ _ => (d_lst (as_cons (s_name 6 rfl (by first | exact .inl rfl | exact .inr (.inl rfl) | exact .inr (.inr rfl))) as_nil))))) (q_cons (s_name 1 rfl (by first | exact .inl rfl | exact .inr (.inl rfl) | exact .inr (.inr rfl))) q_nil))))) (tg_name sc.nd (i := 5) rfl (by first | exact .inl rfl | exact .inr rfl))
    (ss_one (st_setN (i := 3) (Nat.lt_of_le_of_lt (Nat.add_le_add_left (by decide) _) hr.units) rfl (by first | exact .inl rfl | exact .inr (.inl rfl) | exact .inr (.inr rfl)) (s_name 5 rfl (by first | exact .inl rfl | exact .inr (.inl rfl) | exact .inr (.inr rfl))) s_bl)))))
    (ss_one (st_ret (d_lc rfl sc.nd (own := [("choice", 5)]) (blkOk_by (show blkC ["sizes", "strength", "rows", "held", "row", "choice", "value"] (defScope (top 19)) _ _ = true from by decide +kernel)) (i_any (PEd.s (d_callC C_choice_list tk hr (by decide) (by exact rfl) (q_cons (s_name 0 rfl (by first | exact .inl rfl | exact .inr (.inl rfl) | exact .inr (.inr rfl))) (q_cons (s_name 1 rfl (by first | exact .inl rfl | exact .inr (.inl rfl) | exact .inr (.inr rfl))) q_nil))))) (fun _ _ _ _ _ => (go_name (by decide) sc.nd (i := 5) rfl (.inl rfl))) (fun _ _ _ _ _ => (ts_one (t_nnotin (i := 3) (Nat.lt_of_le_of_lt (Nat.add_le_add_left (by decide) _) hr.units) (s_name 5 rfl (by first | exact .inl rfl | exact .inr (.inl rfl) | exact .inr (.inr rfl))) rfl (by first | exact .inl rfl | exact .inr (.inl rfl) | exact .inr (.inr rfl))))) (fun _ _ _ _ _ => (PEs.d (s_name 5 rfl (by first | exact .inl rfl | exact .inr (.inl rfl) | exact .inr (.inr rfl)))))))))))))
theorem sc_covers : FnScope ["sizes", "strength", "rows"] ["sizes", "strength", "rows"] (defScope (top 20)) := ⟨rfl, rfl, rfl, by decide +kernel, rfl, by decide +kernel, by decide +kernel⟩
theorem C_covers (h : HW K mg base) : Cl Pw w K mg base "covers" ["sizes", "strength", "rows"] 11 F_covers := by
  have C_uncovered := C_uncovered (w := w) h
  obtain ⟨fd, F⟩ := h.says.def_ 10
  have sc := sc_covers
  refine ⟨⟨fd, okF F sc rfl (fun cdv A outer s H E rt hr => ?_), F.bindsN fun _ _ _ _ _ _ us hl => match us, hl with | [_, _, _], _ => rfl⟩, h.g_covers, F.kp⟩
  have tk : L2.Takes (cxOf (L2.CX Pw w) Pw w K mg base ["sizes", "strength", "rows"] "covers" (defScope (top 20)) (He.ga K "covers") cdv A outer s H E) (WE0 E) := takes_of rfl rfl rfl rfl
  have pw : PassesOwn (model Pw w) (cxOf (L2.CX Pw w) Pw w K mg base ["sizes", "strength", "rows"] "covers" (defScope (top 20)) (He.ga K "covers") cdv A outer s H E).A (cxOf (L2.CX Pw w) Pw w K mg base ["sizes", "strength", "rows"] "covers" (defScope (top 20)) (He.ga K "covers") cdv A outer s H E).env (cxOf (L2.CX Pw w) Pw w K mg base ["sizes", "strength", "rows"] "covers" (defScope (top 20)) (He.ga K "covers") cdv A outer s H E).xe := passes_of rfl
  exact (ss_one (st_ret (PEs.d (s_cmp (op_eqP hr.units) cmT_eq (PEd.s (d_callB call_lenA caT_len (by exact rfl) h.n_len boot_len (as_cons (PEd.s (d_callC C_uncovered tk hr (by decide) (by exact rfl) (q_cons (s_name 0 rfl (.inl rfl)) (q_cons (s_name 1 rfl (.inl rfl)) (q_cons (s_name 2 rfl (.inl rfl)) q_nil))))) as_nil))) s_int (nomark _)))))
theorem sc__law_bag : FnScope ["script", "at", "cell", "great"] ["script", "at"] (defScope (top 22)) := ⟨rfl, rfl, rfl, by decide +kernel, rfl, by decide +kernel, by decide +kernel⟩
theorem C__law_bag (h : HW K mg base) : Cl Pw w K mg base "_law_bag" ["script", "at"] 3 F__law_bag := by
  obtain ⟨fd, F⟩ := h.says.def_ 11
  have sc := sc__law_bag
  refine ⟨⟨fd, okF F sc rfl (fun cdv A outer s H E rt hr => ?_), F.bindsN fun _ _ _ _ _ _ us hl => match us, hl with | [_, _], _ => rfl⟩, h.g__law_bag, F.kp⟩
  have tk : L2.Takes (cxOf (L2.CX Pw w) Pw w K mg base ["script", "at", "cell", "great"] "_law_bag" (defScope (top 22)) (He.ga K "_law_bag") cdv A outer s H E) (WE0 E) := takes_of rfl rfl rfl rfl
  have pw : PassesOwn (model Pw w) (cxOf (L2.CX Pw w) Pw w K mg base ["script", "at", "cell", "great"] "_law_bag" (defScope (top 22)) (He.ga K "_law_bag") cdv A outer s H E).A (cxOf (L2.CX Pw w) Pw w K mg base ["script", "at", "cell", "great"] "_law_bag" (defScope (top 22)) (He.ga K "_law_bag") cdv A outer s H E).env (cxOf (L2.CX Pw w) Pw w K mg base ["script", "at", "cell", "great"] "_law_bag" (defScope (top 22)) (He.ga K "_law_bag") cdv A outer s H E).xe := passes_of rfl
  exact (ss_cons (st_set sc.nd (i := 2) rfl (.inl rfl) (d_bin op_mulA opT_mul s_int (PEd.s (d_bin op_addA opT_add (s_name 1 rfl (.inl rfl)) s_int))))
    (ss_cons (st_if (t_cmp (op_gtA) cmT_gt (PEd.s (d_callB call_lenA caT_len (by exact rfl) h.n_len boot_len (as_cons (s_name 0 rfl (.inl rfl)) as_nil))) s_int (nomark _))
    (ss_one (st_set sc.nd (i := 2) rfl (.inl rfl) (d_bin op_addA opT_add (s_name 2 rfl (.inl rfl)) (PEd.s (d_bin op_mod opT_mod (PEd.s (d_callTy call_int1 caT_int (by exact rfl) h.n_int Boot.«int» (as_cons (s_ix (s_name 0 rfl (.inl rfl)) s_int (fun _ _ => rfl)) as_nil))) s_int)))))
    ss_nil)
    (ss_cons (st_if (t_cmp (op_ltA) cmT_lt (s_name 1 rfl (.inl rfl)) (PEd.s (d_callB call_lenA caT_len (by exact rfl) h.n_len boot_len (as_cons (s_name 0 rfl (.inl rfl)) as_nil))) (nomark _))
    (ss_one (st_set sc.nd (i := 2) rfl (.inl rfl) (d_bin op_mod opT_mod (PEd.s (d_callTy call_int1 caT_int (by exact rfl) h.n_int Boot.«int» (as_cons (s_ix (s_name 0 rfl (.inl rfl)) (s_name 1 rfl (.inl rfl)) (fun _ _ => rfl)) as_nil))) (PEd.s (d_bin op_powW opT_pow (PEd.s (d_bin op_powW opT_pow s_int s_int)) s_int)))))
    ss_nil)
    (ss_cons (st_set sc.nd (i := 3) rfl (.inl rfl) (PEs.d s_int))
    (ss_cons (st_if (t_cmp (op_geA) cmT_ge (s_name 2 rfl (.inl rfl)) (PEd.s (d_bin op_powW opT_pow s_int s_int)) (nomark _))
    (ss_one (st_set sc.nd (i := 3) rfl (.inl rfl) (PEs.d (s_name 2 rfl (.inl rfl)))))
    ss_nil)
    (ss_one (st_ret (d_lst (as_cons (s_name 3 rfl (.inl rfl)) (as_cons (PEd.s (d_bin op_mod opT_mod (PEd.s (d_callTy call_int1 caT_int (by exact rfl) h.n_int Boot.«int» (as_cons (s_name 2 rfl (.inl rfl)) as_nil))) s_int)) (as_cons s_int as_nil)))))))))))
theorem sc__law_take : FnScope ["bag", "limit", "drawn", "mixed"] ["bag", "limit"] (defScope (top 23)) := ⟨rfl, rfl, rfl, by decide +kernel, rfl, by decide +kernel, by decide +kernel⟩
theorem C__law_take (h : HW K mg base) : Cl Pw w K mg base "_law_take" ["bag", "limit"] 3 F__law_take := by
  obtain ⟨fd, F⟩ := h.says.def_ 12
  have sc := sc__law_take
  refine ⟨⟨fd, okF F sc rfl (fun cdv A outer s H E rt hr => ?_), F.bindsN fun _ _ _ _ _ _ us hl => match us, hl with | [_, _], _ => rfl⟩, h.g__law_take, F.kp⟩
  have tk : L2.Takes (cxOf (L2.CX Pw w) Pw w K mg base ["bag", "limit", "drawn", "mixed"] "_law_take" (defScope (top 23)) (He.ga K "_law_take") cdv A outer s H E) (WE0 E) := takes_of rfl rfl rfl rfl
  have pw : PassesOwn (model Pw w) (cxOf (L2.CX Pw w) Pw w K mg base ["bag", "limit", "drawn", "mixed"] "_law_take" (defScope (top 23)) (He.ga K "_law_take") cdv A outer s H E).A (cxOf (L2.CX Pw w) Pw w K mg base ["bag", "limit", "drawn", "mixed"] "_law_take" (defScope (top 23)) (He.ga K "_law_take") cdv A outer s H E).env (cxOf (L2.CX Pw w) Pw w K mg base ["bag", "limit", "drawn", "mixed"] "_law_take" (defScope (top 23)) (He.ga K "_law_take") cdv A outer s H E).xe := passes_of rfl
  exact (ss_cons (st_if (t_cmp (op_gtA) cmT_gt (s_peek 0 rfl (.inl rfl) s_int (fun _ _ => rfl)) s_int (nomark _))
    (ss_cons (st_set sc.nd (i := 2) rfl (.inl rfl) (d_bin op_mod opT_mod (PEd.s (d_callTy call_int1 caT_int (by exact rfl) h.n_int Boot.«int» (as_cons (s_peek 0 rfl (.inl rfl) s_int (fun _ _ => rfl)) as_nil))) (s_name 1 rfl (.inl rfl))))
    (ss_cons (st_setIx (i := 0) rfl (.inl rfl) s_int (PEd.s (d_bin op_fdiv opT_fdiv (s_peek 0 rfl (.inl rfl) s_int (fun _ _ => rfl)) (s_name 1 rfl (.inl rfl)))))
    (ss_one (st_ret (d_move 2 rfl (.inl rfl))))))
    ss_nil)
    (ss_cons (st_setIx (i := 0) rfl (.inl rfl) s_int (PEd.s (d_bin op_addA opT_add (s_peek 0 rfl (.inl rfl) s_int (fun _ _ => rfl)) s_int)))
    (ss_cons (st_setIx (i := 0) rfl (.inl rfl) s_int (PEd.s (d_bin op_mod opT_mod (PEd.s (d_callTy call_int1 caT_int (by exact rfl) h.n_int Boot.«int» (as_cons (PEd.s (d_bin op_addA opT_add (PEd.s (d_bin op_addA opT_add (PEd.s (d_bin op_mulA opT_mul (s_peek 0 rfl (.inl rfl) s_int (fun _ _ => rfl)) s_int)) (PEd.s (d_bin op_mulA opT_mul (s_peek 0 rfl (.inl rfl) s_int (fun _ _ => rfl)) s_int)))) s_int)) as_nil))) s_int)))
    (ss_cons (st_set sc.nd (i := 3) rfl (.inl rfl) (d_bin op_mod opT_mod (PEd.s (d_callTy call_int1 caT_int (by exact rfl) h.n_int Boot.«int» (as_cons (PEd.s (d_bin op_addA opT_add (PEd.s (d_bin op_mulA opT_mul (s_peek 0 rfl (.inl rfl) s_int (fun _ _ => rfl)) (s_peek 0 rfl (.inl rfl) s_int (fun _ _ => rfl)))) (PEd.s (d_bin op_mulA opT_mul s_int (s_peek 0 rfl (.inl rfl) s_int (fun _ _ => rfl)))))) as_nil))) s_int))
    (ss_one (st_ret (d_bin op_mod opT_mod (PEd.s (d_callTy call_int1 caT_int (by exact rfl) h.n_int Boot.«int» (as_cons (PEd.s (d_bin op_fdiv opT_fdiv (s_name 3 rfl (.inl rfl)) s_int)) as_nil))) (s_name 1 rfl (.inl rfl)))))))))
theorem sc__law_integer : FnScope ["value"] ["value"] (defScope (top 24)) := ⟨rfl, rfl, rfl, by decide +kernel, rfl, by decide +kernel, by decide +kernel⟩
theorem C__law_integer (h : HW K mg base) : Cl Pw w K mg base "_law_integer" ["value"] 3 F__law_integer := by
  obtain ⟨fd, F⟩ := h.says.def_ 13
  have sc := sc__law_integer
  refine ⟨⟨fd, okF F sc rfl (fun cdv A outer s H E rt hr => ?_), F.bindsN fun _ _ _ _ _ _ us hl => match us, hl with | [_], _ => rfl⟩, h.g__law_integer, F.kp⟩
  have tk : L2.Takes (cxOf (L2.CX Pw w) Pw w K mg base ["value"] "_law_integer" (defScope (top 24)) (He.ga K "_law_integer") cdv A outer s H E) (WE0 E) := takes_of rfl rfl rfl rfl
  have pw : PassesOwn (model Pw w) (cxOf (L2.CX Pw w) Pw w K mg base ["value"] "_law_integer" (defScope (top 24)) (He.ga K "_law_integer") cdv A outer s H E).A (cxOf (L2.CX Pw w) Pw w K mg base ["value"] "_law_integer" (defScope (top 24)) (He.ga K "_law_integer") cdv A outer s H E).env (cxOf (L2.CX Pw w) Pw w K mg base ["value"] "_law_integer" (defScope (top 24)) (He.ga K "_law_integer") cdv A outer s H E).xe := passes_of rfl
  exact (ss_one (st_ret (PEs.d (s_and (s_is1 (by exact rfl) h.n_isinstance (s_name 0 rfl (.inl rfl)) (tyNm (by exact rfl) h.n_int Boot.«int»)) (s_one (s_not (s_is1 (by exact rfl) h.n_isinstance (s_name 0 rfl (.inl rfl)) (tyNm (by exact rfl) h.n_bool Boot.«bool»))))))))
theorem sc__law_space : FnScope ["bag", "way", "many", "size", "sizes", "k"] ["bag"] (defScope (top 25)) := ⟨rfl, rfl, rfl, by decide +kernel, rfl, by decide +kernel, by decide +kernel⟩
theorem C__law_space (h : HW K mg base) : Cl Pw w K mg base "_law_space" ["bag"] 5 F__law_space := by
  have C__law_take := C__law_take (w := w) h
  obtain ⟨fd, F⟩ := h.says.def_ 14
  have sc := sc__law_space
  refine ⟨⟨fd, okF F sc rfl (fun cdv A outer s H E rt hr => ?_), F.bindsN fun _ _ _ _ _ _ us hl => match us, hl with | [_], _ => rfl⟩, h.g__law_space, F.kp⟩
  have tk : L2.Takes (cxOf (L2.CX Pw w) Pw w K mg base ["bag", "way", "many", "size", "sizes", "k"] "_law_space" (defScope (top 25)) (He.ga K "_law_space") cdv A outer s H E) (WE0 E) := takes_of rfl rfl rfl rfl
  have pw : PassesOwn (model Pw w) (cxOf (L2.CX Pw w) Pw w K mg base ["bag", "way", "many", "size", "sizes", "k"] "_law_space" (defScope (top 25)) (He.ga K "_law_space") cdv A outer s H E).A (cxOf (L2.CX Pw w) Pw w K mg base ["bag", "way", "many", "size", "sizes", "k"] "_law_space" (defScope (top 25)) (He.ga K "_law_space") cdv A outer s H E).env (cxOf (L2.CX Pw w) Pw w K mg base ["bag", "way", "many", "size", "sizes", "k"] "_law_space" (defScope (top 25)) (He.ga K "_law_space") cdv A outer s H E).xe := passes_of rfl
  exact (ss_cons (st_set sc.nd (i := 1) rfl (.inl rfl) (d_callC C__law_take tk hr (by decide) (by exact rfl) (q_own 0 rfl (.inl rfl) (q_cons s_int q_nil))))
    (ss_cons (st_set sc.nd (i := 2) rfl (.inl rfl) (d_bin op_addA opT_add s_int (PEd.s (d_callC C__law_take tk hr (by decide) (by exact rfl) (q_own 0 rfl (.inl rfl) (q_cons s_int q_nil))))))
    (ss_cons (st_set sc.nd (i := 3) rfl (.inl rfl) (d_bin op_addA opT_add s_int (PEd.s (d_callC C__law_take tk hr (by decide) (by exact rfl) (q_own 0 rfl (.inl rfl) (q_cons s_int q_nil))))))
    (ss_cons (st_set sc.nd (i := 4) rfl (.inl rfl) (d_lst as_nil))
    (ss_cons (st_for pw rfl (i_rng1 (by exact rfl) h.n_range (as_cons (s_name 2 rfl (.inl rfl)) as_nil)) (tg_name sc.nd (i := 5) rfl (.inl rfl))
    (ss_one (st_if (t_cmp (op_eqP hr.units) cmT_eq (s_name 1 rfl (.inl rfl)) s_int (nomark _))
    (ss_one (st_app (i := 4) rfl (.inl rfl) (PEs.d (s_name 3 rfl (.inl rfl))) (hbm := (fun h => ⟨_, pe_bm PySem.F.plainAttrs_list PySem.F.slot_list_append PySem.F.type_list_append mt_append (pv _) (pa_cons h pa_nil), rfl⟩))))
    (ss_one (st_app (i := 4) rfl (.inl rfl) (d_bin op_addA opT_add s_int (PEd.s (d_callC C__law_take tk hr (by decide) (by exact rfl) (q_own 0 rfl (.inl rfl) (q_cons s_int q_nil))))) (hbm := (fun h => ⟨_, pe_bm PySem.F.plainAttrs_list PySem.F.slot_list_append PySem.F.type_list_append mt_append (pv _) (pa_cons h pa_nil), rfl⟩)))))))
    (ss_one (st_ret (d_move 4 rfl (.inl rfl)))))))))
theorem sc__law_all_choices : FnScope ["sizes", "strength", "found", "k", "longer", "part", "begin", "parameter", "value"] ["sizes", "strength"] (defScope (top 26)) := ⟨rfl, rfl, rfl, by decide +kernel, rfl, by decide +kernel, by decide +kernel⟩
theorem C__law_all_choices (h : HW K mg base) : Cl Pw w K mg base "_law_all_choices" ["sizes", "strength"] 3 F__law_all_choices := by
  obtain ⟨fd, F⟩ := h.says.def_ 15
  have sc := sc__law_all_choices
  refine ⟨⟨fd, okF F sc rfl (fun cdv A outer s H E rt hr => ?_), F.bindsN fun _ _ _ _ _ _ us hl => match us, hl with | [_, _], _ => rfl⟩, h.g__law_all_choices, F.kp⟩
  have tk : L2.Takes (cxOf (L2.CX Pw w) Pw w K mg base ["sizes", "strength", "found", "k", "longer", "part", "begin", "parameter", "value"] "_law_all_choices" (defScope (top 26)) (He.ga K "_law_all_choices") cdv A outer s H E) (WE0 E) := takes_of rfl rfl rfl rfl
  have pw : PassesOwn (model Pw w) (cxOf (L2.CX Pw w) Pw w K mg base ["sizes", "strength", "found", "k", "longer", "part", "begin", "parameter", "value"] "_law_all_choices" (defScope (top 26)) (He.ga K "_law_all_choices") cdv A outer s H E).A (cxOf (L2.CX Pw w) Pw w K mg base ["sizes", "strength", "found", "k", "longer", "part", "begin", "parameter", "value"] "_law_all_choices" (defScope (top 26)) (He.ga K "_law_all_choices") cdv A outer s H E).env (cxOf (L2.CX Pw w) Pw w K mg base ["sizes", "strength", "found", "k", "longer", "part", "begin", "parameter", "value"] "_law_all_choices" (defScope (top 26)) (He.ga K "_law_all_choices") cdv A outer s H E).xe := passes_of rfl
  exact (ss_cons (st_set sc.nd (i := 2) rfl (.inl rfl) (d_lst (as_cons (PEd.s (d_tup as_nil)) as_nil)))
    (ss_cons (st_for pw rfl (i_rng1 (by exact rfl) h.n_range (as_cons (s_name 1 rfl (.inl rfl)) as_nil)) (tg_name sc.nd (i := 3) rfl (.inl rfl))
    (ss_cons (st_set sc.nd (i := 4) rfl (.inl rfl) (d_lst as_nil))
    (ss_cons (st_for pw rfl (i_any (s_name 2 rfl (.inl rfl))) (tg_name sc.nd (i := 5) rfl (.inl rfl))
    (ss_cons (st_set sc.nd (i := 6) rfl (.inl rfl) (PEs.d s_int))
    (ss_cons (st_if (t_cmp (op_gtA) cmT_gt (PEd.s (d_callB call_lenA caT_len (by exact rfl) h.n_len boot_len (as_cons (s_name 5 rfl (.inl rfl)) as_nil))) s_int (nomark _))
    (ss_one (st_set sc.nd (i := 6) rfl (.inl rfl) (d_bin op_addA opT_add (s_ix (s_ix (s_name 5 rfl (.inl rfl)) (PEd.s (d_bin op_sub opT_sub (PEd.s (d_callB call_lenA caT_len (by exact rfl) h.n_len boot_len (as_cons (s_name 5 rfl (.inl rfl)) as_nil))) s_int)) (fun _ _ => rfl)) s_int (fun _ _ => rfl)) s_int)))
    ss_nil)
    (ss_one (st_for pw rfl (i_rng2 (by exact rfl) h.n_range (as_cons (s_name 6 rfl (.inl rfl)) (as_cons (PEd.s (d_bin op_addA opT_add (PEd.s (d_bin op_addA opT_add (PEd.s (d_bin op_sub opT_sub (PEd.s (d_callB call_lenA caT_len (by exact rfl) h.n_len boot_len (as_cons (s_name 0 rfl (.inl rfl)) as_nil))) (s_name 1 rfl (.inl rfl)))) (s_name 3 rfl (.inl rfl)))) s_int)) as_nil))) (tg_name sc.nd (i := 7) rfl (.inl rfl))
    (ss_one (st_for pw rfl (i_rng1 (by exact rfl) h.n_range (as_cons (s_ix (s_name 0 rfl (.inl rfl)) (s_name 7 rfl (.inl rfl)) (fun _ _ => rfl)) as_nil)) (tg_name sc.nd (i := 8) rfl (.inl rfl))
    (ss_one (st_app (i := 4) rfl (.inl rfl) (d_bin op_addA opT_add (s_name 5 rfl (.inl rfl)) (PEd.s (d_tup (as_cons (PEd.s (d_tup (as_cons (s_name 7 rfl (.inl rfl)) (as_cons (s_name 8 rfl (.inl rfl)) as_nil)))) as_nil)))) (hbm := (fun h => ⟨_, pe_bm PySem.F.plainAttrs_list PySem.F.slot_list_append PySem.F.type_list_append mt_append (pv _) (pa_cons h pa_nil), rfl⟩)))))))))))
    (ss_one (st_set sc.nd (i := 2) rfl (.inl rfl) (PEs.d (s_name 4 rfl (.inl rfl))))))))
    (ss_one (st_ret (d_move 2 rfl (.inl rfl))))))
theorem sc__law_holds : FnScope ["row", "choice", "pair"] ["row", "choice"] (defScope (top 27)) := ⟨rfl, rfl, rfl, by decide +kernel, rfl, by decide +kernel, by decide +kernel⟩
theorem C__law_holds (h : HW K mg base) : Cl Pw w K mg base "_law_holds" ["row", "choice"] 3 F__law_holds := by
  obtain ⟨fd, F⟩ := h.says.def_ 16
  have sc := sc__law_holds
  refine ⟨⟨fd, okF F sc rfl (fun cdv A outer s H E rt hr => ?_), F.bindsN fun _ _ _ _ _ _ us hl => match us, hl with | [_, _], _ => rfl⟩, h.g__law_holds, F.kp⟩
  have tk : L2.Takes (cxOf (L2.CX Pw w) Pw w K mg base ["row", "choice", "pair"] "_law_holds" (defScope (top 27)) (He.ga K "_law_holds") cdv A outer s H E) (WE0 E) := takes_of rfl rfl rfl rfl
  have pw : PassesOwn (model Pw w) (cxOf (L2.CX Pw w) Pw w K mg base ["row", "choice", "pair"] "_law_holds" (defScope (top 27)) (He.ga K "_law_holds") cdv A outer s H E).A (cxOf (L2.CX Pw w) Pw w K mg base ["row", "choice", "pair"] "_law_holds" (defScope (top 27)) (He.ga K "_law_holds") cdv A outer s H E).env (cxOf (L2.CX Pw w) Pw w K mg base ["row", "choice", "pair"] "_law_holds" (defScope (top 27)) (He.ga K "_law_holds") cdv A outer s H E).xe := passes_of rfl
  exact (ss_cons (st_for pw rfl (i_any (s_name 1 rfl (.inl rfl))) (tg_name sc.nd (i := 2) rfl (.inl rfl))
    (ss_one (st_if (t_cmp (op_neP hr.units) cmT_ne (s_ix (s_name 0 rfl (.inl rfl)) (s_ix (s_name 2 rfl (.inl rfl)) s_int (fun _ _ => rfl)) (fun _ _ => rfl)) (s_ix (s_name 2 rfl (.inl rfl)) s_int (fun _ _ => rfl)) (nomark _))
    (ss_one (st_ret (PEs.d s_bl)))
    ss_nil)))
    (ss_one (st_ret (PEs.d s_bl))))
theorem sc__law_not_held : FnScope ["every", "rows", "told", "choice", "held", "row"] ["every", "rows"] (defScope (top 28)) := ⟨rfl, rfl, rfl, by decide +kernel, rfl, by decide +kernel, by decide +kernel⟩
theorem C__law_not_held (h : HW K mg base) : Cl Pw w K mg base "_law_not_held" ["every", "rows"] 5 F__law_not_held := by
  have C__law_holds := C__law_holds (w := w) h
  obtain ⟨fd, F⟩ := h.says.def_ 17
  have sc := sc__law_not_held
  refine ⟨⟨fd, okF F sc rfl (fun cdv A outer s H E rt hr => ?_), F.bindsN fun _ _ _ _ _ _ us hl => match us, hl with | [_, _], _ => rfl⟩, h.g__law_not_held, F.kp⟩
  have tk : L2.Takes (cxOf (L2.CX Pw w) Pw w K mg base ["every", "rows", "told", "choice", "held", "row"] "_law_not_held" (defScope (top 28)) (He.ga K "_law_not_held") cdv A outer s H E) (WE0 E) := takes_of rfl rfl rfl rfl
  have pw : PassesOwn (model Pw w) (cxOf (L2.CX Pw w) Pw w K mg base ["every", "rows", "told", "choice", "held", "row"] "_law_not_held" (defScope (top 28)) (He.ga K "_law_not_held") cdv A outer s H E).A (cxOf (L2.CX Pw w) Pw w K mg base ["every", "rows", "told", "choice", "held", "row"] "_law_not_held" (defScope (top 28)) (He.ga K "_law_not_held") cdv A outer s H E).env (cxOf (L2.CX Pw w) Pw w K mg base ["every", "rows", "told", "choice", "held", "row"] "_law_not_held" (defScope (top 28)) (He.ga K "_law_not_held") cdv A outer s H E).xe := passes_of rfl
  exact (ss_cons (st_set sc.nd (i := 2) rfl (.inl rfl) (d_lst as_nil))
    (ss_cons (st_for pw rfl (i_any (s_name 0 rfl (.inl rfl))) (tg_name sc.nd (i := 3) rfl (.inl rfl))
    (ss_cons (st_set sc.nd (i := 4) rfl (.inl rfl) (PEs.d s_bl))
    (ss_cons (st_for pw rfl (i_any (s_name 1 rfl (.inl rfl))) (tg_name sc.nd (i := 5) rfl (.inl rfl))
    (ss_one (st_if (t_val (PEd.s (d_callC C__law_holds tk hr (by decide) (by exact rfl) (q_cons (s_name 5 rfl (.inl rfl)) (q_cons (s_name 3 rfl (.inl rfl)) q_nil)))))
    (ss_cons (st_set sc.nd (i := 4) rfl (.inl rfl) (PEs.d s_bl))
    (ss_one st_break))
    ss_nil)))
    (ss_one (st_if (t_not (t_val (s_name 4 rfl (.inl rfl))))
    (ss_one (st_app (i := 2) rfl (.inl rfl) (PEs.d (s_name 3 rfl (.inl rfl))) (hbm := (fun h => ⟨_, pe_bm PySem.F.plainAttrs_list PySem.F.slot_list_append PySem.F.type_list_append mt_append (pv _) (pa_cons h pa_nil), rfl⟩))))
    ss_nil)))))
    (ss_one (st_ret (d_move 2 rfl (.inl rfl))))))
theorem sc__law_kept_kind : FnScope ["bag", "row"] ["bag", "row"] (defScope (top 29)) := ⟨rfl, rfl, rfl, by decide +kernel, rfl, by decide +kernel, by decide +kernel⟩
theorem C__law_kept_kind (h : HW K mg base) : Cl Pw w K mg base "_law_kept_kind" ["bag", "row"] 5 F__law_kept_kind := by
  have C__law_take := C__law_take (w := w) h
  obtain ⟨fd, F⟩ := h.says.def_ 18
  have sc := sc__law_kept_kind
  refine ⟨⟨fd, okF F sc rfl (fun cdv A outer s H E rt hr => ?_), F.bindsN fun _ _ _ _ _ _ us hl => match us, hl with | [_, _], _ => rfl⟩, h.g__law_kept_kind, F.kp⟩
  have tk : L2.Takes (cxOf (L2.CX Pw w) Pw w K mg base ["bag", "row"] "_law_kept_kind" (defScope (top 29)) (He.ga K "_law_kept_kind") cdv A outer s H E) (WE0 E) := takes_of rfl rfl rfl rfl
  have pw : PassesOwn (model Pw w) (cxOf (L2.CX Pw w) Pw w K mg base ["bag", "row"] "_law_kept_kind" (defScope (top 29)) (He.ga K "_law_kept_kind") cdv A outer s H E).A (cxOf (L2.CX Pw w) Pw w K mg base ["bag", "row"] "_law_kept_kind" (defScope (top 29)) (He.ga K "_law_kept_kind") cdv A outer s H E).env (cxOf (L2.CX Pw w) Pw w K mg base ["bag", "row"] "_law_kept_kind" (defScope (top 29)) (He.ga K "_law_kept_kind") cdv A outer s H E).xe := passes_of rfl
  exact (ss_cons (st_if (t_cmp (op_eqP hr.units) cmT_eq (PEd.s (d_callC C__law_take tk hr (by decide) (by exact rfl) (q_own 0 rfl (.inl rfl) (q_cons s_int q_nil)))) s_int (nomark _))
    (ss_one (st_ret (d_callTy call_tuple_of caT_tuple (by exact rfl) h.n_tuple Boot.«tuple» (as_cons (s_name 1 rfl (.inl rfl)) as_nil))))
    ss_nil)
    (ss_one (st_ret (d_callTy call_list_of caT_list (by exact rfl) h.n_list Boot.«list» (as_cons (s_name 1 rfl (.inl rfl)) as_nil)))))
theorem sc__law_row_with : FnScope ["bag", "sizes", "choice", "row", "size", "pair"] ["bag", "sizes", "choice"] (defScope (top 30)) := ⟨rfl, rfl, rfl, by decide +kernel, rfl, by decide +kernel, by decide +kernel⟩
theorem C__law_row_with (h : HW K mg base) : Cl Pw w K mg base "_law_row_with" ["bag", "sizes", "choice"] 5 F__law_row_with := by
  have C__law_take := C__law_take (w := w) h
  obtain ⟨fd, F⟩ := h.says.def_ 19
  have sc := sc__law_row_with
  refine ⟨⟨fd, okF F sc rfl (fun cdv A outer s H E rt hr => ?_), F.bindsN fun _ _ _ _ _ _ us hl => match us, hl with | [_, _, _], _ => rfl⟩, h.g__law_row_with, F.kp⟩
  have tk : L2.Takes (cxOf (L2.CX Pw w) Pw w K mg base ["bag", "sizes", "choice", "row", "size", "pair"] "_law_row_with" (defScope (top 30)) (He.ga K "_law_row_with") cdv A outer s H E) (WE0 E) := takes_of rfl rfl rfl rfl
  have pw : PassesOwn (model Pw w) (cxOf (L2.CX Pw w) Pw w K mg base ["bag", "sizes", "choice", "row", "size", "pair"] "_law_row_with" (defScope (top 30)) (He.ga K "_law_row_with") cdv A outer s H E).A (cxOf (L2.CX Pw w) Pw w K mg base ["bag", "sizes", "choice", "row", "size", "pair"] "_law_row_with" (defScope (top 30)) (He.ga K "_law_row_with") cdv A outer s H E).env (cxOf (L2.CX Pw w) Pw w K mg base ["bag", "sizes", "choice", "row", "size", "pair"] "_law_row_with" (defScope (top 30)) (He.ga K "_law_row_with") cdv A outer s H E).xe := passes_of rfl
  exact (ss_cons (st_set sc.nd (i := 3) rfl (.inl rfl) (d_lst as_nil))
    (ss_cons (st_for pw rfl (i_any (s_name 1 rfl (.inl rfl))) (tg_name sc.nd (i := 4) rfl (.inl rfl))
    (ss_one (st_app (i := 3) rfl (.inl rfl) (d_callC C__law_take tk hr (by decide) (by exact rfl) (q_own 0 rfl (.inl rfl) (q_cons (s_name 4 rfl (.inl rfl)) q_nil))) (hbm := (fun h => ⟨_, pe_bm PySem.F.plainAttrs_list PySem.F.slot_list_append PySem.F.type_list_append mt_append (pv _) (pa_cons h pa_nil), rfl⟩)))))
    (ss_cons (st_for pw rfl (i_any (s_name 2 rfl (.inl rfl))) (tg_name sc.nd (i := 5) rfl (.inl rfl))
    (ss_one (st_setIx (i := 3) rfl (.inl rfl) (s_ix (s_name 5 rfl (.inl rfl)) s_int (fun _ _ => rfl)) (s_ix (s_name 5 rfl (.inl rfl)) s_int (fun _ _ => rfl)))))
    (ss_one (st_ret (d_move 3 rfl (.inl rfl)))))))
theorem sc__law_drawn_rows : FnScope ["script", "bag", "sizes", "rows", "k", "own", "same", "row"] ["script", "bag", "sizes"] (defScope (top 31)) := ⟨rfl, rfl, rfl, by decide +kernel, rfl, by decide +kernel, by decide +kernel⟩
theorem C__law_drawn_rows (h : HW K mg base) : Cl Pw w K mg base "_law_drawn_rows" ["script", "bag", "sizes"] 7 F__law_drawn_rows := by
  have C__law_bag := C__law_bag (w := w) h
  have C__law_kept_kind := C__law_kept_kind (w := w) h
  have C__law_row_with := C__law_row_with (w := w) h
  have C__law_take := C__law_take (w := w) h
  obtain ⟨fd, F⟩ := h.says.def_ 20
  have sc := sc__law_drawn_rows
  refine ⟨⟨fd, okF F sc rfl (fun cdv A outer s H E rt hr => ?_), F.bindsN fun _ _ _ _ _ _ us hl => match us, hl with | [_, _, _], _ => rfl⟩, h.g__law_drawn_rows, F.kp⟩
  have tk : L2.Takes (cxOf (L2.CX Pw w) Pw w K mg base ["script", "bag", "sizes", "rows", "k", "own", "same", "row"] "_law_drawn_rows" (defScope (top 31)) (He.ga K "_law_drawn_rows") cdv A outer s H E) (WE0 E) := takes_of rfl rfl rfl rfl
  have pw : PassesOwn (model Pw w) (cxOf (L2.CX Pw w) Pw w K mg base ["script", "bag", "sizes", "rows", "k", "own", "same", "row"] "_law_drawn_rows" (defScope (top 31)) (He.ga K "_law_drawn_rows") cdv A outer s H E).A (cxOf (L2.CX Pw w) Pw w K mg base ["script", "bag", "sizes", "rows", "k", "own", "same", "row"] "_law_drawn_rows" (defScope (top 31)) (He.ga K "_law_drawn_rows") cdv A outer s H E).env (cxOf (L2.CX Pw w) Pw w K mg base ["script", "bag", "sizes", "rows", "k", "own", "same", "row"] "_law_drawn_rows" (defScope (top 31)) (He.ga K "_law_drawn_rows") cdv A outer s H E).xe := passes_of rfl
  exact (ss_cons (st_set sc.nd (i := 3) rfl (.inl rfl) (d_lst as_nil))
    (ss_cons (st_for pw rfl (i_rng1 (by exact rfl) h.n_range (as_cons (PEd.s (d_callC C__law_take tk hr (by decide) (by exact rfl) (q_own 1 rfl (.inl rfl) (q_cons s_int q_nil)))) as_nil)) (tg_name sc.nd (i := 4) rfl (.inl rfl))
    (ss_cons (st_set sc.nd (i := 5) rfl (.inl rfl) (d_callC C__law_bag tk hr (by decide) (by exact rfl) (q_cons (s_name 0 rfl (.inl rfl)) (q_cons (PEd.s (d_bin op_addA opT_add s_int (s_name 4 rfl (.inl rfl)))) q_nil))))
    (ss_cons (st_set sc.nd (i := 6) rfl (.inl rfl) (d_callC C__law_take tk hr (by decide) (by exact rfl) (q_own 5 rfl (.inl rfl) (q_cons s_int q_nil))))
    (ss_cons (st_if (PWd.t (w_and (t_cmp (op_eqP hr.units) cmT_eq (s_name 6 rfl (.inl rfl)) s_int (nomark _)) (w_and1 (t_cmp (op_gtA) cmT_gt (s_lenV 3 (by exact rfl) h.n_len rfl (.inl rfl)) s_int (nomark _)))))
    (ss_one (st_set sc.nd (i := 7) rfl (.inl rfl) (PEs.d (s_peek 3 rfl (.inl rfl) (PEd.s (d_callC C__law_take tk hr (by decide) (by exact rfl) (q_own 5 rfl (.inl rfl) (q_cons (s_lenV 3 (by exact rfl) h.n_len rfl (.inl rfl)) q_nil)))) (fun _ _ => rfl)))))
    (ss_one (st_set sc.nd (i := 7) rfl (.inl rfl) (d_callC C__law_row_with tk hr (by decide) (by exact rfl) (q_own 5 rfl (.inl rfl) (q_cons (s_name 2 rfl (.inl rfl)) (q_cons (PEd.s (d_tup as_nil)) q_nil)))))))
    (ss_one (st_app (i := 3) rfl (.inl rfl) (PEs.d (PEd.s (d_callC C__law_kept_kind tk hr (by decide) (by exact rfl) (q_own 5 rfl (.inl rfl) (q_cons (s_name 7 rfl (.inl rfl)) q_nil))))) (hbm := (fun h => ⟨_, pe_bm PySem.F.plainAttrs_list PySem.F.slot_list_append PySem.F.type_list_append mt_append (pv _) (pa_cons h pa_nil), rfl⟩))))))))
    (ss_one (st_ret (d_move 3 rfl (.inl rfl))))))
theorem sc__law_near_rows : FnScope ["bag", "sizes", "every", "missed", "rows", "choice", "row", "fixed", "pair"] ["bag", "sizes", "every", "missed"] (defScope (top 32)) := ⟨rfl, rfl, rfl, by decide +kernel, rfl, by decide +kernel, by decide +kernel⟩
theorem C__law_near_rows (h : HW K mg base) : Cl Pw w K mg base "_law_near_rows" ["bag", "sizes", "every", "missed"] 7 F__law_near_rows := by
  have C__law_holds := C__law_holds (w := w) h
  have C__law_kept_kind := C__law_kept_kind (w := w) h
  have C__law_row_with := C__law_row_with (w := w) h
  obtain ⟨fd, F⟩ := h.says.def_ 21
  have sc := sc__law_near_rows
  refine ⟨⟨fd, okF F sc rfl (fun cdv A outer s H E rt hr => ?_), F.bindsN fun _ _ _ _ _ _ us hl => match us, hl with | [_, _, _, _], _ => rfl⟩, h.g__law_near_rows, F.kp⟩
  have tk : L2.Takes (cxOf (L2.CX Pw w) Pw w K mg base ["bag", "sizes", "every", "missed", "rows", "choice", "row", "fixed", "pair"] "_law_near_rows" (defScope (top 32)) (He.ga K "_law_near_rows") cdv A outer s H E) (WE0 E) := takes_of rfl rfl rfl rfl
  have pw : PassesOwn (model Pw w) (cxOf (L2.CX Pw w) Pw w K mg base ["bag", "sizes", "every", "missed", "rows", "choice", "row", "fixed", "pair"] "_law_near_rows" (defScope (top 32)) (He.ga K "_law_near_rows") cdv A outer s H E).A (cxOf (L2.CX Pw w) Pw w K mg base ["bag", "sizes", "every", "missed", "rows", "choice", "row", "fixed", "pair"] "_law_near_rows" (defScope (top 32)) (He.ga K "_law_near_rows") cdv A outer s H E).env (cxOf (L2.CX Pw w) Pw w K mg base ["bag", "sizes", "every", "missed", "rows", "choice", "row", "fixed", "pair"] "_law_near_rows" (defScope (top 32)) (He.ga K "_law_near_rows") cdv A outer s H E).xe := passes_of rfl
  exact (ss_cons (st_set sc.nd (i := 4) rfl (by first | exact .inl rfl | exact .inr rfl) (d_lst as_nil))
    (ss_cons (st_for pw rfl (i_any (s_name 2 rfl (by first | exact .inl rfl | exact .inr (.inl rfl) | exact .inr (.inr rfl)))) (tg_name sc.nd (i := 5) rfl (by first | exact .inl rfl | exact .inr rfl))
    (ss_one (st_if (t_cmp (op_neP hr.units) cmT_ne (s_name 5 rfl (by first | exact .inl rfl | exact .inr (.inl rfl) | exact .inr (.inr rfl))) (s_name 3 rfl (by first | exact .inl rfl | exact .inr (.inl rfl) | exact .inr (.inr rfl))) (nomark _))
    (ss_cons (st_set sc.nd (i := 6) rfl (by first | exact .inl rfl | exact .inr rfl) (d_callC C__law_row_with tk hr (by decide) (by exact rfl) (q_own 0 rfl (by first | exact .inl rfl | exact .inr (.inl rfl) | exact .inr (.inr rfl)) (q_cons (s_name 1 rfl (by first | exact .inl rfl | exact .inr (.inl rfl) | exact .inr (.inr rfl))) (q_cons (s_name 5 rfl (by first | exact .inl rfl | exact .inr (.inl rfl) | exact .inr (.inr rfl))) q_nil)))))
    (ss_cons (st_if (t_val (PEd.s (d_hide 4 (d_hide 0 (d_bor 6 (d_callC C__law_holds tk hr (by decide) (by exact rfl) (q_cons (s_name 6 rfl (by first | exact .inl rfl | exact .inr (.inl rfl) | exact .inr (.inr rfl))) (q_cons (s_name 3 rfl (by first | exact .inl rfl | exact .inr (.inl rfl) | exact .inr (.inr rfl))) q_nil))))))))
    (ss_cons (st_setLc (i := 7) rfl sc.nd rfl rfl (sw_true rfl rfl rfl rfl) (own := [("pair", 8)]) (blkOk_by (show blkC ["bag", "sizes", "every", "missed", "rows", "choice", "row", "fixed", "pair"] (defScope (top 32)) _ _ = true from by decide +kernel)) (i_any (s_name 5 rfl (by first | exact .inl rfl | exact .inr (.inl rfl) | exact .inr (.inr rfl)))) (fun _ _ _ _ _ => (go_name (by decide) sc.nd (i := 8) rfl (.inl rfl))) (fun _ _ _ _ _ => ts_nil) (fun _ _ _ _ _ => (PEs.d (s_ix (s_name 8 rfl (by first | exact .inl rfl | exact .inr (.inl rfl) | exact .inr (.inr rfl))) s_int (fun _ _ => rfl)))))
    (ss_one (st_for pw rfl (i_any (s_name 3 rfl (by first | exact .inl rfl | exact .inr (.inl rfl) | exact .inr (.inr rfl)))) (tg_name sc.nd (i := 8) rfl (by first | exact .inl rfl | exact .inr rfl))
    (ss_one (st_if (t_cmp (op_notInA hr.units) cmT_notIn (s_ix (s_name 8 rfl (by first | exact .inl rfl | exact .inr (.inl rfl) | exact .inr (.inr rfl))) s_int (fun _ _ => rfl)) (s_name 7 rfl (by first | exact .inl rfl | exact .inr (.inl rfl) | exact .inr (.inr rfl))) rfl)
    (ss_one (st_setIx (i := 6) rfl (by first | exact .inl rfl | exact .inr (.inl rfl) | exact .inr (.inr rfl)) (s_ix (s_name 8 rfl (by first | exact .inl rfl | exact .inr (.inl rfl) | exact .inr (.inr rfl))) s_int (fun _ _ => rfl)) (PEd.s (d_bin op_mod opT_mod (PEd.s (d_callTy call_int1 caT_int (by exact rfl) h.n_int Boot.«int» (as_cons (PEd.s (d_bin op_addA opT_add (s_ix (s_name 8 rfl (by first | exact .inl rfl | exact .inr (.inl rfl) | exact .inr (.inr rfl))) s_int (fun _ _ => rfl)) s_int)) as_nil))) (s_ix (s_name 1 rfl (by first | exact .inl rfl | exact .inr (.inl rfl) | exact .inr (.inr rfl))) (s_ix (s_name 8 rfl (by first | exact .inl rfl | exact .inr (.inl rfl) | exact .inr (.inr rfl))) s_int (fun _ _ => rfl)) (fun _ _ => rfl))))))
    ss_nil)))))
    ss_nil)
    (ss_one (st_app (i := 4) rfl (by first | exact .inl rfl | exact .inr (.inl rfl) | exact .inr (.inr rfl)) (PEs.d (PEd.s (d_callC C__law_kept_kind tk hr (by decide) (by exact rfl) (q_own 0 rfl (by first | exact .inl rfl | exact .inr (.inl rfl) | exact .inr (.inr rfl)) (q_cons (s_name 6 rfl (by first | exact .inl rfl | exact .inr (.inl rfl) | exact .inr (.inr rfl))) q_nil))))) (hbm := (fun h => ⟨_, pe_bm PySem.F.plainAttrs_list PySem.F.slot_list_append PySem.F.type_list_append mt_append (pv _) (pa_cons h pa_nil), rfl⟩))))))
    ss_nil)))
    (ss_one (st_ret (d_move 4 rfl (by first | exact .inl rfl | exact .inr (.inl rfl) | exact .inr (.inr rfl)))))))
theorem sc__law_is_choice : FnScope ["value", "strength", "pair"] ["value", "strength"] (defScope (top 33)) := ⟨rfl, rfl, rfl, by decide +kernel, rfl, by decide +kernel, by decide +kernel⟩
theorem C__law_is_choice (h : HW K mg base) : Cl Pw w K mg base "_law_is_choice" ["value", "strength"] 5 F__law_is_choice := by
  have C__law_integer := C__law_integer (w := w) h
  obtain ⟨fd, F⟩ := h.says.def_ 22
  have sc := sc__law_is_choice
  refine ⟨⟨fd, okF F sc rfl (fun cdv A outer s H E rt hr => ?_), F.bindsN fun _ _ _ _ _ _ us hl => match us, hl with | [_, _], _ => rfl⟩, h.g__law_is_choice, F.kp⟩
  have tk : L2.Takes (cxOf (L2.CX Pw w) Pw w K mg base ["value", "strength", "pair"] "_law_is_choice" (defScope (top 33)) (He.ga K "_law_is_choice") cdv A outer s H E) (WE0 E) := takes_of rfl rfl rfl rfl
  have pw : PassesOwn (model Pw w) (cxOf (L2.CX Pw w) Pw w K mg base ["value", "strength", "pair"] "_law_is_choice" (defScope (top 33)) (He.ga K "_law_is_choice") cdv A outer s H E).A (cxOf (L2.CX Pw w) Pw w K mg base ["value", "strength", "pair"] "_law_is_choice" (defScope (top 33)) (He.ga K "_law_is_choice") cdv A outer s H E).env (cxOf (L2.CX Pw w) Pw w K mg base ["value", "strength", "pair"] "_law_is_choice" (defScope (top 33)) (He.ga K "_law_is_choice") cdv A outer s H E).xe := passes_of rfl
  exact (ss_cons (st_if (PWd.t (w_or (t_not (t_val (s_is1 (by exact rfl) h.n_isinstance (s_name 0 rfl (.inl rfl)) (tyNm (by exact rfl) h.n_tuple Boot.«tuple»)))) (w_or1 (t_cmp (op_neP hr.units) cmT_ne (PEd.s (d_callB call_lenA caT_len (by exact rfl) h.n_len boot_len (as_cons (s_name 0 rfl (.inl rfl)) as_nil))) (s_name 1 rfl (.inl rfl)) (nomark _)))))
    (ss_one (st_ret (PEs.d s_bl)))
    ss_nil)
    (ss_cons (st_for pw rfl (i_any (s_name 0 rfl (.inl rfl))) (tg_name sc.nd (i := 2) rfl (.inl rfl))
    (ss_cons (st_if (PWd.t (w_or (t_not (t_val (s_is1 (by exact rfl) h.n_isinstance (s_name 2 rfl (.inl rfl)) (tyNm (by exact rfl) h.n_tuple Boot.«tuple»)))) (w_or1 (t_cmp (op_neP hr.units) cmT_ne (PEd.s (d_callB call_lenA caT_len (by exact rfl) h.n_len boot_len (as_cons (s_name 2 rfl (.inl rfl)) as_nil))) s_int (nomark _)))))
    (ss_one (st_ret (PEs.d s_bl)))
    ss_nil)
    (ss_one (st_if (PWd.t (w_or (t_not (t_val (PEd.s (d_callC C__law_integer tk hr (by decide) (by exact rfl) (q_cons (s_ix (s_name 2 rfl (.inl rfl)) s_int (fun _ _ => rfl)) q_nil))))) (w_or1 (t_not (t_val (PEd.s (d_callC C__law_integer tk hr (by decide) (by exact rfl) (q_cons (s_ix (s_name 2 rfl (.inl rfl)) s_int (fun _ _ => rfl)) q_nil))))))))
    (ss_one (st_ret (PEs.d s_bl)))
    ss_nil))))
    (ss_one (st_ret (PEs.d s_bl)))))
theorem sc__law_same_choices : FnScope ["told", "due", "strength", "k"] ["told", "due", "strength"] (defScope (top 34)) := ⟨rfl, rfl, rfl, by decide +kernel, rfl, by decide +kernel, by decide +kernel⟩
theorem C__law_same_choices (h : HW K mg base) : Cl Pw w K mg base "_law_same_choices" ["told", "due", "strength"] 7 F__law_same_choices := by
  have C__law_is_choice := C__law_is_choice (w := w) h
  obtain ⟨fd, F⟩ := h.says.def_ 23
  have sc := sc__law_same_choices
  refine ⟨⟨fd, okF F sc rfl (fun cdv A outer s H E rt hr => ?_), F.bindsN fun _ _ _ _ _ _ us hl => match us, hl with | [_, _, _], _ => rfl⟩, h.g__law_same_choices, F.kp⟩
  have tk : L2.Takes (cxOf (L2.CX Pw w) Pw w K mg base ["told", "due", "strength", "k"] "_law_same_choices" (defScope (top 34)) (He.ga K "_law_same_choices") cdv A outer s H E) (WE0 E) := takes_of rfl rfl rfl rfl
  have pw : PassesOwn (model Pw w) (cxOf (L2.CX Pw w) Pw w K mg base ["told", "due", "strength", "k"] "_law_same_choices" (defScope (top 34)) (He.ga K "_law_same_choices") cdv A outer s H E).A (cxOf (L2.CX Pw w) Pw w K mg base ["told", "due", "strength", "k"] "_law_same_choices" (defScope (top 34)) (He.ga K "_law_same_choices") cdv A outer s H E).env (cxOf (L2.CX Pw w) Pw w K mg base ["told", "due", "strength", "k"] "_law_same_choices" (defScope (top 34)) (He.ga K "_law_same_choices") cdv A outer s H E).xe := passes_of rfl
  exact (ss_cons (st_if (PWd.t (w_or (t_not (t_val (s_is1 (by exact rfl) h.n_isinstance (s_name 0 rfl (.inl rfl)) (tyNm (by exact rfl) h.n_list Boot.«list»)))) (w_or1 (t_cmp (op_neP hr.units) cmT_ne (PEd.s (d_callB call_lenA caT_len (by exact rfl) h.n_len boot_len (as_cons (s_name 0 rfl (.inl rfl)) as_nil))) (PEd.s (d_callB call_lenA caT_len (by exact rfl) h.n_len boot_len (as_cons (s_name 1 rfl (.inl rfl)) as_nil))) (nomark _)))))
    (ss_one (st_ret (PEs.d s_bl)))
    ss_nil)
    (ss_cons (st_for pw rfl (i_rng1 (by exact rfl) h.n_range (as_cons (PEd.s (d_callB call_lenA caT_len (by exact rfl) h.n_len boot_len (as_cons (s_name 1 rfl (.inl rfl)) as_nil))) as_nil)) (tg_name sc.nd (i := 3) rfl (.inl rfl))
    (ss_one (st_if (PWd.t (w_or (t_not (t_val (PEd.s (d_callC C__law_is_choice tk hr (by decide) (by exact rfl) (q_cons (s_ix (s_name 0 rfl (.inl rfl)) (s_name 3 rfl (.inl rfl)) (fun _ _ => rfl)) (q_cons (s_name 2 rfl (.inl rfl)) q_nil)))))) (w_or1 (t_cmp (op_neP hr.units) cmT_ne (s_ix (s_name 0 rfl (.inl rfl)) (s_name 3 rfl (.inl rfl)) (fun _ _ => rfl)) (s_ix (s_name 1 rfl (.inl rfl)) (s_name 3 rfl (.inl rfl)) (fun _ _ => rfl)) (nomark _)))))
    (ss_one (st_ret (PEs.d s_bl)))
    ss_nil)))
    (ss_one (st_ret (PEs.d s_bl)))))
theorem sc__law_told_choices : FnScope ["sizes", "strength", "every", "handed", "told"] ["sizes", "strength", "every"] (defScope (top 35)) := ⟨rfl, rfl, rfl, by decide +kernel, rfl, by decide +kernel, by decide +kernel⟩
theorem C__law_told_choices (h : HW K mg base) : Cl Pw w K mg base "_law_told_choices" ["sizes", "strength", "every"] 13 F__law_told_choices := by
  have C__law_same_choices := C__law_same_choices (w := w) h
  have C_choices := C_choices (w := w) h
  obtain ⟨fd, F⟩ := h.says.def_ 24
  have sc := sc__law_told_choices
  refine ⟨⟨fd, okF F sc rfl (fun cdv A outer s H E rt hr => ?_), F.bindsN fun _ _ _ _ _ _ us hl => match us, hl with | [_, _, _], _ => rfl⟩, h.g__law_told_choices, F.kp⟩
  have tk : L2.Takes (cxOf (L2.CX Pw w) Pw w K mg base ["sizes", "strength", "every", "handed", "told"] "_law_told_choices" (defScope (top 35)) (He.ga K "_law_told_choices") cdv A outer s H E) (WE0 E) := takes_of rfl rfl rfl rfl
  have pw : PassesOwn (model Pw w) (cxOf (L2.CX Pw w) Pw w K mg base ["sizes", "strength", "every", "handed", "told"] "_law_told_choices" (defScope (top 35)) (He.ga K "_law_told_choices") cdv A outer s H E).A (cxOf (L2.CX Pw w) Pw w K mg base ["sizes", "strength", "every", "handed", "told"] "_law_told_choices" (defScope (top 35)) (He.ga K "_law_told_choices") cdv A outer s H E).env (cxOf (L2.CX Pw w) Pw w K mg base ["sizes", "strength", "every", "handed", "told"] "_law_told_choices" (defScope (top 35)) (He.ga K "_law_told_choices") cdv A outer s H E).xe := passes_of rfl
  exact (ss_cons (st_set sc.nd (i := 3) rfl (.inl rfl) (d_callTy call_list_of caT_list (by exact rfl) h.n_list Boot.«list» (as_cons (s_name 0 rfl (.inl rfl)) as_nil)))
    (ss_cons (st_set sc.nd (i := 4) rfl (.inl rfl) (d_listG C_choices h.sx tk (hr.mono (by decide)) (by exact rfl) (as_cons (s_name 3 rfl (.inl rfl)) (as_cons (s_name 1 rfl (.inl rfl)) as_nil)) (by exact rfl) h.n_list Boot.«list»))
    (ss_one (st_ret (PEs.d (s_and (s_cmp (op_eqP hr.units) cmT_eq (s_name 3 rfl (.inl rfl)) (s_name 0 rfl (.inl rfl)) (nomark _)) (s_one (PEd.s (d_callC C__law_same_choices tk hr (by decide) (by exact rfl) (q_cons (s_name 4 rfl (.inl rfl)) (q_cons (s_name 2 rfl (.inl rfl)) (q_cons (s_name 1 rfl (.inl rfl)) q_nil))))))))))))
theorem sc__law_asked : FnScope ["sizes", "strength", "rows", "due", "handed_sizes", "handed", "row", "told", "said"] ["sizes", "strength", "rows", "due"] (defScope (top 36)) := ⟨rfl, rfl, rfl, by decide +kernel, rfl, by decide +kernel, by decide +kernel⟩
theorem C__law_asked (h : HW K mg base) : Cl Pw w K mg base "_law_asked" ["sizes", "strength", "rows", "due"] 13 F__law_asked := by
  have C__law_same_choices := C__law_same_choices (w := w) h
  have C_covers := C_covers (w := w) h
  have C_uncovered := C_uncovered (w := w) h
  obtain ⟨fd, F⟩ := h.says.def_ 25
  have sc := sc__law_asked
  refine ⟨⟨fd, okF F sc rfl (fun cdv A outer s H E rt hr => ?_), F.bindsN fun _ _ _ _ _ _ us hl => match us, hl with | [_, _, _, _], _ => rfl⟩, h.g__law_asked, F.kp⟩
  have tk : L2.Takes (cxOf (L2.CX Pw w) Pw w K mg base ["sizes", "strength", "rows", "due", "handed_sizes", "handed", "row", "told", "said"] "_law_asked" (defScope (top 36)) (He.ga K "_law_asked") cdv A outer s H E) (WE0 E) := takes_of rfl rfl rfl rfl
  have pw : PassesOwn (model Pw w) (cxOf (L2.CX Pw w) Pw w K mg base ["sizes", "strength", "rows", "due", "handed_sizes", "handed", "row", "told", "said"] "_law_asked" (defScope (top 36)) (He.ga K "_law_asked") cdv A outer s H E).A (cxOf (L2.CX Pw w) Pw w K mg base ["sizes", "strength", "rows", "due", "handed_sizes", "handed", "row", "told", "said"] "_law_asked" (defScope (top 36)) (He.ga K "_law_asked") cdv A outer s H E).env (cxOf (L2.CX Pw w) Pw w K mg base ["sizes", "strength", "rows", "due", "handed_sizes", "handed", "row", "told", "said"] "_law_asked" (defScope (top 36)) (He.ga K "_law_asked") cdv A outer s H E).xe := passes_of rfl
  exact (ss_cons (st_set sc.nd (i := 4) rfl (by first | exact .inl rfl | exact .inr rfl) (d_callTy call_list_of caT_list (by exact rfl) h.n_list Boot.«list» (as_cons (s_name 0 rfl (by first | exact .inl rfl | exact .inr (.inl rfl) | exact .inr (.inr rfl))) as_nil)))
    (ss_cons (st_setLc (i := 5) rfl sc.nd rfl rfl (sw_true rfl rfl rfl rfl) (own := [("row", 6)]) (blkOk_by (show blkC ["sizes", "strength", "rows", "due", "handed_sizes", "handed", "row", "told", "said"] (defScope (top 36)) _ _ = true from by decide +kernel)) (i_any (s_name 2 rfl (by first | exact .inl rfl | exact .inr (.inl rfl) | exact .inr (.inr rfl)))) (fun _ _ _ _ _ => (go_name (by decide) sc.nd (i := 6) rfl (.inl rfl))) (fun _ _ _ _ _ => ts_nil) (fun _ _ _ _ _ => (d_slice (s_name 6 rfl (by first | exact .inl rfl | exact .inr (.inl rfl) | exact .inr (.inr rfl))) o_none o_none)))
    (ss_cons (st_set sc.nd (i := 7) rfl (by first | exact .inl rfl | exact .inr rfl) (d_callC C_uncovered tk hr (by decide) (by exact rfl) (q_cons (s_name 4 rfl (by first | exact .inl rfl | exact .inr (.inl rfl) | exact .inr (.inr rfl))) (q_cons (s_name 1 rfl (by first | exact .inl rfl | exact .inr (.inl rfl) | exact .inr (.inr rfl))) (q_cons (s_name 5 rfl (by first | exact .inl rfl | exact .inr (.inl rfl) | exact .inr (.inr rfl))) q_nil)))))
    (ss_cons (st_if (t_not (t_val (PEd.s (d_callC C__law_same_choices tk hr (by decide) (by exact rfl) (q_cons (s_name 7 rfl (by first | exact .inl rfl | exact .inr (.inl rfl) | exact .inr (.inr rfl))) (q_cons (s_name 3 rfl (by first | exact .inl rfl | exact .inr (.inl rfl) | exact .inr (.inr rfl))) (q_cons (s_name 1 rfl (by first | exact .inl rfl | exact .inr (.inl rfl) | exact .inr (.inr rfl))) q_nil)))))))
    (ss_one (st_ret (PEs.d s_bl)))
    ss_nil)
    (ss_cons (st_set sc.nd (i := 8) rfl (by first | exact .inl rfl | exact .inr rfl) (d_callC C_covers tk hr (by decide) (by exact rfl) (q_cons (s_name 4 rfl (by first | exact .inl rfl | exact .inr (.inl rfl) | exact .inr (.inr rfl))) (q_cons (s_name 1 rfl (by first | exact .inl rfl | exact .inr (.inl rfl) | exact .inr (.inr rfl))) (q_cons (s_name 5 rfl (by first | exact .inl rfl | exact .inr (.inl rfl) | exact .inr (.inr rfl))) q_nil)))))
    (ss_cons (st_if (PWd.t (w_or (t_not (t_val (s_is1 (by exact rfl) h.n_isinstance (s_name 8 rfl (by first | exact .inl rfl | exact .inr (.inl rfl) | exact .inr (.inr rfl))) (tyNm (by exact rfl) h.n_bool Boot.«bool»)))) (w_or1 (t_cmp (op_neP hr.units) cmT_ne (s_name 8 rfl (by first | exact .inl rfl | exact .inr (.inl rfl) | exact .inr (.inr rfl))) (s_cmp (op_eqP hr.units) cmT_eq (PEd.s (d_callB call_lenA caT_len (by exact rfl) h.n_len boot_len (as_cons (s_name 3 rfl (by first | exact .inl rfl | exact .inr (.inl rfl) | exact .inr (.inr rfl))) as_nil))) s_int (nomark _)) (nomark _)))))
    (ss_one (st_ret (PEs.d s_bl)))
    ss_nil)
    (ss_one (st_ret (PEs.d (s_and (s_cmp (op_eqP hr.units) cmT_eq (s_name 4 rfl (by first | exact .inl rfl | exact .inr (.inl rfl) | exact .inr (.inr rfl))) (s_name 0 rfl (by first | exact .inl rfl | exact .inr (.inl rfl) | exact .inr (.inr rfl))) (nomark _)) (s_one (s_cmp (op_eqP hr.units) cmT_eq (s_name 5 rfl (by first | exact .inl rfl | exact .inr (.inl rfl) | exact .inr (.inr rfl))) (s_name 2 rfl (by first | exact .inl rfl | exact .inr (.inl rfl) | exact .inr (.inr rfl))) (nomark _)))))))))))))
theorem isTs_int_cases (v : D) : isTs [.int] v = none ∨ ∃ b, isTs [.int] v = some b := by
  cases isTs [.int] v <;> simp
theorem e_FXint (a : Addr) (dd : Option Addr) (c : Str) (hc : c ∈ errs) (v : D) : FX__law_integer a dd c [.v (.sh v)] = match intQ v with
  | some b => .ok (.sh (.bl b)) [.v (.sh v)]
  | none => .bad := by
  unfold FX__law_integer MX__law_integer
  rw [if_pos hc, e_runF]
  unfold intQ
  cases h : isTs [.int] v with
  | none => simp [h, nmS, M.ofO, endF]
  | some b =>
    cases b with
    | false => simp [h, nmS, M.ofO, endF, okO]
    | true =>
      cases h2 : isTs [.bool] v with
      | none => simp [h, h2, nmS, M.ofO, endF, okO]
      | some b2 => simp [h, h2, nmS, M.ofO, endF, okO, fNot]
theorem aS1 : askX_ValueError "InvalidSpace" = some true := by decide
theorem aS2 : askX_InvalidSpace "InvalidSpace" = some true := by decide
theorem aS3 : askX_InvalidCount "InvalidSpace" = some false := by decide
theorem aC0 : ¬("InvalidCount" : Str) = "InvalidSpace" := by decide
theorem aC1 : askX_ValueError "InvalidCount" = some true := by decide
theorem aC2 : askX_InvalidSpace "InvalidCount" = some false := by decide
theorem aC3 : askX_InvalidCount "InvalidCount" = some true := by decide
theorem e_FXfault (a : Addr) (dd : Option Addr) (c : Str) (ns : List Str) (ds : List D) : FX__law_fault a dd c [.v (.sh (.exn a dd c ns ds))] = match faultR c ns ds with
  | some t => .ok t [.v (.sh (.exn a dd c ns ds))]
  | none => .bad := by
  unfold FX__law_fault MX__law_fault
  rw [e_runF]
  by_cases h1 : c = "InvalidSpace"
  · subst h1
    rw [if_pos (by decide)]
    simp [faultR, mIsX, aS1, aS2, aS3, fTupD, sizeLine, D.tru]
  by_cases h2 : c = "InvalidCount"
  · subst h2
    rw [if_pos (by decide)]
    cases hl : (ns.zip ds).lookup ("count" : Str) with
    | none => simp [faultR, hl, mIsX, mXf, aC0, aC1, aC2, aC3, fTupD, sizeLine, D.tru, endF]
    | some v =>
      have e := e_FXint a dd "InvalidCount" (by decide) v
      cases hq : intQ v with
      | none =>
        rw [hq] at e
        simp [faultR, hl, hq, e, mIsX, mXf, aC0, aC1, aC2, aC3, fTupD, sizeLine, D.tru, T.d, endF]
      | some b =>
        rw [hq] at e
        cases b <;> simp [faultR, hl, hq, e, mIsX, mXf, aC0, aC1, aC2, aC3, fTupD, sizeLine, D.tru, T.d, endF]
  · have hc : c ∉ errs := by simp [errs, h1, h2]
    rw [if_neg hc]
    simp [faultR, h1, h2, mBad, endF]
theorem tq_fault (i : Nat) (a : Addr) (d : Option Addr) (x : Exn) (ρ : List Sl) (h : i < ρ.length) : mWipeO i ((mRet (mCall (FX__law_fault a d x.c) (qCons (mName i) qNil) [])) (ρ.set i (.v (.sh (.exn a d x.c x.ns x.ds))))) = faultS (ρ.set i .un) (faultR x.c x.ns x.ds) := by
  have e := e_FXfault a d x.c x.ns x.ds
  have g : (ρ.set i (.v (.sh (.exn a d x.c x.ns x.ds))))[i]? = some (.v (.sh (.exn a d x.c x.ns x.ds))) := by simp [h]
  cases hr : faultR x.c x.ns x.ds with
  | none =>
    rw [hr] at e
    simp [g, nmS, e, mWipeO, faultS]
  | some t =>
    rw [hr] at e
    simp [g, nmS, e, mWipeO, faultS]
theorem tq__law_outcome : ∀ (a : Addr) (d : Option Addr) (x : Exn) (ρ : List Sl), 6 < ρ.length → mWipeO 6 ((mRet (mCall (FX__law_fault a d x.c) (qCons (mName 6) qNil) [])) (ρ.set 6 (.v (.sh (.exn a d x.c x.ns x.ds))))) = mh__law_outcome x (ρ.set 6 .un) := tq_fault 6
theorem sc__law_outcome : FnScope ["door", "sizes", "strength", "rows", "handed", "row", "raised"] ["door", "sizes", "strength", "rows"] (defScope (top 38)) := ⟨rfl, rfl, rfl, by decide +kernel, rfl, by decide +kernel, by decide +kernel⟩
theorem C__law_outcome (h : HW K mg base) : Cl Pw w K mg base "_law_outcome" ["door", "sizes", "strength", "rows"] 13 F__law_outcome := by
  have CX__law_fault := CX__law_fault (w := w) h
  have C_choices := C_choices (w := w) h
  have C_covers := C_covers (w := w) h
  have C_uncovered := C_uncovered (w := w) h
  obtain ⟨fd, F⟩ := h.says.def_ 27
  have sc := sc__law_outcome
  refine ⟨⟨fd, okF F sc rfl (fun cdv A outer s H E rt hr => ?_), F.bindsN fun _ _ _ _ _ _ us hl => match us, hl with | [_, _, _, _], _ => rfl⟩, h.g__law_outcome, F.kp⟩
  have tk : L2.Takes (cxOf (L2.CX Pw w) Pw w K mg base ["door", "sizes", "strength", "rows", "handed", "row", "raised"] "_law_outcome" (defScope (top 38)) (He.ga K "_law_outcome") cdv A outer s H E) (WE0 E) := takes_of rfl rfl rfl rfl
  have pw : PassesOwn (model Pw w) (cxOf (L2.CX Pw w) Pw w K mg base ["door", "sizes", "strength", "rows", "handed", "row", "raised"] "_law_outcome" (defScope (top 38)) (He.ga K "_law_outcome") cdv A outer s H E).A (cxOf (L2.CX Pw w) Pw w K mg base ["door", "sizes", "strength", "rows", "handed", "row", "raised"] "_law_outcome" (defScope (top 38)) (He.ga K "_law_outcome") cdv A outer s H E).env (cxOf (L2.CX Pw w) Pw w K mg base ["door", "sizes", "strength", "rows", "handed", "row", "raised"] "_law_outcome" (defScope (top 38)) (He.ga K "_law_outcome") cdv A outer s H E).xe := passes_of rfl
  exact (ss_cons (st_setLc (i := 4) rfl sc.nd rfl rfl (sw_true rfl rfl rfl rfl) (own := [("row", 5)]) (blkOk_by (show blkC ["door", "sizes", "strength", "rows", "handed", "row", "raised"] (defScope (top 38)) _ _ = true from by decide +kernel)) (i_any (s_name 3 rfl (by first | exact .inl rfl | exact .inr (.inl rfl) | exact .inr (.inr rfl)))) (fun _ _ _ _ _ => (go_name (by decide) sc.nd (i := 5) rfl (.inl rfl))) (fun _ _ _ _ _ => ts_nil) (fun _ _ _ _ _ => (d_slice (s_name 5 rfl (by first | exact .inl rfl | exact .inr (.inl rfl) | exact .inr (.inr rfl))) o_none o_none)))
    (ss_cons (st_try (i := 6) rfl rfl sc.nd rfl rfl ⟨rfl, by decide, .inl h.g_TouchstoneError⟩ tk h.cat_TouchstoneError
    (fun W2 pn xe tk2 pw2 => (ss_cons (st_if (t_cmp (op_eqP hr.units) cmT_eq (s_name 0 rfl (by first | exact .inl rfl | exact .inr (.inl rfl) | exact .inr (.inr rfl))) s_int (nomark _))
    (ss_one (st_expr (d_listG C_choices h.sx tk2 (hr.mono (by decide)) (by exact rfl) (as_cons (PEd.s (d_callTy call_list_of caT_list (by exact rfl) h.n_list Boot.«list» (as_cons (s_name 1 rfl (by first | exact .inl rfl | exact .inr (.inl rfl) | exact .inr (.inr rfl))) as_nil))) (as_cons (s_name 2 rfl (by first | exact .inl rfl | exact .inr (.inl rfl) | exact .inr (.inr rfl))) as_nil)) (by exact rfl) h.n_list Boot.«list»)))
    ss_nil)
    (ss_cons (st_if (t_cmp (op_eqP hr.units) cmT_eq (s_name 0 rfl (by first | exact .inl rfl | exact .inr (.inl rfl) | exact .inr (.inr rfl))) s_int (nomark _))
    (ss_one (st_expr (d_callC C_uncovered tk2 hr (by decide) (by exact rfl) (q_cons (PEd.s (d_callTy call_list_of caT_list (by exact rfl) h.n_list Boot.«list» (as_cons (s_name 1 rfl (by first | exact .inl rfl | exact .inr (.inl rfl) | exact .inr (.inr rfl))) as_nil))) (q_cons (s_name 2 rfl (by first | exact .inl rfl | exact .inr (.inl rfl) | exact .inr (.inr rfl))) (q_cons (s_name 4 rfl (by first | exact .inl rfl | exact .inr (.inl rfl) | exact .inr (.inr rfl))) q_nil))))))
    ss_nil)
    (ss_one (st_if (t_cmp (op_eqP hr.units) cmT_eq (s_name 0 rfl (by first | exact .inl rfl | exact .inr (.inl rfl) | exact .inr (.inr rfl))) s_int (nomark _))
    (ss_one (st_expr (d_callC C_covers tk2 hr (by decide) (by exact rfl) (q_cons (PEd.s (d_callTy call_list_of caT_list (by exact rfl) h.n_list Boot.«list» (as_cons (s_name 1 rfl (by first | exact .inl rfl | exact .inr (.inl rfl) | exact .inr (.inr rfl))) as_nil))) (q_cons (s_name 2 rfl (by first | exact .inl rfl | exact .inr (.inl rfl) | exact .inr (.inr rfl))) (q_cons (s_name 4 rfl (by first | exact .inl rfl | exact .inr (.inl rfl) | exact .inr (.inr rfl))) q_nil))))))
    ss_nil)))))
    (fun a oe c dd pn hz hv => have hE := hotE_suite hz hv; have hrH := L2H.roomH_mark hr _; (ss_one (st_ret (d_callXC CX__law_fault hE PD.takes0 hrH (by decide) rfl (q_cons (s_name 6 rfl (by first | exact .inl rfl | exact .inr (.inl rfl) | exact .inr (.inr rfl))) q_nil))))) tq__law_outcome)
    (ss_one (st_ret (d_tup (as_cons s_str (as_cons s_int as_nil)))))))
theorem sc__law_bad_sizes : FnScope ["bag", "sizes", "way", "at", "far", "wrong"] ["bag", "sizes"] (defScope (top 39)) := ⟨rfl, rfl, rfl, by decide +kernel, rfl, by decide +kernel, by decide +kernel⟩
theorem C__law_bad_sizes (h : HW K mg base) : Cl Pw w K mg base "_law_bad_sizes" ["bag", "sizes"] 5 F__law_bad_sizes := by
  have C__law_take := C__law_take (w := w) h
  obtain ⟨fd, F⟩ := h.says.def_ 28
  have sc := sc__law_bad_sizes
  refine ⟨⟨fd, okF F sc rfl (fun cdv A outer s H E rt hr => ?_), F.bindsN fun _ _ _ _ _ _ us hl => match us, hl with | [_, _], _ => rfl⟩, h.g__law_bad_sizes, F.kp⟩
  have tk : L2.Takes (cxOf (L2.CX Pw w) Pw w K mg base ["bag", "sizes", "way", "at", "far", "wrong"] "_law_bad_sizes" (defScope (top 39)) (He.ga K "_law_bad_sizes") cdv A outer s H E) (WE0 E) := takes_of rfl rfl rfl rfl
  have pw : PassesOwn (model Pw w) (cxOf (L2.CX Pw w) Pw w K mg base ["bag", "sizes", "way", "at", "far", "wrong"] "_law_bad_sizes" (defScope (top 39)) (He.ga K "_law_bad_sizes") cdv A outer s H E).A (cxOf (L2.CX Pw w) Pw w K mg base ["bag", "sizes", "way", "at", "far", "wrong"] "_law_bad_sizes" (defScope (top 39)) (He.ga K "_law_bad_sizes") cdv A outer s H E).env (cxOf (L2.CX Pw w) Pw w K mg base ["bag", "sizes", "way", "at", "far", "wrong"] "_law_bad_sizes" (defScope (top 39)) (He.ga K "_law_bad_sizes") cdv A outer s H E).xe := passes_of rfl
  exact (ss_cons (st_set sc.nd (i := 2) rfl (.inl rfl) (d_callC C__law_take tk hr (by decide) (by exact rfl) (q_own 0 rfl (.inl rfl) (q_cons s_int q_nil))))
    (ss_cons (st_if (t_cmp (op_eqP hr.units) cmT_eq (s_name 2 rfl (.inl rfl)) s_int (nomark _))
    (ss_one (st_ret (d_lst as_nil)))
    ss_nil)
    (ss_cons (st_if (t_cmp (op_eqP hr.units) cmT_eq (s_name 2 rfl (.inl rfl)) s_int (nomark _))
    (ss_one (st_ret (d_slice (PEd.s (d_bin op_mulA opT_mul (s_name 1 rfl (.inl rfl)) s_int)) o_none (o_some s_int))))
    ss_nil)
    (ss_cons (st_set sc.nd (i := 3) rfl (.inl rfl) (d_callC C__law_take tk hr (by decide) (by exact rfl) (q_own 0 rfl (.inl rfl) (q_cons (PEd.s (d_callB call_lenA caT_len (by exact rfl) h.n_len boot_len (as_cons (s_name 1 rfl (.inl rfl)) as_nil))) q_nil))))
    (ss_cons (st_set sc.nd (i := 4) rfl (.inl rfl) (d_callC C__law_take tk hr (by decide) (by exact rfl) (q_own 0 rfl (.inl rfl) (q_cons s_int q_nil))))
    (ss_cons (st_set sc.nd (i := 5) rfl (.inl rfl) (d_lst (as_cons s_int (as_cons s_int (as_cons s_int (as_cons (PEd.s (d_bin op_addA opT_add s_int (s_name 4 rfl (.inl rfl)))) (as_cons (PEd.s (d_bin op_sub opT_sub s_int (s_name 4 rfl (.inl rfl)))) as_nil)))))))
    (ss_one (st_ret (d_bin op_addA opT_add (PEd.s (d_bin op_addA opT_add (PEd.s (d_slice (s_name 1 rfl (.inl rfl)) o_none (o_some (s_name 3 rfl (.inl rfl))))) (PEd.s (d_lst (as_cons (s_ix (s_name 5 rfl (.inl rfl)) (PEd.s (d_bin op_sub opT_sub (s_name 2 rfl (.inl rfl)) s_int)) (fun _ _ => rfl)) as_nil))))) (PEd.s (d_slice (s_name 1 rfl (.inl rfl)) (o_some (PEd.s (d_bin op_addA opT_add (s_name 3 rfl (.inl rfl)) s_int))) o_none)))))))))))
theorem sc__law_bad_strength : FnScope ["bag", "sizes", "way", "far", "wrong"] ["bag", "sizes"] (defScope (top 40)) := ⟨rfl, rfl, rfl, by decide +kernel, rfl, by decide +kernel, by decide +kernel⟩
theorem C__law_bad_strength (h : HW K mg base) : Cl Pw w K mg base "_law_bad_strength" ["bag", "sizes"] 5 F__law_bad_strength := by
  have C__law_take := C__law_take (w := w) h
  obtain ⟨fd, F⟩ := h.says.def_ 29
  have sc := sc__law_bad_strength
  refine ⟨⟨fd, okF F sc rfl (fun cdv A outer s H E rt hr => ?_), F.bindsN fun _ _ _ _ _ _ us hl => match us, hl with | [_, _], _ => rfl⟩, h.g__law_bad_strength, F.kp⟩
  have tk : L2.Takes (cxOf (L2.CX Pw w) Pw w K mg base ["bag", "sizes", "way", "far", "wrong"] "_law_bad_strength" (defScope (top 40)) (He.ga K "_law_bad_strength") cdv A outer s H E) (WE0 E) := takes_of rfl rfl rfl rfl
  have pw : PassesOwn (model Pw w) (cxOf (L2.CX Pw w) Pw w K mg base ["bag", "sizes", "way", "far", "wrong"] "_law_bad_strength" (defScope (top 40)) (He.ga K "_law_bad_strength") cdv A outer s H E).A (cxOf (L2.CX Pw w) Pw w K mg base ["bag", "sizes", "way", "far", "wrong"] "_law_bad_strength" (defScope (top 40)) (He.ga K "_law_bad_strength") cdv A outer s H E).env (cxOf (L2.CX Pw w) Pw w K mg base ["bag", "sizes", "way", "far", "wrong"] "_law_bad_strength" (defScope (top 40)) (He.ga K "_law_bad_strength") cdv A outer s H E).xe := passes_of rfl
  exact (ss_cons (st_set sc.nd (i := 2) rfl (.inl rfl) (d_callC C__law_take tk hr (by decide) (by exact rfl) (q_own 0 rfl (.inl rfl) (q_cons s_int q_nil))))
    (ss_cons (st_set sc.nd (i := 3) rfl (.inl rfl) (d_callC C__law_take tk hr (by decide) (by exact rfl) (q_own 0 rfl (.inl rfl) (q_cons s_int q_nil))))
    (ss_cons (st_set sc.nd (i := 4) rfl (.inl rfl) (d_lst (as_cons s_int (as_cons (PEd.s (d_bin op_addA opT_add (PEd.s (d_callB (call_minA rfl) caT_min (by exact rfl) h.n_min Boot.«min» (as_cons s_int (as_cons (PEd.s (d_callB call_lenA caT_len (by exact rfl) h.n_len boot_len (as_cons (s_name 1 rfl (.inl rfl)) as_nil))) as_nil)))) s_int)) (as_cons (PEd.s (d_bin op_sub opT_sub (PEd.s (d_bin op_sub opT_sub s_int s_int)) (s_name 3 rfl (.inl rfl)))) (as_cons (PEd.s (d_bin op_addA opT_add s_int (s_name 3 rfl (.inl rfl)))) as_nil))))))
    (ss_one (st_ret (PEs.d (s_ix (s_name 4 rfl (.inl rfl)) (s_name 2 rfl (.inl rfl)) (fun _ _ => rfl))))))))
theorem sc__law_bad_row : FnScope ["bag", "sizes", "way", "at", "far", "row", "wrong"] ["bag", "sizes"] (defScope (top 41)) := ⟨rfl, rfl, rfl, by decide +kernel, rfl, by decide +kernel, by decide +kernel⟩
theorem C__law_bad_row (h : HW K mg base) : Cl Pw w K mg base "_law_bad_row" ["bag", "sizes"] 7 F__law_bad_row := by
  have C__law_kept_kind := C__law_kept_kind (w := w) h
  have C__law_row_with := C__law_row_with (w := w) h
  have C__law_take := C__law_take (w := w) h
  obtain ⟨fd, F⟩ := h.says.def_ 30
  have sc := sc__law_bad_row
  refine ⟨⟨fd, okF F sc rfl (fun cdv A outer s H E rt hr => ?_), F.bindsN fun _ _ _ _ _ _ us hl => match us, hl with | [_, _], _ => rfl⟩, h.g__law_bad_row, F.kp⟩
  have tk : L2.Takes (cxOf (L2.CX Pw w) Pw w K mg base ["bag", "sizes", "way", "at", "far", "row", "wrong"] "_law_bad_row" (defScope (top 41)) (He.ga K "_law_bad_row") cdv A outer s H E) (WE0 E) := takes_of rfl rfl rfl rfl
  have pw : PassesOwn (model Pw w) (cxOf (L2.CX Pw w) Pw w K mg base ["bag", "sizes", "way", "at", "far", "row", "wrong"] "_law_bad_row" (defScope (top 41)) (He.ga K "_law_bad_row") cdv A outer s H E).A (cxOf (L2.CX Pw w) Pw w K mg base ["bag", "sizes", "way", "at", "far", "row", "wrong"] "_law_bad_row" (defScope (top 41)) (He.ga K "_law_bad_row") cdv A outer s H E).env (cxOf (L2.CX Pw w) Pw w K mg base ["bag", "sizes", "way", "at", "far", "row", "wrong"] "_law_bad_row" (defScope (top 41)) (He.ga K "_law_bad_row") cdv A outer s H E).xe := passes_of rfl
  exact (ss_cons (st_set sc.nd (i := 2) rfl (.inl rfl) (d_callC C__law_take tk hr (by decide) (by exact rfl) (q_own 0 rfl (.inl rfl) (q_cons s_int q_nil))))
    (ss_cons (st_set sc.nd (i := 3) rfl (.inl rfl) (d_callC C__law_take tk hr (by decide) (by exact rfl) (q_own 0 rfl (.inl rfl) (q_cons (PEd.s (d_callB call_lenA caT_len (by exact rfl) h.n_len boot_len (as_cons (s_name 1 rfl (.inl rfl)) as_nil))) q_nil))))
    (ss_cons (st_set sc.nd (i := 4) rfl (.inl rfl) (d_callC C__law_take tk hr (by decide) (by exact rfl) (q_own 0 rfl (.inl rfl) (q_cons s_int q_nil))))
    (ss_cons (st_set sc.nd (i := 5) rfl (.inl rfl) (d_callC C__law_row_with tk hr (by decide) (by exact rfl) (q_own 0 rfl (.inl rfl) (q_cons (s_name 1 rfl (.inl rfl)) (q_cons (PEd.s (d_tup as_nil)) q_nil)))))
    (ss_cons (st_if (t_cmp (op_eqP hr.units) cmT_eq (s_name 2 rfl (.inl rfl)) s_int (nomark _))
    (ss_one (st_ret (d_callC C__law_kept_kind tk hr (by decide) (by exact rfl) (q_own 0 rfl (.inl rfl) (q_cons (PEd.s (d_bin op_addA opT_add (PEd.s (d_slice (s_name 5 rfl (.inl rfl)) o_none (o_some (s_name 3 rfl (.inl rfl))))) (PEd.s (d_slice (s_name 5 rfl (.inl rfl)) (o_some (PEd.s (d_bin op_addA opT_add (s_name 3 rfl (.inl rfl)) s_int))) o_none)))) q_nil)))))
    ss_nil)
    (ss_cons (st_if (t_cmp (op_eqP hr.units) cmT_eq (s_name 2 rfl (.inl rfl)) s_int (nomark _))
    (ss_one (st_ret (d_callC C__law_kept_kind tk hr (by decide) (by exact rfl) (q_own 0 rfl (.inl rfl) (q_cons (PEd.s (d_bin op_addA opT_add (PEd.s (d_bin op_addA opT_add (PEd.s (d_slice (s_name 5 rfl (.inl rfl)) o_none (o_some (s_name 3 rfl (.inl rfl))))) (PEd.s (d_lst (as_cons s_int as_nil))))) (PEd.s (d_slice (s_name 5 rfl (.inl rfl)) (o_some (s_name 3 rfl (.inl rfl))) o_none)))) q_nil)))))
    ss_nil)
    (ss_cons (st_set sc.nd (i := 6) rfl (.inl rfl) (d_lst (as_cons (s_ix (s_name 1 rfl (.inl rfl)) (s_name 3 rfl (.inl rfl)) (fun _ _ => rfl)) (as_cons (PEd.s (d_bin op_addA opT_add (s_ix (s_name 1 rfl (.inl rfl)) (s_name 3 rfl (.inl rfl)) (fun _ _ => rfl)) (s_name 4 rfl (.inl rfl)))) (as_cons (PEd.s (d_bin op_sub opT_sub s_int s_int)) (as_cons (PEd.s (d_bin op_sub opT_sub (PEd.s (d_bin op_sub opT_sub s_int s_int)) (s_name 4 rfl (.inl rfl)))) as_nil))))))
    (ss_cons (st_setIx (i := 5) rfl (.inl rfl) (s_name 3 rfl (.inl rfl)) (s_ix (s_name 6 rfl (.inl rfl)) (PEd.s (d_bin op_sub opT_sub (s_name 2 rfl (.inl rfl)) s_int)) (fun _ _ => rfl)))
    (ss_one (st_ret (d_callC C__law_kept_kind tk hr (by decide) (by exact rfl) (q_own 0 rfl (.inl rfl) (q_cons (s_name 5 rfl (.inl rfl)) q_nil)))))))))))))
theorem sc__law_refusals : FnScope ["bag", "sizes", "strength", "rows", "wrong_sizes", "wrong_strength", "at", "wrong_rows", "some_strength", "some_rows", "edge", "size", "good_rows", "door", "wanted"] ["bag", "sizes", "strength", "rows"] (defScope (top 42)) := ⟨rfl, rfl, rfl, by decide +kernel, rfl, by decide +kernel, by decide +kernel⟩
theorem C__law_refusals (h : HW K mg base) : Cl Pw w K mg base "_law_refusals" ["bag", "sizes", "strength", "rows"] 15 F__law_refusals := by
  have C__law_bad_row := C__law_bad_row (w := w) h
  have C__law_bad_sizes := C__law_bad_sizes (w := w) h
  have C__law_bad_strength := C__law_bad_strength (w := w) h
  have C__law_outcome := C__law_outcome (w := w) h
  have C__law_take := C__law_take (w := w) h
  obtain ⟨fd, F⟩ := h.says.def_ 31
  have sc := sc__law_refusals
  refine ⟨⟨fd, okF F sc rfl (fun cdv A outer s H E rt hr => ?_), F.bindsN fun _ _ _ _ _ _ us hl => match us, hl with | [_, _, _, _], _ => rfl⟩, h.g__law_refusals, F.kp⟩
  have tk : L2.Takes (cxOf (L2.CX Pw w) Pw w K mg base ["bag", "sizes", "strength", "rows", "wrong_sizes", "wrong_strength", "at", "wrong_rows", "some_strength", "some_rows", "edge", "size", "good_rows", "door", "wanted"] "_law_refusals" (defScope (top 42)) (He.ga K "_law_refusals") cdv A outer s H E) (WE0 E) := takes_of rfl rfl rfl rfl
  have pw : PassesOwn (model Pw w) (cxOf (L2.CX Pw w) Pw w K mg base ["bag", "sizes", "strength", "rows", "wrong_sizes", "wrong_strength", "at", "wrong_rows", "some_strength", "some_rows", "edge", "size", "good_rows", "door", "wanted"] "_law_refusals" (defScope (top 42)) (He.ga K "_law_refusals") cdv A outer s H E).A (cxOf (L2.CX Pw w) Pw w K mg base ["bag", "sizes", "strength", "rows", "wrong_sizes", "wrong_strength", "at", "wrong_rows", "some_strength", "some_rows", "edge", "size", "good_rows", "door", "wanted"] "_law_refusals" (defScope (top 42)) (He.ga K "_law_refusals") cdv A outer s H E).env (cxOf (L2.CX Pw w) Pw w K mg base ["bag", "sizes", "strength", "rows", "wrong_sizes", "wrong_strength", "at", "wrong_rows", "some_strength", "some_rows", "edge", "size", "good_rows", "door", "wanted"] "_law_refusals" (defScope (top 42)) (He.ga K "_law_refusals") cdv A outer s H E).xe := passes_of rfl
  exact (ss_cons (st_set sc.nd (i := 4) rfl (by first | exact .inl rfl | exact .inr rfl) (d_callC C__law_bad_sizes tk hr (by decide) (by exact rfl) (q_own 0 rfl (by first | exact .inl rfl | exact .inr (.inl rfl) | exact .inr (.inr rfl)) (q_cons (s_name 1 rfl (by first | exact .inl rfl | exact .inr (.inl rfl) | exact .inr (.inr rfl))) q_nil))))
    (ss_cons (st_set sc.nd (i := 5) rfl (by first | exact .inl rfl | exact .inr rfl) (d_callC C__law_bad_strength tk hr (by decide) (by exact rfl) (q_own 0 rfl (by first | exact .inl rfl | exact .inr (.inl rfl) | exact .inr (.inr rfl)) (q_cons (s_name 1 rfl (by first | exact .inl rfl | exact .inr (.inl rfl) | exact .inr (.inr rfl))) q_nil))))
    (ss_cons (st_set sc.nd (i := 6) rfl (by first | exact .inl rfl | exact .inr rfl) (d_callC C__law_take tk hr (by decide) (by exact rfl) (q_own 0 rfl (by first | exact .inl rfl | exact .inr (.inl rfl) | exact .inr (.inr rfl)) (q_cons (PEd.s (d_bin op_addA opT_add (PEd.s (d_callB call_lenA caT_len (by exact rfl) h.n_len boot_len (as_cons (s_name 3 rfl (by first | exact .inl rfl | exact .inr (.inl rfl) | exact .inr (.inr rfl))) as_nil))) s_int)) q_nil))))
    (ss_cons (st_set sc.nd (i := 7) rfl (by first | exact .inl rfl | exact .inr rfl) (d_bin op_addA opT_add (PEd.s (d_bin op_addA opT_add (PEd.s (d_slice (s_name 3 rfl (by first | exact .inl rfl | exact .inr (.inl rfl) | exact .inr (.inr rfl))) o_none (o_some (s_name 6 rfl (by first | exact .inl rfl | exact .inr (.inl rfl) | exact .inr (.inr rfl)))))) (PEd.s (d_lst (as_cons (PEd.s (d_callC C__law_bad_row tk hr (by decide) (by exact rfl) (q_own 0 rfl (by first | exact .inl rfl | exact .inr (.inl rfl) | exact .inr (.inr rfl)) (q_cons (s_name 1 rfl (by first | exact .inl rfl | exact .inr (.inl rfl) | exact .inr (.inr rfl))) q_nil)))) as_nil))))) (PEd.s (d_slice (s_name 3 rfl (by first | exact .inl rfl | exact .inr (.inl rfl) | exact .inr (.inr rfl))) (o_some (s_name 6 rfl (by first | exact .inl rfl | exact .inr (.inl rfl) | exact .inr (.inr rfl)))) o_none))))
    (ss_cons (st_set sc.nd (i := 8) rfl (by first | exact .inl rfl | exact .inr rfl) (PEs.d (s_ix (PEd.s (d_lst (as_cons (s_name 2 rfl (by first | exact .inl rfl | exact .inr (.inl rfl) | exact .inr (.inr rfl))) (as_cons (s_name 5 rfl (by first | exact .inl rfl | exact .inr (.inl rfl) | exact .inr (.inr rfl))) as_nil)))) (PEd.s (d_callC C__law_take tk hr (by decide) (by exact rfl) (q_own 0 rfl (by first | exact .inl rfl | exact .inr (.inl rfl) | exact .inr (.inr rfl)) (q_cons s_int q_nil)))) (fun _ _ => rfl))))
    (ss_cons (st_set sc.nd (i := 9) rfl (by first | exact .inl rfl | exact .inr rfl) (PEs.d (s_ix (PEd.s (d_lst (as_cons (s_name 3 rfl (by first | exact .inl rfl | exact .inr (.inl rfl) | exact .inr (.inr rfl))) (as_cons (s_name 7 rfl (by first | exact .inl rfl | exact .inr (.inl rfl) | exact .inr (.inr rfl))) as_nil)))) (PEd.s (d_callC C__law_take tk hr (by decide) (by exact rfl) (q_own 0 rfl (by first | exact .inl rfl | exact .inr (.inl rfl) | exact .inr (.inr rfl)) (q_cons s_int q_nil)))) (fun _ _ => rfl))))
    (ss_cons (st_set sc.nd (i := 10) rfl (by first | exact .inl rfl | exact .inr rfl) (d_callTy call_tuple_of caT_tuple (by exact rfl) h.n_tuple Boot.«tuple» (as_cons (PEd.s (d_lc rfl sc.nd (own := [("size", 11)]) (blkOk_by (show blkC ["bag", "sizes", "strength", "rows", "wrong_sizes", "wrong_strength", "at", "wrong_rows", "some_strength", "some_rows", "edge", "size", "good_rows", "door", "wanted"] (defScope (top 42)) _ _ = true from by decide +kernel)) (i_any (s_name 1 rfl (by first | exact .inl rfl | exact .inr (.inl rfl) | exact .inr (.inr rfl)))) (fun _ _ _ _ _ => (go_name (by decide) sc.nd (i := 11) rfl (.inl rfl))) (fun _ _ _ _ _ => ts_nil) (fun _ _ _ _ _ => (d_bin op_sub opT_sub (s_name 11 rfl (by first | exact .inl rfl | exact .inr (.inl rfl) | exact .inr (.inr rfl))) s_int)))) as_nil)))
    (ss_cons (st_set sc.nd (i := 12) rfl (by first | exact .inl rfl | exact .inr rfl) (d_bin op_addA opT_add (PEd.s (d_bin op_addA opT_add (PEd.s (d_slice (s_name 3 rfl (by first | exact .inl rfl | exact .inr (.inl rfl) | exact .inr (.inr rfl))) o_none (o_some (s_name 6 rfl (by first | exact .inl rfl | exact .inr (.inl rfl) | exact .inr (.inr rfl)))))) (PEd.s (d_lst (as_cons (s_name 10 rfl (by first | exact .inl rfl | exact .inr (.inl rfl) | exact .inr (.inr rfl))) as_nil))))) (PEd.s (d_slice (s_name 3 rfl (by first | exact .inl rfl | exact .inr (.inl rfl) | exact .inr (.inr rfl))) (o_some (s_name 6 rfl (by first | exact .inl rfl | exact .inr (.inl rfl) | exact .inr (.inr rfl)))) o_none))))
    (ss_cons (st_for pw rfl (i_rng1 (by exact rfl) h.n_range (as_cons s_int as_nil)) (tg_name sc.nd (i := 13) rfl (by first | exact .inl rfl | exact .inr rfl))
    (ss_cons (st_if (t_cmp (op_neP hr.units) cmT_ne (PEd.s (d_callC C__law_outcome tk hr (by decide) (by exact rfl) (q_cons (s_name 13 rfl (by first | exact .inl rfl | exact .inr (.inl rfl) | exact .inr (.inr rfl))) (q_cons (s_name 4 rfl (by first | exact .inl rfl | exact .inr (.inl rfl) | exact .inr (.inr rfl))) (q_cons (s_name 8 rfl (by first | exact .inl rfl | exact .inr (.inl rfl) | exact .inr (.inr rfl))) (q_cons (s_name 9 rfl (by first | exact .inl rfl | exact .inr (.inl rfl) | exact .inr (.inr rfl))) q_nil)))))) (PEd.s (d_tup (as_cons s_str (as_cons s_int as_nil)))) (nomark _))
    (ss_one (st_ret (PEs.d s_bl)))
    ss_nil)
    (ss_cons (st_if (t_cmp (op_neP hr.units) cmT_ne (PEd.s (d_callC C__law_outcome tk hr (by decide) (by exact rfl) (q_cons (s_name 13 rfl (by first | exact .inl rfl | exact .inr (.inl rfl) | exact .inr (.inr rfl))) (q_cons (s_name 1 rfl (by first | exact .inl rfl | exact .inr (.inl rfl) | exact .inr (.inr rfl))) (q_cons (s_name 5 rfl (by first | exact .inl rfl | exact .inr (.inl rfl) | exact .inr (.inr rfl))) (q_cons (s_name 9 rfl (by first | exact .inl rfl | exact .inr (.inl rfl) | exact .inr (.inr rfl))) q_nil)))))) (PEd.s (d_tup (as_cons s_str (as_cons (s_name 5 rfl (by first | exact .inl rfl | exact .inr (.inl rfl) | exact .inr (.inr rfl))) as_nil)))) (nomark _))
    (ss_one (st_ret (PEs.d s_bl)))
    ss_nil)
    (ss_cons (st_set sc.nd (i := 14) rfl (by first | exact .inl rfl | exact .inr rfl) (d_tup (as_cons s_str (as_cons s_int as_nil))))
    (ss_cons (st_if (t_cmp (op_eqP hr.units) cmT_eq (s_name 13 rfl (by first | exact .inl rfl | exact .inr (.inl rfl) | exact .inr (.inr rfl))) s_int (nomark _))
    (ss_one (st_set sc.nd (i := 14) rfl (by first | exact .inl rfl | exact .inr rfl) (d_tup (as_cons s_str (as_cons s_int as_nil)))))
    ss_nil)
    (ss_cons (st_if (t_cmp (op_neP hr.units) cmT_ne (PEd.s (d_callC C__law_outcome tk hr (by decide) (by exact rfl) (q_cons (s_name 13 rfl (by first | exact .inl rfl | exact .inr (.inl rfl) | exact .inr (.inr rfl))) (q_cons (s_name 1 rfl (by first | exact .inl rfl | exact .inr (.inl rfl) | exact .inr (.inr rfl))) (q_cons (s_name 2 rfl (by first | exact .inl rfl | exact .inr (.inl rfl) | exact .inr (.inr rfl))) (q_cons (s_name 7 rfl (by first | exact .inl rfl | exact .inr (.inl rfl) | exact .inr (.inr rfl))) q_nil)))))) (s_name 14 rfl (by first | exact .inl rfl | exact .inr (.inl rfl) | exact .inr (.inr rfl))) (nomark _))
    (ss_one (st_ret (PEs.d s_bl)))
    ss_nil)
    (ss_cons (st_if (t_cmp (op_neP hr.units) cmT_ne (PEd.s (d_callC C__law_outcome tk hr (by decide) (by exact rfl) (q_cons (s_name 13 rfl (by first | exact .inl rfl | exact .inr (.inl rfl) | exact .inr (.inr rfl))) (q_cons (s_name 1 rfl (by first | exact .inl rfl | exact .inr (.inl rfl) | exact .inr (.inr rfl))) (q_cons (s_name 2 rfl (by first | exact .inl rfl | exact .inr (.inl rfl) | exact .inr (.inr rfl))) (q_cons (s_name 12 rfl (by first | exact .inl rfl | exact .inr (.inl rfl) | exact .inr (.inr rfl))) q_nil)))))) (PEd.s (d_tup (as_cons s_str (as_cons s_int as_nil)))) (nomark _))
    (ss_one (st_ret (PEs.d s_bl)))
    ss_nil)
    (ss_one (st_if (t_cmp (op_neP hr.units) cmT_ne (PEd.s (d_callC C__law_outcome tk hr (by decide) (by exact rfl) (q_cons (s_name 13 rfl (by first | exact .inl rfl | exact .inr (.inl rfl) | exact .inr (.inr rfl))) (q_cons (s_name 1 rfl (by first | exact .inl rfl | exact .inr (.inl rfl) | exact .inr (.inr rfl))) (q_cons (PEd.s (d_callB (call_minA rfl) caT_min (by exact rfl) h.n_min Boot.«min» (as_cons s_int (as_cons (PEd.s (d_callB call_lenA caT_len (by exact rfl) h.n_len boot_len (as_cons (s_name 1 rfl (by first | exact .inl rfl | exact .inr (.inl rfl) | exact .inr (.inr rfl))) as_nil))) as_nil)))) (q_cons (s_name 12 rfl (by first | exact .inl rfl | exact .inr (.inl rfl) | exact .inr (.inr rfl))) q_nil)))))) (PEd.s (d_tup (as_cons s_str (as_cons s_int as_nil)))) (nomark _))
    (ss_one (st_ret (PEs.d s_bl)))
    ss_nil)))))))))
    (ss_one (st_ret (PEs.d s_bl))))))))))))
theorem sc_law : FnScope ["script", "bag", "near", "sizes", "strength", "every", "missed", "rows", "due", "chosen", "more", "at", "choice"] ["script"] (defScope (top 43)) := ⟨rfl, rfl, rfl, by decide +kernel, rfl, by decide +kernel, by decide +kernel⟩
theorem O_law (h : HW K mg base) {fd : FuncData} (F : FunD K "law" "law" (defArgs (top 43)) (defBody (top 43)) (defScope (top 43)) [] [] (He.ga K "law") fd) : FnOk Pw w K mg base (L2.CX Pw w) 17 (He.ga K "law") fd ["script"] (spOf K F_law) := by
  have C__law_all_choices := C__law_all_choices (w := w) h
  have C__law_asked := C__law_asked (w := w) h
  have C__law_bag := C__law_bag (w := w) h
  have C__law_drawn_rows := C__law_drawn_rows (w := w) h
  have C__law_holds := C__law_holds (w := w) h
  have C__law_kept_kind := C__law_kept_kind (w := w) h
  have C__law_near_rows := C__law_near_rows (w := w) h
  have C__law_not_held := C__law_not_held (w := w) h
  have C__law_refusals := C__law_refusals (w := w) h
  have C__law_row_with := C__law_row_with (w := w) h
  have C__law_space := C__law_space (w := w) h
  have C__law_take := C__law_take (w := w) h
  have C__law_told_choices := C__law_told_choices (w := w) h
  have sc := sc_law
  refine okF F sc rfl (fun cdv A outer s H E rt hr => ?_)
  have tk : L2.Takes (cxOf (L2.CX Pw w) Pw w K mg base ["script", "bag", "near", "sizes", "strength", "every", "missed", "rows", "due", "chosen", "more", "at", "choice"] "law" (defScope (top 43)) (He.ga K "law") cdv A outer s H E) (WE0 E) := takes_of rfl rfl rfl rfl
  have pw : PassesOwn (model Pw w) (cxOf (L2.CX Pw w) Pw w K mg base ["script", "bag", "near", "sizes", "strength", "every", "missed", "rows", "due", "chosen", "more", "at", "choice"] "law" (defScope (top 43)) (He.ga K "law") cdv A outer s H E).A (cxOf (L2.CX Pw w) Pw w K mg base ["script", "bag", "near", "sizes", "strength", "every", "missed", "rows", "due", "chosen", "more", "at", "choice"] "law" (defScope (top 43)) (He.ga K "law") cdv A outer s H E).env (cxOf (L2.CX Pw w) Pw w K mg base ["script", "bag", "near", "sizes", "strength", "every", "missed", "rows", "due", "chosen", "more", "at", "choice"] "law" (defScope (top 43)) (He.ga K "law") cdv A outer s H E).xe := passes_of rfl
  exact (ss_cons (st_set sc.nd (i := 1) rfl (by first | exact .inl rfl | exact .inr rfl) (d_callC C__law_bag tk hr (by decide) (by exact rfl) (q_cons (s_name 0 rfl (by first | exact .inl rfl | exact .inr (.inl rfl) | exact .inr (.inr rfl))) (q_cons s_int q_nil))))
    (ss_cons (st_set sc.nd (i := 2) rfl (by first | exact .inl rfl | exact .inr rfl) (d_callC C__law_take tk hr (by decide) (by exact rfl) (q_own 1 rfl (by first | exact .inl rfl | exact .inr (.inl rfl) | exact .inr (.inr rfl)) (q_cons s_int q_nil))))
    (ss_cons (st_set sc.nd (i := 3) rfl (by first | exact .inl rfl | exact .inr rfl) (d_callC C__law_space tk hr (by decide) (by exact rfl) (q_own 1 rfl (by first | exact .inl rfl | exact .inr (.inl rfl) | exact .inr (.inr rfl)) q_nil)))
    (ss_cons (st_set sc.nd (i := 4) rfl (by first | exact .inl rfl | exact .inr rfl) (d_bin op_addA opT_add s_int (PEd.s (d_callC C__law_take tk hr (by decide) (by exact rfl) (q_own 1 rfl (by first | exact .inl rfl | exact .inr (.inl rfl) | exact .inr (.inr rfl)) (q_cons (PEd.s (d_callB (call_minA rfl) caT_min (by exact rfl) h.n_min Boot.«min» (as_cons s_int (as_cons (PEd.s (d_callB call_lenA caT_len (by exact rfl) h.n_len boot_len (as_cons (s_name 3 rfl (by first | exact .inl rfl | exact .inr (.inl rfl) | exact .inr (.inr rfl))) as_nil))) as_nil)))) q_nil))))))
    (ss_cons (st_set sc.nd (i := 5) rfl (by first | exact .inl rfl | exact .inr rfl) (d_callC C__law_all_choices tk hr (by decide) (by exact rfl) (q_cons (s_name 3 rfl (by first | exact .inl rfl | exact .inr (.inl rfl) | exact .inr (.inr rfl))) (q_cons (s_name 4 rfl (by first | exact .inl rfl | exact .inr (.inl rfl) | exact .inr (.inr rfl))) q_nil))))
    (ss_cons (st_if (t_not (t_val (PEd.s (d_callC C__law_told_choices tk hr (by decide) (by exact rfl) (q_cons (s_name 3 rfl (by first | exact .inl rfl | exact .inr (.inl rfl) | exact .inr (.inr rfl))) (q_cons (s_name 4 rfl (by first | exact .inl rfl | exact .inr (.inl rfl) | exact .inr (.inr rfl))) (q_cons (s_name 5 rfl (by first | exact .inl rfl | exact .inr (.inl rfl) | exact .inr (.inr rfl))) q_nil)))))))
    (ss_one (st_ret (PEs.d s_bl)))
    ss_nil)
    (ss_cons (st_if (PWd.t (w_and (t_cmp (op_eqP hr.units) cmT_eq (s_name 2 rfl (by first | exact .inl rfl | exact .inr (.inl rfl) | exact .inr (.inr rfl))) s_int (nomark _)) (w_and1 (t_cmp (op_leA) cmT_le (PEd.s (d_callB call_lenA caT_len (by exact rfl) h.n_len boot_len (as_cons (s_name 5 rfl (by first | exact .inl rfl | exact .inr (.inl rfl) | exact .inr (.inr rfl))) as_nil))) s_int (nomark _)))))
    (ss_cons (st_set sc.nd (i := 6) rfl (by first | exact .inl rfl | exact .inr rfl) (PEs.d (s_ix (s_name 5 rfl (by first | exact .inl rfl | exact .inr (.inl rfl) | exact .inr (.inr rfl))) (PEd.s (d_callC C__law_take tk hr (by decide) (by exact rfl) (q_own 1 rfl (by first | exact .inl rfl | exact .inr (.inl rfl) | exact .inr (.inr rfl)) (q_cons (PEd.s (d_callB call_lenA caT_len (by exact rfl) h.n_len boot_len (as_cons (s_name 5 rfl (by first | exact .inl rfl | exact .inr (.inl rfl) | exact .inr (.inr rfl))) as_nil))) q_nil)))) (fun _ _ => rfl))))
    (ss_one (st_set sc.nd (i := 7) rfl (by first | exact .inl rfl | exact .inr rfl) (d_callT C__law_near_rows tk hr (by decide) rfl (d_callC C__law_bag tk hr (by decide) (by exact rfl) (q_cons (s_name 0 rfl (by first | exact .inl rfl | exact .inr (.inl rfl) | exact .inr (.inr rfl))) (q_cons s_int q_nil))) (q_cons (s_name 3 rfl (by first | exact .inl rfl | exact .inr (.inl rfl) | exact .inr (.inr rfl))) (q_cons (s_name 5 rfl (by first | exact .inl rfl | exact .inr (.inl rfl) | exact .inr (.inr rfl))) (q_cons (s_name 6 rfl (by first | exact .inl rfl | exact .inr (.inl rfl) | exact .inr (.inr rfl))) q_nil)))))))
    (ss_one (st_set sc.nd (i := 7) rfl (by first | exact .inl rfl | exact .inr rfl) (d_callC C__law_drawn_rows tk hr (by decide) (by exact rfl) (q_cons (s_name 0 rfl (by first | exact .inl rfl | exact .inr (.inl rfl) | exact .inr (.inr rfl))) (q_own 1 rfl (by first | exact .inl rfl | exact .inr (.inl rfl) | exact .inr (.inr rfl)) (q_cons (s_name 3 rfl (by first | exact .inl rfl | exact .inr (.inl rfl) | exact .inr (.inr rfl))) q_nil)))))))
    (ss_cons (st_set sc.nd (i := 8) rfl (by first | exact .inl rfl | exact .inr rfl) (d_callC C__law_not_held tk hr (by decide) (by exact rfl) (q_cons (s_name 5 rfl (by first | exact .inl rfl | exact .inr (.inl rfl) | exact .inr (.inr rfl))) (q_cons (s_name 7 rfl (by first | exact .inl rfl | exact .inr (.inl rfl) | exact .inr (.inr rfl))) q_nil))))
    (ss_cons (st_if (t_not (t_val (PEd.s (d_callC C__law_asked tk hr (by decide) (by exact rfl) (q_cons (s_name 3 rfl (by first | exact .inl rfl | exact .inr (.inl rfl) | exact .inr (.inr rfl))) (q_cons (s_name 4 rfl (by first | exact .inl rfl | exact .inr (.inl rfl) | exact .inr (.inr rfl))) (q_cons (s_name 7 rfl (by first | exact .inl rfl | exact .inr (.inl rfl) | exact .inr (.inr rfl))) (q_cons (s_name 8 rfl (by first | exact .inl rfl | exact .inr (.inl rfl) | exact .inr (.inr rfl))) q_nil))))))))
    (ss_one (st_ret (PEs.d s_bl)))
    ss_nil)
    (ss_cons (st_if (t_cmp (op_gtA) cmT_gt (PEd.s (d_callB call_lenA caT_len (by exact rfl) h.n_len boot_len (as_cons (s_name 8 rfl (by first | exact .inl rfl | exact .inr (.inl rfl) | exact .inr (.inr rfl))) as_nil))) s_int (nomark _))
    (ss_cons (st_set sc.nd (i := 9) rfl (by first | exact .inl rfl | exact .inr rfl) (PEs.d (s_ix (s_name 8 rfl (by first | exact .inl rfl | exact .inr (.inl rfl) | exact .inr (.inr rfl))) (PEd.s (d_callC C__law_take tk hr (by decide) (by exact rfl) (q_own 1 rfl (by first | exact .inl rfl | exact .inr (.inl rfl) | exact .inr (.inr rfl)) (q_cons (PEd.s (d_callB call_lenA caT_len (by exact rfl) h.n_len boot_len (as_cons (s_name 8 rfl (by first | exact .inl rfl | exact .inr (.inl rfl) | exact .inr (.inr rfl))) as_nil))) q_nil)))) (fun _ _ => rfl))))
    (ss_cons (st_set sc.nd (i := 10) rfl (by first | exact .inl rfl | exact .inr rfl) (d_callC C__law_kept_kind tk hr (by decide) (by exact rfl) (q_own 1 rfl (by first | exact .inl rfl | exact .inr (.inl rfl) | exact .inr (.inr rfl)) (q_cons (PEd.s (d_callC C__law_row_with tk hr (by decide) (by exact rfl) (q_own 1 rfl (by first | exact .inl rfl | exact .inr (.inl rfl) | exact .inr (.inr rfl)) (q_cons (s_name 3 rfl (by first | exact .inl rfl | exact .inr (.inl rfl) | exact .inr (.inr rfl))) (q_cons (s_name 9 rfl (by first | exact .inl rfl | exact .inr (.inl rfl) | exact .inr (.inr rfl))) q_nil))))) q_nil))))
    (ss_cons (st_set sc.nd (i := 11) rfl (by first | exact .inl rfl | exact .inr rfl) (d_callC C__law_take tk hr (by decide) (by exact rfl) (q_own 1 rfl (by first | exact .inl rfl | exact .inr (.inl rfl) | exact .inr (.inr rfl)) (q_cons (PEd.s (d_bin op_addA opT_add (PEd.s (d_callB call_lenA caT_len (by exact rfl) h.n_len boot_len (as_cons (s_name 7 rfl (by first | exact .inl rfl | exact .inr (.inl rfl) | exact .inr (.inr rfl))) as_nil))) s_int)) q_nil))))
    (ss_cons (st_set sc.nd (i := 7) rfl (by first | exact .inl rfl | exact .inr rfl) (d_bin op_addA opT_add (PEd.s (d_bin op_addA opT_add (PEd.s (d_slice (s_name 7 rfl (by first | exact .inl rfl | exact .inr (.inl rfl) | exact .inr (.inr rfl))) o_none (o_some (s_name 11 rfl (by first | exact .inl rfl | exact .inr (.inl rfl) | exact .inr (.inr rfl)))))) (PEd.s (d_lst (as_cons (s_name 10 rfl (by first | exact .inl rfl | exact .inr (.inl rfl) | exact .inr (.inr rfl))) as_nil))))) (PEd.s (d_slice (s_name 7 rfl (by first | exact .inl rfl | exact .inr (.inl rfl) | exact .inr (.inr rfl))) (o_some (s_name 11 rfl (by first | exact .inl rfl | exact .inr (.inl rfl) | exact .inr (.inr rfl)))) o_none))))
    (ss_cons (st_setLc (i := 8) rfl sc.nd rfl rfl (sw_true rfl rfl rfl rfl) (own := [("choice", 12)]) (blkOk_by (show blkC ["script", "bag", "near", "sizes", "strength", "every", "missed", "rows", "due", "chosen", "more", "at", "choice"] (defScope (top 43)) _ _ = true from by decide +kernel)) (i_any (s_name 8 rfl (by first | exact .inl rfl | exact .inr (.inl rfl) | exact .inr (.inr rfl)))) (fun _ _ _ _ _ => (go_name (by decide) sc.nd (i := 12) rfl (.inl rfl))) (fun _ _ _ _ _ => (ts_one (t_not (t_val (PEd.s (d_callC C__law_holds PD.takes0 hr (by decide) (by exact rfl) (q_cons (s_name 10 rfl (by first | exact .inl rfl | exact .inr (.inl rfl) | exact .inr (.inr rfl))) (q_cons (s_name 12 rfl (by first | exact .inl rfl | exact .inr (.inl rfl) | exact .inr (.inr rfl))) q_nil)))))))) (fun _ _ _ _ _ => (PEs.d (s_name 12 rfl (by first | exact .inl rfl | exact .inr (.inl rfl) | exact .inr (.inr rfl))))))
    (ss_one (st_if (t_not (t_val (PEd.s (d_callC C__law_asked tk hr (by decide) (by exact rfl) (q_cons (s_name 3 rfl (by first | exact .inl rfl | exact .inr (.inl rfl) | exact .inr (.inr rfl))) (q_cons (s_name 4 rfl (by first | exact .inl rfl | exact .inr (.inl rfl) | exact .inr (.inr rfl))) (q_cons (s_name 7 rfl (by first | exact .inl rfl | exact .inr (.inl rfl) | exact .inr (.inr rfl))) (q_cons (s_name 8 rfl (by first | exact .inl rfl | exact .inr (.inl rfl) | exact .inr (.inr rfl))) q_nil))))))))
    (ss_one (st_ret (PEs.d s_bl)))
    ss_nil)))))))
    ss_nil)
    (ss_one (st_ret (d_callT C__law_refusals tk hr (by decide) rfl (d_callC C__law_bag tk hr (by decide) (by exact rfl) (q_cons (s_name 0 rfl (by first | exact .inl rfl | exact .inr (.inl rfl) | exact .inr (.inr rfl))) (q_cons s_int q_nil))) (q_cons (s_name 3 rfl (by first | exact .inl rfl | exact .inr (.inl rfl) | exact .inr (.inr rfl))) (q_cons (s_name 4 rfl (by first | exact .inl rfl | exact .inr (.inl rfl) | exact .inr (.inr rfl))) (q_cons (s_name 7 rfl (by first | exact .inl rfl | exact .inr (.inl rfl) | exact .inr (.inr rfl))) q_nil))))))))))))))))
end
end Wk

set_option Elab.async false
set_option linter.all false
set_option maxRecDepth 100000
set_option maxHeartbeats 0
namespace Wk
open PySem PySem.Spec PyProof.Rows L2 PD
theorem rpl_ints (K : PySem.W.Frag) (G : Hp) : ∀ ns : List Int, RpL K G (ns.map D.int) (ns.map V.int)
  | [] => by simp only [List.map_nil, RpL]
  | n :: ns => by
    simp only [List.map_cons, RpL, Rp]
    exact ⟨_, _, rfl, rfl, rpl_ints K G ns⟩
theorem law_prom {K : PySem.W.Frag} {F : M T} (hF : ∀ ns : List Int, ns.length ≤ 63 → F [.v (.sh (scr ns))] = .ok (.sh (.bl true)) [.v (.sh (scr ns))]) (H : Hp) (a : Addr) (ns : List Int) (hl : ns.length ≤ 63) (hS : SqL K H a (ns.map V.int)) :
    spOf K F [.ref a] H (fun v _ => v = .bl true) fun _ _ _ => False := by
  refine ⟨H, [⟨.v (.sh (scr ns)), some (.ref a), []⟩], ⟨fun c hc => ?_, List.nodup_nil, fun b hb => absurd hb List.not_mem_nil, fun b o hb => .inl hb⟩, rfl, fun s hs => ?_, ?_⟩
  · rw [List.mem_singleton.mp hc]
    refine ⟨_, rfl, ?_, rfl⟩
    simp only [scr, Rp]
    exact ⟨a, _, rfl, hS, rpl_ints K H ns⟩
  · exact ⟨_, List.mem_singleton.mp hs⟩
  · show PostE K [] _ H H _ (F [.v (.sh (scr ns))]) _
    rw [hF ns hl]
    intro v f cs' H' G' h1 h2 h3 h4
    have h5 := h4.cell _ List.mem_cons_self
    obtain ⟨x, e1, e2⟩ := h5
    cases e1
    simp only [RT, Rp] at e2
    exact e2.1
theorem run (w : World) : HandSHeadRun.RunEq R (PySem.W.view R.prog [43]) hk ob 4000 names w := by
  intro os
  kernel_rfl
theorem facts {w : World} {K : PySem.W.Frag} {h : Heap} {mg : Str → Option Value} {f : Addr} (X : K.In h) (G : h.Ns mainGlobals mg) (hfa : mg ("law" : Str) = some (.ref f)) (c : SaysP file fx fa fn fi K) :
    ∃ fd : FuncData, (∀ (s : Shared) (v : Value), BindsTo s fd ⟨[v], []⟩ [("script", v)]) ∧ ∀ base : Heap, K.In base → base.Ns mainGlobals mg → FnOk Pw w K mg base (L2.CX Pw w) 17 f fd ["script"] (spOf K F_law) := by
  obtain ⟨fd, F⟩ := c.def_ 32
  have e := hfa.symm.trans (HW.g_law ⟨c, X, G⟩)
  cases e
  have b := FunD.bindsA (ps := ["script"]) F fun _ _ _ _ _ _ us hl => match us, hl with | [_], _ => rfl
  exact ⟨fd, fun s v => b s [v] rfl, fun base KX GX => O_law ⟨c, KX, GX⟩ F⟩
end Wk
open PySem PySem.W PySem.Calls PyProof.Rows
theorem PySem.Challenge.cw_touchstone_k31_choices_and_covers_holds : PySem.Challenge.rw_touchstone_k31_choices_and_covers.Holds := by
  w_on; o_law
  refine HandSHeadRun.head_any (r := OpenLaw.row PySem.Challenge.rw_touchstone_k31_choices_and_covers) (q := view (OpenLaw.row PySem.Challenge.rw_touchstone_k31_choices_and_covers).prog [43]) (H := Wk.hk) (ob := Wk.ob) (M := 4000) (loose := Wk.names) (d := HandSHeadRun.topDef (OpenLaw.row PySem.Challenge.rw_touchstone_k31_choices_and_covers).prog 43) (kwd := []) Wk.ob_eq
    (by kernel_rfl) (fun s => by kernel_rfl) Wk.run (by kernel_rfl) (by kernel_rfl) (by kernel_rfl) (by rfl) (by first | assumption | decide +kernel) (by decide +kernel) ⟨rfl, rfl, rfl, rfl, rfl, by decide +kernel⟩ ?hw ?hc
  case hw => w_witness2
  case hc =>
    refine Att.attach_call (l := PySem.Challenge.rw_touchstone_k31_choices_and_covers) (n := 63) rfl (by kernel_rfl) fun w s0 s1 mg mb fo o pm cd doc a us ns G Y e1 e2 e3 e4 e5 e6 e7 e8 => ?_
    obtain ⟨K, KX, c⟩ := Y
    have hmg : mg ("law" : PySem.Str) = some (.ref fo) := by
      have e : (HandSHeadRun.topDef (OpenLaw.row PySem.Challenge.rw_touchstone_k31_choices_and_covers).prog 43).name = ("law" : PySem.Str) := by kernel_rfl
      rw [← e]
      exact e4
    obtain ⟨fd, hb, hF⟩ := Wk.facts (w := w) KX G.T.g hmg c
    refine L2.law_call (k := 17) (CX := L2.CX Wk.Pw w) (sp := PD.spOf K Wk.F_law) KX G.T.g G.T.b G.T.builtins G.T.nolimit e8 e5 e6 ?_ ⟨rfl, by decide, by decide⟩ hF hb ?_ ?_
    · exact Nat.le_trans e7 (by decide)
    · exact fun H _ hS => Wk.law_prom Wk.e_law H a ns e7 hS
    · rintro H e s' ⟨a, B, H', cls, d, z⟩
      exact z.2.2.2.2.2.2.2

