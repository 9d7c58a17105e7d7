import PyProof.Rows.All
import Wide.All
import OpenK.AllK
import Wide.FinOn
import HandS.ForMost
import HandS.ForExc
import HandS.CallSlots
import HandS.TupAny
import HandS.TupMul
import HandS.IsInst
import HandS.Deep
import HandS.Style
import HandS.Wide
import KE.KTupSum
import HandS.TupLen
import KE.KDictDisplayH
import HandS.CallLocal
import HandS.Iter
import HandS.Zip
import HandS.Small
import HandS.ExcOwn
import HandS.Defaults
import HandS.SortRule
import HandS.Conv
import HandS.More
import HandS.Head0
import HandS.Head1
import HandS.Head2
import HandS.HeadEnd
import HandS.HeadHook1
import HandS.HeadHook2
import KE.KStateDown
import PySem.Challenge.RW_pencilrows_k94_whole_great_orders_of_hei
set_option Elab.async false
set_option linter.all false
set_option maxRecDepth 100000
set_option maxHeartbeats 1000000
namespace Ev
open PySem PySem.Spec PyProof.Rows L2

inductive D where
  | non | bl (b : Bool) | int (i : Int) | str (x : Str) | tup (l : List D) | lst (l : List D) | dct (t : Bool) (l : List (D × D)) | fn (x : Nat) | scr (l : List Int)

def kD : Key → D
  | .inl i => .int i
  | .inr x => .str x

def isM : HO → Bool
  | .lst _ => true
  | .dK _ => true
  | .dT _ => true
  | _ => false

abbrev FAd := Nat → Option Addr
def Scr (K : PySem.W.Frag) (H : Hp) (a : Addr) (xs : List V) : Prop :=
  (∃ o, H a = some (.frz o (.lst xs))) ∨
    ∃ (o : Obj) (its : Array Value) (n : Nat), K.lookup a = some o ∧ o.cls = .type "list" ∧ o.dict = none ∧ o.data = .seq its n ∧ its.size ≤ sizeLine ∧ Vals xs its.toList
theorem Scr.sq {K : PySem.W.Frag} {H : Hp} {a : Addr} {xs : List V} (s : Scr K H a xs) : SqL K H a xs := by
  rcases s with ⟨o, r⟩ | r
  · exact .inl (.inr ⟨o, r⟩)
  · exact .inr r
theorem Scr.of {K : PySem.W.Frag} {H : Hp} {a : Addr} {xs : List V} (ho : Only H) (s : SqL K H a xs) : Scr K H a xs := by
  rcases s with (r | r) | r
  · rcases ho a with e | ⟨o, ys, e⟩
    · rw [e] at r; cases r
    · rw [e] at r; cases r
  · exact .inl r
  · exact .inr r
mutual
inductive Is (K : PySem.W.Frag) (fa : FAd) (H : Hp) (O : Addr → Prop) : V → D → Prop
  | non : Is K fa H O .non .non
  | bl (b : Bool) : Is K fa H O (.bl b) (.bl b)
  | int (i : Int) : Is K fa H O (.int i) (.int i)
  | str (x : Str) : Is K fa H O (.str x) (.str x)
  | fn {x : Nat} {a : Addr} (h : fa x = some a) : Is K fa H O (.ref a) (.fn x)
  | scr {a : Addr} {ns : List Int} : Scr K H a (ns.map V.int) → Is K fa H O (.ref a) (.scr ns)
  | tup {a : Addr} {xs : List V} {ds : List D} : H a = some (.tup xs) → Iss K fa H O xs ds → Is K fa H O (.ref a) (.tup ds)
  | lst {a : Addr} {xs : List V} {ds : List D} : H a = some (.lst xs) → ¬ O a → Iss K fa H O xs ds → Is K fa H O (.ref a) (.lst ds)
  | dK {a : Addr} {kvs : List (Key × V)} {es : List (D × D)} : H a = some (.dK kvs) → ¬ O a → Isk K fa H O kvs es → Is K fa H O (.ref a) (.dct false es)
  | dT {a : Addr} {kvs : List (List Key × V)} {es : List (D × D)} : H a = some (.dT kvs) → ¬ O a → Ist K fa H O kvs es → Is K fa H O (.ref a) (.dct true es)
inductive Iss (K : PySem.W.Frag) (fa : FAd) (H : Hp) (O : Addr → Prop) : List V → List D → Prop
  | nil : Iss K fa H O [] []
  | cons {v : V} {vs : List V} {d : D} {ds : List D} : Is K fa H O v d → Iss K fa H O vs ds → Iss K fa H O (v :: vs) (d :: ds)
inductive Isk (K : PySem.W.Frag) (fa : FAd) (H : Hp) (O : Addr → Prop) : List (Key × V) → List (D × D) → Prop
  | nil : Isk K fa H O [] []
  | cons {k : Key} {v : V} {vs : List (Key × V)} {d : D} {ds : List (D × D)} : Is K fa H O v d → Isk K fa H O vs ds → Isk K fa H O ((k, v) :: vs) ((kD k, d) :: ds)
inductive Ist (K : PySem.W.Frag) (fa : FAd) (H : Hp) (O : Addr → Prop) : List (List Key × V) → List (D × D) → Prop
  | nil : Ist K fa H O [] []
  | cons {k : List Key} {v : V} {vs : List (List Key × V)} {d : D} {ds : List (D × D)} : Is K fa H O v d → Ist K fa H O vs ds → Ist K fa H O ((k, v) :: vs) ((.tup (k.map kD), d) :: ds)
end

def OMut (H : Hp) (O : Addr → Prop) : Prop := ∀ a, O a → ∃ o, H a = some o ∧ isM o = true
structure Kp (O O' : Addr → Prop) (H H' : Hp) : Prop where
  keep : ∀ b o, H b = some o → ¬ O b → H' b = some o
  less : ∀ b o, H b = some o → O' b → O b
theorem Kp.refl {O : Addr → Prop} {H : Hp} : Kp O O H H := ⟨fun _ _ h _ => h, fun _ _ _ h => h⟩

section
variable {K : PySem.W.Frag} {fa : FAd} {H H' : Hp} {O O' : Addr → Prop}
theorem Rd.keep {a : Addr} {o : HO} (r : Rd H a o) (no : ∀ o', H a = some o' → ¬ O a) (k : Kp O O' H H') : Rd H' a o := by
  rcases r with r | ⟨ob, r⟩
  · exact .inl (k.keep a _ r (no _ r))
  · exact .inr ⟨ob, k.keep a _ r (no _ r)⟩
theorem tup_keep {a : Addr} {xs : List V} (om : OMut H O) (k : Kp O O' H H') (s : H a = some (.tup xs)) : H' a = some (.tup xs) :=
  k.keep _ _ s fun oa => by
    obtain ⟨u, e1, m⟩ := om a oa
    rw [s] at e1; cases e1; cases m
theorem scr_keep {a : Addr} {xs : List V} (om : OMut H O) (k : Kp O O' H H') (s : Scr K H a xs) : Scr K H' a xs := by
  rcases s with ⟨ob, r⟩ | r
  · refine .inl ⟨ob, k.keep a _ r fun oa => ?_⟩
    obtain ⟨u, e1, m⟩ := om a oa
    rw [r] at e1; cases e1; cases m
  · exact .inr r
mutual
theorem Is.keep (om : OMut H O) (k : Kp O O' H H') : ∀ {d : D} {v : V}, Is K fa H O v d → Is K fa H' O' v d
  | .non, _, h => by cases h; exact .non
  | .bl _, _, h => by cases h; exact .bl _
  | .int _, _, h => by cases h; exact .int _
  | .str _, _, h => by cases h; exact .str _
  | .fn _, _, h => by cases h with | fn e => exact .fn e
  | .scr _, _, h => by cases h with | scr s => exact .scr (scr_keep om k s)
  | .tup _, _, h => by cases h with | tup s r => exact .tup (tup_keep om k s) (Iss.keep om k r)
  | .lst _, _, h => by cases h with | lst e n r => exact .lst (k.keep _ _ e n) (fun z => n (k.less _ _ e z)) (Iss.keep om k r)
  | .dct _ _, _, h => by
    cases h with
    | dK e n r => exact .dK (k.keep _ _ e n) (fun z => n (k.less _ _ e z)) (Isk.keep om k r)
    | dT e n r => exact .dT (k.keep _ _ e n) (fun z => n (k.less _ _ e z)) (Ist.keep om k r)
theorem Iss.keep (om : OMut H O) (k : Kp O O' H H') : ∀ {ds : List D} {vs : List V}, Iss K fa H O vs ds → Iss K fa H' O' vs ds
  | [], _, h => by cases h; exact .nil
  | _ :: _, _, h => by cases h with | cons a b => exact .cons (Is.keep om k a) (Iss.keep om k b)
theorem Isk.keep (om : OMut H O) (k : Kp O O' H H') : ∀ {ds : List (D × D)} {vs : List (Key × V)}, Isk K fa H O vs ds → Isk K fa H' O' vs ds
  | [], _, h => by cases h; exact .nil
  | (_, _) :: _, _, h => by cases h with | cons a b => exact .cons (Is.keep om k a) (Isk.keep om k b)
theorem Ist.keep (om : OMut H O) (k : Kp O O' H H') : ∀ {ds : List (D × D)} {vs : List (List Key × V)}, Ist K fa H O vs ds → Ist K fa H' O' vs ds
  | [], _, h => by cases h; exact .nil
  | (_, _) :: _, _, h => by cases h with | cons a b => exact .cons (Is.keep om k a) (Ist.keep om k b)
end
end
end Ev
set_option Elab.async false
set_option linter.all false
set_option maxRecDepth 100000
set_option maxHeartbeats 1000000
namespace Ev
open PySem PySem.Spec PyProof.Rows L2

inductive Sl where
  | und | val (d : D) | own1 (d : D) | own2 (l : List (List D))
abbrev En := List Sl
def gt (ε : En) (i : Nat) : Sl := (ε[i]?).getD .und
def gs (σ : L2.St) (i : Nat) : Option V := (σ[i]?).getD none
theorem gt_set {ε : En} {i j : Nat} {s : Sl} (h : i < ε.length) : gt (ε.set i s) j = if j = i then s else gt ε j := by
  unfold gt
  by_cases e : j = i
  · subst e; rw [if_pos rfl, List.getElem?_set_self h]; rfl
  · rw [if_neg e, List.getElem?_set_ne (Ne.symm e)]
theorem gs_set {σ : L2.St} {i j : Nat} {s : Option V} (h : i < σ.length) : gs (σ.set i s) j = if j = i then s else gs σ j := by
  unfold gs
  by_cases e : j = i
  · subst e; rw [if_pos rfl, List.getElem?_set_self h]; rfl
  · rw [if_neg e, List.getElem?_set_ne (Ne.symm e)]
theorem gs_some {σ : L2.St} {i : Nat} {v : V} (h : gs σ i = some v) : σ[i]? = some (some v) := by
  unfold gs at h
  cases e : σ[i]? with
  | none => rw [e] at h; cases h
  | some o => rw [e] at h; cases h; rfl
theorem gt_lt {ε : En} {i : Nat} (h : gt ε i ≠ .und) : i < ε.length := by
  unfold gt at h
  cases e : ε[i]? with
  | none => rw [e] at h; exact absurd rfl h
  | some o => exact (List.getElem?_eq_some_iff.mp e).1

inductive Rws (K : PySem.W.Frag) (fa : FAd) (H : Hp) (O : Addr → Prop) : List Addr → List (List D) → Prop
  | nil : Rws K fa H O [] []
  | cons {q : Addr} {qs : List Addr} {xs : List V} {ds : List D} {dss : List (List D)} : H q = some (.lst xs) → Iss K fa H O xs ds → Rws K fa H O qs dss → Rws K fa H O (q :: qs) (ds :: dss)
inductive SlOk (K : PySem.W.Frag) (fa : FAd) (H : Hp) (O : Addr → Prop) : Sl → List Addr → Option V → Prop
  | und (v : Option V) : SlOk K fa H O .und [] v
  | val {v : V} {d : D} : Is K fa H O v d → SlOk K fa H O (.val d) [] (some v)
  | lst {p : Addr} {xs : List V} {ds : List D} : H p = some (.lst xs) → Iss K fa H O xs ds → SlOk K fa H O (.own1 (.lst ds)) [p] (some (.ref p))
  | dK {p : Addr} {xs : List (Key × V)} {ds : List (D × D)} : H p = some (.dK xs) → Isk K fa H O xs ds → SlOk K fa H O (.own1 (.dct false ds)) [p] (some (.ref p))
  | dT {p : Addr} {xs : List (List Key × V)} {ds : List (D × D)} : H p = some (.dT xs) → Ist K fa H O xs ds → SlOk K fa H O (.own1 (.dct true ds)) [p] (some (.ref p))
  | own2 {p : Addr} {qs : List Addr} {dss : List (List D)} : H p = some (.lst (qs.map V.ref)) → (p :: qs).Nodup → Rws K fa H O qs dss → SlOk K fa H O (.own2 dss) (p :: qs) (some (.ref p))

section
variable {K : PySem.W.Frag} {fa : FAd} {H H' : Hp} {O O' : Addr → Prop}
theorem Rws.keep (om : OMut H O) (k : Kp O O' H H') : ∀ {qs : List Addr} {dss : List (List D)}, (∀ a ∈ qs, H' a = H a) → Rws K fa H O qs dss → Rws K fa H' O' qs dss
  | _, _, _, .nil => .nil
  | _, _, ha, .cons e r t => .cons ((ha _ List.mem_cons_self).trans e) (Iss.keep om k r) (Rws.keep om k (fun a h => ha a (List.mem_cons_of_mem _ h)) t)
theorem SlOk.keep {s : Sl} {A : List Addr} {v : Option V} (om : OMut H O) (k : Kp O O' H H') (ha : ∀ a ∈ A, H' a = H a) (h : SlOk K fa H O s A v) : SlOk K fa H' O' s A v := by
  cases h with
  | und => exact .und _
  | val h => exact .val (h.keep om k)
  | lst e r => exact .lst ((ha _ List.mem_cons_self).trans e) (r.keep om k)
  | dK e r => exact .dK ((ha _ List.mem_cons_self).trans e) (r.keep om k)
  | dT e r => exact .dT ((ha _ List.mem_cons_self).trans e) (r.keep om k)
  | own2 e n r => exact .own2 ((ha _ List.mem_cons_self).trans e) n (r.keep om k fun a h => ha a (List.mem_cons_of_mem _ h))
theorem Rws.mut : ∀ {qs : List Addr} {dss : List (List D)}, Rws K fa H O qs dss → ∀ a ∈ qs, ∃ o, H a = some o ∧ isM o = true
  | _, _, .nil, _, h => by cases h
  | _, _, .cons e r t, a, h => by
    rcases List.mem_cons.mp h with rfl | h
    · exact ⟨_, e, rfl⟩
    · exact t.mut a h
theorem SlOk.mut {s : Sl} {A : List Addr} {v : Option V} (h : SlOk K fa H O s A v) : ∀ a ∈ A, ∃ o, H a = some o ∧ isM o = true := by
  intro a ha
  cases h with
  | und => cases ha
  | val h => cases ha
  | lst e r => cases List.mem_singleton.mp ha; exact ⟨_, e, rfl⟩
  | dK e r => cases List.mem_singleton.mp ha; exact ⟨_, e, rfl⟩
  | dT e r => cases List.mem_singleton.mp ha; exact ⟨_, e, rfl⟩
  | own2 e n r =>
    rcases List.mem_cons.mp ha with rfl | ha
    · exact ⟨_, e, rfl⟩
    · exact r.mut a ha
theorem Rws.nodup {qs : List Addr} {p : Addr} (h : (p :: qs).Nodup) : p ∉ qs ∧ qs.Nodup := List.nodup_cons.mp h
theorem SlOk.nodup {s : Sl} {A : List Addr} {v : Option V} (h : SlOk K fa H O s A v) : A.Nodup := by
  cases h with
  | und => exact .nil
  | val h => exact .nil
  | lst e r => simp
  | dK e r => simp
  | dT e r => simp
  | own2 e n r => exact n
end

structure Gx where
  K : PySem.W.Frag
  fa : FAd
  ex : Nat → Addr
  Oc : Addr → Prop
  G : Hp
  io : Option Addr
abbrev Ass := Nat → List Addr
def Ow (g : Gx) (As : Ass) (T : List Addr) : Addr → Prop := fun a => g.Oc a ∨ (∃ i, a ∈ As i) ∨ a ∈ T
structure FI (g : Gx) (ε : En) (As : Ass) (T : List Addr) (σ : L2.St) (H : Hp) : Prop where
  len : ε.length = σ.length
  sl : ∀ i, SlOk g.K g.fa H (Ow g As T) (gt ε i) (As i) (gs σ i)
  dis : ∀ i j a, a ∈ As i → a ∈ As j → i = j
  noc : ∀ i a, a ∈ As i → ¬ g.Oc a
  new : ∀ i a, a ∈ As i → g.G a = none ∨ g.io = some a
  same : ∀ b o, g.G b = some o → g.io ≠ some b → H b = some o
  ocm : ∀ a, g.Oc a → (∃ o, g.G a = some o ∧ isM o = true) ∧ g.io ≠ some a
  tm : ∀ a ∈ T, ∃ o, H a = some o ∧ isM o = true
  tn : ∀ a ∈ T, (g.G a = none ∨ g.io = some a) ∧ ∀ i, a ∉ As i
  ioh : ∀ a, g.io = some a → H a ≠ none
  tnd : T.Nodup
  own0 : ∀ p, g.io = some p → ∀ a ∈ As 0, a = p
structure Stp (As As' : Ass) (H H' : Hp) : Prop where
  keep : ∀ b o, H b = some o → (∀ i, b ∉ As i) → H' b = some o
  less : ∀ i b, b ∈ As' i → b ∈ As i
theorem Stp.refl {As : Ass} {H : Hp} : Stp As As H H := ⟨fun _ _ h _ => h, fun _ _ h => h⟩
theorem Stp.trans {As As1 As2 : Ass} {H H1 H2 : Hp} (a : Stp As As1 H H1) (b : Stp As1 As2 H1 H2) : Stp As As2 H H2 :=
  ⟨fun c o h n => b.keep c o (a.keep c o h n) fun i z => n i (a.less i c z), fun i c h => a.less i c (b.less i c h)⟩
theorem Stp.of_same {As : Ass} {H H' : Hp} (s : Same H H') : Stp As As H H' := ⟨fun b o h _ => s b o h, fun _ _ h => h⟩
theorem Stp.kp {g : Gx} {As As' : Ass} {T : List Addr} {H H' : Hp} (s : Stp As As' H H') : Kp (Ow g As T) (Ow g As' T) H H' :=
  ⟨fun b o h n => s.keep b o h fun i z => n (.inr (.inl ⟨i, z⟩)), fun b _ _ h => by
    rcases h with h | ⟨i, h⟩ | h
    · exact .inl h
    · exact .inr (.inl ⟨i, s.less i b h⟩)
    · exact .inr (.inr h)⟩
section
variable {g : Gx} {ε : En} {As As' : Ass} {T T' : List Addr} {σ : L2.St} {H H' : Hp}
theorem FI.om (F : FI g ε As T σ H) : OMut H (Ow g As T) := fun a h => by
  rcases h with h | ⟨i, h⟩ | h
  · obtain ⟨⟨o, e, m⟩, n⟩ := F.ocm a h
    exact ⟨o, F.same a o e n, m⟩
  · exact (F.sl i).mut a h
  · exact F.tm a h
theorem FI.fresh (F : FI g ε As T σ H) {p : Addr} (h : H p = none) : ¬ Ow g As T p ∧ g.G p = none ∧ g.io ≠ some p := by
  have h1 : ¬ Ow g As T p := fun z => by
    obtain ⟨o, e, _⟩ := F.om p z
    rw [h] at e; cases e
  have h2 : g.io ≠ some p := fun z => F.ioh p z h
  refine ⟨h1, ?_, h2⟩
  cases e : g.G p with
  | none => rfl
  | some o => exact absurd (F.same p o e h2) (by rw [h]; exact fun z => by cases z)
theorem FI.grow (F : FI g ε As T σ H) (s : Same H H') : FI g ε As T σ H' :=
  ⟨F.len, fun i => (F.sl i).keep F.om ⟨fun b o h _ => s b o h, fun _ _ _ h => h⟩ fun a ha => by
      obtain ⟨o, e, _⟩ := (F.sl i).mut a ha
      rw [e, s a o e], F.dis, F.noc, F.new, fun b o h n => s b o (F.same b o h n), F.ocm, fun a h => by
      obtain ⟨o, e, m⟩ := F.tm a h
      exact ⟨o, s a o e, m⟩, F.tn, fun a h z => (by
      cases e : H a with
      | none => exact F.ioh a h e
      | some o => rw [s a o e] at z; cases z), F.tnd, F.own0⟩
theorem FI.temp (F : FI g ε As T σ H) {p : Addr} {o : HO} (hp : H p = none) (m : isM o = true) : FI g ε As (p :: T) σ (upd H p o) := by
  obtain ⟨n1, n2, n3⟩ := F.fresh hp
  have ne : ∀ b u, H b = some u → b ≠ p := fun b u e => ne_of_none e hp
  have s : Same H (upd H p o) := fun b u e => by rw [upd_ne (ne b u e)]; exact e
  have F' := F.grow s
  have k : Kp (Ow g As T) (Ow g As (p :: T)) H (upd H p o) := ⟨fun b u e _ => s b u e, fun b u e z => by
    rcases z with z | z | z
    · exact .inl z
    · exact .inr (.inl z)
    · rcases List.mem_cons.mp z with rfl | z
      · rw [hp] at e; cases e
      · exact .inr (.inr z)⟩
  refine ⟨F.len, fun i => (F.sl i).keep F.om k fun a ha => ?_, F.dis, F.noc, F.new, F'.same, F.ocm, fun a h => ?_, fun a h => ?_, F'.ioh, List.nodup_cons.mpr ⟨fun z => n1 (.inr (.inr z)), F.tnd⟩, F.own0⟩
  · obtain ⟨u, e, _⟩ := (F.sl i).mut a ha
    rw [upd_ne (ne a u e)]
  · rcases List.mem_cons.mp h with rfl | h
    · exact ⟨o, upd_same, m⟩
    · exact F'.tm a h
  · rcases List.mem_cons.mp h with rfl | h
    · exact ⟨.inl n2, fun i z => n1 (.inr (.inl ⟨i, z⟩))⟩
    · exact F.tn a h
theorem FI.kp_drop {U : List Addr} : Kp (Ow g As (U ++ T)) (Ow g As T) H H := ⟨fun _ _ h _ => h, fun b _ _ z => by
  rcases z with z | z | z
  · exact .inl z
  · exact .inr (.inl z)
  · exact .inr (.inr (List.mem_append_right _ z))⟩
theorem FI.drop {U : List Addr} (F : FI g ε As (U ++ T) σ H) : FI g ε As T σ H :=
  ⟨F.len, fun i => (F.sl i).keep F.om FI.kp_drop fun _ _ => rfl, F.dis, F.noc, F.new, F.same, F.ocm, fun a h => F.tm a (List.mem_append_right _ h), fun a h => F.tn a (List.mem_append_right _ h), F.ioh, (List.nodup_append.mp F.tnd).2.1, F.own0⟩
def setA (As : Ass) (i : Nat) (A : List Addr) : Ass := fun j => if j = i then A else As j
theorem setA_same {i : Nat} {A : List Addr} : setA As i A i = A := by unfold setA; rw [if_pos rfl]
theorem setA_ne {i j : Nat} {A : List Addr} (h : j ≠ i) : setA As i A j = As j := by unfold setA; rw [if_neg h]
theorem FI.store {i : Nat} {s : Sl} {U : List Addr} {v : V} (F : FI g ε As (U ++ T) σ H) (hi : i < ε.length) (h : SlOk g.K g.fa H (Ow g As (U ++ T)) s U (some v)) (hd : ∀ a ∈ U, a ∉ T) (hz : ∀ p, g.io = some p → i = 0 → ∀ a ∈ U, a = p) : FI g (ε.set i s) (setA As i U) T (σ.set i (some v)) H := by
  have k : Kp (Ow g As (U ++ T)) (Ow g (setA As i U) T) H H := ⟨fun _ _ h _ => h, fun b _ _ z => by
    rcases z with z | ⟨j, z⟩ | z
    · exact .inl z
    · by_cases e : j = i
      · subst e; rw [setA_same] at z; exact .inr (.inr (List.mem_append_left _ z))
      · rw [setA_ne e] at z; exact .inr (.inl ⟨j, z⟩)
    · exact .inr (.inr (List.mem_append_right _ z))⟩
  refine ⟨by rw [List.length_set, List.length_set]; exact F.len, fun j => ?_, fun j l a h1 h2 => ?_, fun j a h1 => ?_, fun j a h1 => ?_, F.same, F.ocm, fun a h => F.tm a (List.mem_append_right _ h), fun a h => ?_, F.ioh, (List.nodup_append.mp F.tnd).2.1, fun p e a z => ?_⟩
  · rw [gt_set hi, gs_set (by rw [← F.len]; exact hi)]
    by_cases e : j = i
    · subst e; rw [if_pos rfl, if_pos rfl, setA_same]; exact h.keep F.om k fun _ _ => rfl
    · rw [if_neg e, if_neg e, setA_ne e]; exact (F.sl j).keep F.om k fun _ _ => rfl
  · by_cases e1 : j = i
    · by_cases e2 : l = i
      · rw [e1, e2]
      · subst e1
        rw [setA_same] at h1; rw [setA_ne e2] at h2
        exact absurd h2 ((F.tn a (List.mem_append_left _ h1)).2 l)
    · by_cases e2 : l = i
      · subst e2
        rw [setA_same] at h2; rw [setA_ne e1] at h1
        exact absurd h1 ((F.tn a (List.mem_append_left _ h2)).2 j)
      · rw [setA_ne e1] at h1; rw [setA_ne e2] at h2
        exact F.dis j l a h1 h2
  · by_cases e : j = i
    · subst e; rw [setA_same] at h1
      intro hc
      obtain ⟨⟨o, eo, _⟩, nio⟩ := F.ocm a hc
      rcases (F.tn a (List.mem_append_left _ h1)).1 with q | q
      · rw [q] at eo; cases eo
      · exact nio q
    · rw [setA_ne e] at h1; exact F.noc j a h1
  · by_cases e : j = i
    · subst e; rw [setA_same] at h1
      exact (F.tn a (List.mem_append_left _ h1)).1
    · rw [setA_ne e] at h1; exact F.new j a h1
  · obtain ⟨h1, h3⟩ := F.tn a (List.mem_append_right _ h)
    refine ⟨h1, fun j z => ?_⟩
    by_cases e : j = i
    · subst e; rw [setA_same] at z; exact hd a z h
    · rw [setA_ne e] at z; exact h3 j z
  · by_cases e0 : 0 = i
    · subst e0; rw [setA_same] at z; exact hz p e rfl a z
    · rw [setA_ne e0] at z; exact F.own0 p e a z
theorem FI.setVal {i : Nat} {d : D} {v : V} (F : FI g ε As T σ H) (hi : i < ε.length) (h : Is g.K g.fa H (Ow g As T) v d) : FI g (ε.set i (.val d)) (setA As i []) T (σ.set i (some v)) H :=
  FI.store (U := []) F hi (.val h) (fun _ z => by cases z) fun _ _ _ _ z => by cases z
theorem FI.wipe1 {i : Nat} {x : Option V} (F : FI g ε As T σ H) (hi : i < ε.length) : FI g (ε.set i .und) (setA As i []) T (σ.set i x) H := by
  have k : Kp (Ow g As T) (Ow g (setA As i []) T) H H := ⟨fun _ _ h _ => h, fun b _ _ z => by
    rcases z with z | ⟨j, z⟩ | z
    · exact .inl z
    · by_cases e : j = i
      · subst e; rw [setA_same] at z; cases z
      · rw [setA_ne e] at z; exact .inr (.inl ⟨j, z⟩)
    · exact .inr (.inr z)⟩
  have sub : ∀ j a, a ∈ setA As i [] j → a ∈ As j := fun j a z => by
    by_cases e : j = i
    · subst e; rw [setA_same] at z; cases z
    · rw [setA_ne e] at z; exact z
  refine ⟨by rw [List.length_set, List.length_set]; exact F.len, fun j => ?_, fun j l a h1 h2 => F.dis j l a (sub j a h1) (sub l a h2), fun j a h1 => F.noc j a (sub j a h1), fun j a h1 => F.new j a (sub j a h1), F.same, F.ocm, F.tm, fun a h => ?_, F.ioh, F.tnd, fun p e a z => F.own0 p e a (sub 0 a z)⟩
  · rw [gt_set hi, gs_set (by rw [← F.len]; exact hi)]
    by_cases e : j = i
    · subst e; rw [if_pos rfl, if_pos rfl, setA_same]; exact .und _
    · rw [if_neg e, if_neg e, setA_ne e]; exact (F.sl j).keep F.om k fun _ _ => rfl
  · obtain ⟨h1, h3⟩ := F.tn a h
    exact ⟨h1, fun j z => h3 j (sub j a z)⟩
theorem Stp.setA {i : Nat} {A : List Addr} (h : ∀ a ∈ A, a ∈ As i) : Stp As (setA As i A) H H := ⟨fun _ _ h _ => h, fun j b z => by
  by_cases e : j = i
  · subst e; rw [setA_same] at z; exact h b z
  · rw [setA_ne e] at z; exact z⟩
end
end Ev
set_option Elab.async false
set_option linter.all false
set_option maxRecDepth 100000
set_option maxHeartbeats 1000000
namespace Ev
open PySem PySem.Spec PyProof.Rows L2
theorem set_self {α : Type} : ∀ {l : List α} {i : Nat} {a : α}, l[i]? = some a → l.set i a = l
  | [], _, _, h => by simp at h
  | _ :: _, 0, _, h => by simp at h; subst h; rfl
  | x :: l, i + 1, a, h => by
    show x :: l.set i a = x :: l
    rw [set_self (by simpa using h)]
section
variable {g : Gx} {ε : En} {As As' : Ass} {T T' : List Addr} {σ : L2.St} {H H' : Hp}
theorem FI.getVal {i : Nat} {d : D} (F : FI g ε As T σ H) (h : gt ε i = .val d) : ∃ v, gs σ i = some v ∧ Is g.K g.fa H (Ow g As T) v d := by
  have q := F.sl i
  rw [h] at q
  generalize As i = A at q
  generalize gs σ i = o at q
  cases q with
  | val r => exact ⟨_, rfl, r⟩
theorem FI.kpW {i : Nat} {p : Addr} {o : HO} (F : FI g ε As T σ H) (hp : p ∈ As i) : Kp (Ow g As T) (Ow g As T) H (upd H p o) :=
  ⟨fun b u e n => by
    have : b ≠ p := fun z => n (z ▸ .inr (.inl ⟨i, hp⟩))
    rw [upd_ne this]; exact e, fun _ _ _ h => h⟩
theorem FI.write {i : Nat} {p : Addr} {o : HO} {s' : Sl} (F : FI g ε As T σ H) (hi : i < ε.length) (hp : p ∈ As i) (m : isM o = true) (h : SlOk g.K g.fa (upd H p o) (Ow g As T) s' (As i) (gs σ i)) : FI g (ε.set i s') As T σ (upd H p o) := by
  have nj : ∀ j, j ≠ i → ∀ a ∈ As j, a ≠ p := fun j e a ha z => e (F.dis j i p (z ▸ ha) hp)
  have up : ∀ a, a ≠ p → upd H p o a = H a := fun a e => upd_ne e
  refine ⟨by rw [List.length_set]; exact F.len, fun j => ?_, F.dis, F.noc, F.new, fun b u e n => ?_, F.ocm, fun a ha => ?_, F.tn, fun a e z => ?_, F.tnd, F.own0⟩
  · rw [gt_set hi]
    by_cases e : j = i
    · subst e; rw [if_pos rfl]; exact h
    · rw [if_neg e]; exact (F.sl j).keep F.om (F.kpW hp) fun a ha => up a (nj j e a ha)
  · have : b ≠ p := fun z => by
      subst z
      rcases F.new i b hp with q | q
      · rw [q] at e; cases e
      · exact n q
    rw [up b this]; exact F.same b u e n
  · have : a ≠ p := fun z => (F.tn a ha).2 i (z ▸ hp)
    rw [up a this]; exact F.tm a ha
  · by_cases q : a = p
    · subst q; rw [upd_same] at z; cases z
    · rw [up a q] at z; exact F.ioh a e z
theorem Stp.write {i : Nat} {p : Addr} {o : HO} (hp : p ∈ As i) : Stp As As H (upd H p o) :=
  ⟨fun b u e n => by rw [upd_ne (show b ≠ p from fun z => n i (by rw [z]; exact hp))]; exact e, fun _ _ h => h⟩
theorem FI.notOw {i : Nat} {p : Addr} (F : FI g ε As T σ H) (hp : p ∈ As i) : ¬ Ow g (setA As i []) T p := fun z => by
  rcases z with z | ⟨j, z⟩ | z
  · exact F.noc i p hp z
  · by_cases e : j = i
    · subst e; rw [setA_same] at z; cases z
    · rw [setA_ne e] at z; exact e (F.dis j i p z hp)
  · exact (F.tn p z).2 i hp
theorem FI.kp_freeze {i : Nat} : Kp (Ow g As T) (Ow g (Ev.setA As i []) T) H H := (Stp.setA (H := H) fun _ z => by cases z).kp
theorem Rws.freeze {K : PySem.W.Frag} {fa : FAd} {O O' : Addr → Prop} (om : OMut H O) (k : Kp O O' H H) : ∀ {qs : List Addr} {dss : List (List D)}, (∀ a ∈ qs, ¬ O' a) → Rws K fa H O qs dss → Iss K fa H O' (qs.map V.ref) (dss.map D.lst)
  | _, _, _, .nil => .nil
  | _, _, ha, .cons e r t => .cons (.lst e (ha _ List.mem_cons_self) (r.keep om k)) (Rws.freeze om k (fun a h => ha a (List.mem_cons_of_mem _ h)) t)
def Sl.d : Sl → Option D
  | .und => none
  | .val d => some d
  | .own1 d => some d
  | .own2 l => some (.lst (l.map D.lst))
theorem FI.freeze {i : Nat} {d : D} (F : FI g ε As T σ H) (h : (gt ε i).d = some d) : ∃ v, gs σ i = some v ∧ Is g.K g.fa H (Ow g (setA As i []) T) v d ∧ FI g (ε.set i (.val d)) (setA As i []) T σ H := by
  have hi : i < ε.length := gt_lt fun z => by rw [z] at h; cases h
  have q := F.sl i
  have key : ∃ v, gs σ i = some v ∧ Is g.K g.fa H (Ow g (setA As i []) T) v d := by
    have no := fun p => F.notOw (i := i) (p := p)
    generalize hA : As i = A at q no
    generalize hv : gs σ i = o at q
    generalize hs : gt ε i = s at q h
    cases q with
    | und => cases h
    | val r => cases h; exact ⟨_, rfl, r.keep F.om FI.kp_freeze⟩
    | lst e r => cases h; exact ⟨_, rfl, .lst e (no _ List.mem_cons_self) (r.keep F.om FI.kp_freeze)⟩
    | dK e r => cases h; exact ⟨_, rfl, .dK e (no _ List.mem_cons_self) (r.keep F.om FI.kp_freeze)⟩
    | dT e r => cases h; exact ⟨_, rfl, .dT e (no _ List.mem_cons_self) (r.keep F.om FI.kp_freeze)⟩
    | own2 e n r => cases h; exact ⟨_, rfl, .lst e (no _ List.mem_cons_self) (r.freeze F.om FI.kp_freeze fun a ha => no a (List.mem_cons_of_mem _ ha))⟩
  obtain ⟨v, e, r⟩ := key
  refine ⟨v, e, r, ?_⟩
  have W := F.wipe1 (x := gs σ i) hi
  have eσ : σ.set i (gs σ i) = σ := by
    have e1 := gs_some e
    rw [e]
    exact set_self e1
  rw [eσ] at W
  refine ⟨by rw [List.length_set]; exact F.len, fun j => ?_, W.dis, W.noc, W.new, W.same, W.ocm, W.tm, W.tn, W.ioh, W.tnd, W.own0⟩
  rw [gt_set hi]
  by_cases e2 : j = i
  · subst e2; rw [if_pos rfl, setA_same, e]; exact .val r
  · have := W.sl j
    rw [gt_set hi, if_neg e2] at this
    rw [if_neg e2]; exact this
end
end Ev
set_option Elab.async false
set_option linter.all false
set_option maxRecDepth 100000
set_option maxHeartbeats 1000000
namespace Ev
open PySem PySem.Spec PyProof.Rows L2

inductive R (α : Type) where
  | ok (a : α) (ε : En) | exc (c : Nat) (ε : En) | bad
def R.bind {α β : Type} (r : R α) (f : α → En → R β) : R β := match r with
  | .ok a ε => f a ε
  | .exc c ε => .exc c ε
  | .bad => .bad
inductive CR where
  | ok (d : D) | okio (d : D) (l : D) | okf (l : List D) | exc (c : Nat) | bad

inductive Li where
  | non | bl (b : Bool) | int (i : Int) | str (x : Str)
def Li.d : Li → D
  | .non => .non
  | .bl b => .bl b
  | .int i => .int i
  | .str x => .str x
inductive P where
  | add | sub | mul | fdiv | mod | pow | neg
  | lt | le | gt | ge | eq | ne | isN | notN | isB | notB | isIn | notIn
  | ix | sl (lo hi : Bool) | rev
  | tup | lst | dnew | dnewT
  | len | tupleOf | listOf | listDict | sorted | sum | min2 | max2 | minL | maxL | abs | int | all | any
  | isi (T : Nat) | index
  deriving DecidableEq
inductive IK where
  | seq | rng1 | rng2 | rng3 | enum | enumS | zip | keys | items
  deriving DecidableEq
inductive Tg where
  | nm (i : Nat) | tp (is : List Nat)

inductive E where
  | lit (l : Li)
  | var (i : Nat)
  | fn (f : Nat)
  | op (p : P) (as : List E)
  | call (f : Nat) (as : List E)
  | callio (f : Nat) (i : Nat) (as : List E)
  | callv (i : Nat) (as : List E)
  | and (a b : E) | or (a b : E) | not (a : E) | ite (c a b : E)
  | chain (p q : P) (a b c : E)
  | lc (own : List Nat) (tg : Tg) (ik : IK) (ia : List E) (ifs : List E) (e : E)
  | lc2 (own : List Nat) (tg : Tg) (ik : IK) (ia : List E) (ifs : List E) (tg2 : Tg) (ik2 : IK) (ia2 : List E) (ifs2 : List E) (e : E)
  | get (d : List E) (k : E) (x : List E)
  | dct1 (t : Bool) (k v : E)
  | ix2 (i : Nat) (a b : E)
  | pop (i : Nat)
abbrev line : Nat := 16777216
mutual
def eqv : D → D → Bool
  | .non, .non => true
  | .bl a, .bl b => a == b
  | .bl a, .int j => (if a then 1 else 0) == j
  | .int i, .bl b => i == (if b then 1 else 0)
  | .int i, .int j => i == j
  | .str x, .str y => x == y
  | .tup a, .tup b => eqvs a b
  | .lst a, .lst b => eqvs a b
  | _, _ => false
def eqvs : List D → List D → Bool
  | [], [] => true
  | x :: xs, y :: ys => eqv x y && eqvs xs ys
  | _, _ => false
end
mutual
def dok : D → Bool
  | .non => true | .bl _ => true | .int _ => true | .str x => PyData.canLay0 (.str x)
  | .tup l => doks l
  | .lst l => doks l
  | _ => false
def doks : List D → Bool
  | [] => true
  | x :: xs => dok x && doks xs
end
mutual
def dep : D → Nat
  | .tup l => deps l + 1
  | .lst l => deps l + 1
  | _ => 0
def deps : List D → Nat
  | [] => 0
  | x :: xs => max (dep x) (deps xs)
end
def shp (d : D) : Bool := dok d && decide (dep d ≤ 60)
def flat : D → Bool
  | .non => true | .bl _ => true | .int _ => true | .str _ => true
  | _ => false
def key? : D → Bool
  | .int _ => true | .str _ => true
  | _ => false
def hkey : Bool → D → Bool
  | false, .int _ => true | false, .str _ => true
  | true, .tup l => l.all key?
  | _, _ => false
def dlook (es : List (D × D)) (k : D) : Option D := (es.find? fun e => eqv e.1 k).map (·.2)
def dput (es : List (D × D)) (k v : D) : List (D × D) := match dlook es k with
  | some _ => es.map fun e => if eqv e.1 k then (e.1, v) else e
  | none => es ++ [(k, v)]
def seqOf : D → Option (List D)
  | .tup l => some l
  | .lst l => some l
  | _ => none
def intOf : D → Option Int
  | .int i => some i
  | _ => none
def blOf : D → Option Bool
  | .bl b => some b
  | _ => none
def int2 (f : Int → Int → Option D) : List D → Option D
  | [.int i, .int j] => f i j
  | _ => none
def small (i : Int) : Bool := decide (-(2 ^ 64) < i ∧ i < 2 ^ 64)
def cutD (xs : List D) (lo hi : Option Int) : List D := (xs.drop (HT.sIx xs.length 0 lo)).take (HT.sIx xs.length xs.length hi - HT.sIx xs.length 0 lo)
def cut? (xs : D) (lo hi : Option Int) : Option D := match xs with
  | .tup l => some (.tup (cutD l lo hi))
  | .lst l => some (.lst (cutD l lo hi))
  | _ => none
def isi : Nat → D → Option Bool
  | 0, .int _ => some true | 0, .bl _ => some true | 0, .non => some false | 0, .str _ => some false | 0, .tup _ => some false | 0, .lst _ => some false | 0, .dct _ _ => some false
  | 1, .bl _ => some true | 1, .int _ => some false | 1, .non => some false | 1, .str _ => some false | 1, .tup _ => some false | 1, .lst _ => some false | 1, .dct _ _ => some false
  | 2, .tup _ => some true | 2, .int _ => some false | 2, .bl _ => some false | 2, .non => some false | 2, .str _ => some false | 2, .lst _ => some false | 2, .dct _ _ => some false
  | 3, .lst _ => some true | 3, .int _ => some false | 3, .bl _ => some false | 3, .non => some false | 3, .str _ => some false | 3, .tup _ => some false | 3, .dct _ _ => some false
  | 4, .str _ => some true | 4, .int _ => some false | 4, .bl _ => some false | 4, .non => some false | 4, .tup _ => some false | 4, .lst _ => some false | 4, .dct _ _ => some false
  | _, _ => none
def pairOf : D → Option (Int × Int)
  | .tup [.int i, .int j] => some (i, j)
  | _ => none
def ofPair (p : Int × Int) : D := .tup [.int p.1, .int p.2]
def leP (p q : Int × Int) : Bool := decide (p.1 < q.1) || (decide (p.1 = q.1) && decide (p.2 ≤ q.2))
def pr : P → List D → Option D
  | .add, [.int i, .int j] => some (.int (i + j))
  | .add, [.tup a, .tup b] => if a.length + b.length ≤ line then some (.tup (a ++ b)) else none
  | .add, [.lst a, .lst b] => if a.length + b.length ≤ line then some (.lst (a ++ b)) else none
  | .sub, [.int i, .int j] => some (.int (i - j))
  | .mul, [.int i, .int j] => if small i || small j then some (.int (i * j)) else none
  | .mul, [.tup a, .int j] => if decide (1 ≤ j ∧ j ≤ 1000) && (decide (a.length ≤ 1000) && !a.isEmpty) then some (.tup (List.replicate j.toNat a).flatten) else none
  | .mul, [.lst a, .int j] => if decide (-(2 ^ 62) ≤ j ∧ j < 2 ^ 62) && decide (a.length * j.toNat ≤ line) then some (.lst (List.replicate j.toNat a).flatten) else none
  | .fdiv, [.int i, .int j] => if decide (0 < j ∧ j < 1073741824) then some (.int (i / j)) else none
  | .mod, [.int i, .int j] => if decide (0 < j) then some (.int (i % j)) else none
  | .pow, [.int i, .int j] => if decide (0 ≤ j ∧ j ≤ 1000000 ∧ i.natAbs < 2 ^ 64) then some (.int (i ^ j.toNat)) else none
  | .neg, [.int i] => some (.int (-i))
  | .lt, [.int i, .int j] => some (.bl (decide (i < j)))
  | .le, [.int i, .int j] => some (.bl (decide (i ≤ j)))
  | .gt, [.int i, .int j] => some (.bl (decide (j < i)))
  | .ge, [.int i, .int j] => some (.bl (decide (j ≤ i)))
  | .eq, [a, b] => if shp a && shp b then some (.bl (eqv a b)) else none
  | .ne, [a, b] => if shp a && shp b then some (.bl (!eqv a b)) else none
  | .isN, [a, .non] => some (.bl (match a with | .non => true | _ => false))
  | .notN, [a, .non] => some (.bl (match a with | .non => false | _ => true))
  | .isB, [.bl a, .bl b] => some (.bl (a == b))
  | .notB, [.bl a, .bl b] => some (.bl (!(a == b)))
  | .isIn, [a, .tup l] => if shp a && shp (.tup l) then some (.bl (l.any fun z => eqv z a)) else none
  | .isIn, [a, .lst l] => if shp a && shp (.lst l) then some (.bl (l.any fun z => eqv z a)) else none
  | .isIn, [a, .dct t es] => if hkey t a then some (.bl (dlook es a).isSome) else none
  | .notIn, [a, .tup l] => if shp a && shp (.tup l) then some (.bl (!l.any fun z => eqv z a)) else none
  | .notIn, [a, .lst l] => if shp a && shp (.lst l) then some (.bl (!l.any fun z => eqv z a)) else none
  | .notIn, [a, .dct t es] => if hkey t a then some (.bl (!(dlook es a).isSome)) else none
  | .ix, [.tup l, .int i] => L2.atI l i
  | .ix, [.lst l, .int i] => L2.atI l i
  | .ix, [.dct t es, k] => if hkey t k then dlook es k else none
  | .sl false false, [x] => cut? x none none
  | .sl true false, [x, .int i] => cut? x (some i) none
  | .sl false true, [x, .int i] => cut? x none (some i)
  | .sl true true, [x, .int i, .int j] => cut? x (some i) (some j)
  | .rev, [.tup l] => some (.tup l.reverse)
  | .rev, [.lst l] => some (.lst l.reverse)
  | .tup, l => if l.length ≤ line then some (.tup l) else none
  | .lst, l => if l.length ≤ line then some (.lst l) else none
  | .dnew, [] => some (.dct false [])
  | .dnewT, [] => some (.dct true [])
  | .len, [.tup l] => some (.int l.length)
  | .len, [.lst l] => some (.int l.length)
  | .len, [.dct _ l] => some (.int l.length)
  | .tupleOf, [.tup l] => some (.tup l)
  | .tupleOf, [.lst l] => some (.tup l)
  | .listOf, [.tup l] => some (.lst l)
  | .listOf, [.lst l] => some (.lst l)
  | .listOf, [.scr l] => some (.lst (l.map .int))
  | .sum, [.tup l] => (l.mapM intOf).map fun ns => .int ns.sum
  | .sum, [.lst l] => (l.mapM intOf).map fun ns => .int ns.sum
  | .min2, [.int i, .int j] => some (.int (if j < i then j else i))
  | .max2, [.int i, .int j] => some (.int (if j > i then j else i))
  | .abs, [.int i] => some (.int (if i < 0 then -i else i))
  | .int, [.int i] => some (.int i)
  | .int, [.bl k] => some (.int (if k then 1 else 0))
  | .all, [.lst l] => (l.mapM blOf).map fun bs => .bl (bs.all id)
  | .any, [.lst l] => (l.mapM blOf).map fun bs => .bl (bs.any id)
  | .isi T, [a] => (isi T a).map .bl
  | .index, [.tup l, a] => if shp a && shp (.tup l) then (l.findIdx? fun z => eqv z a).map fun j => .int (j : Nat) else none
  | .index, [.lst l, a] => if shp a && shp (.lst l) then (l.findIdx? fun z => eqv z a).map fun j => .int (j : Nat) else none
  | .sorted, [.dct true es] => (es.mapM fun e => pairOf e.1).map fun ps => .lst ((ps.mergeSort leP).map ofPair)
  | _, _ => none

def peek : P → Bool
  | .tup => false
  | .lst => false
  | _ => true

inductive Arg where
  | v (d : D) | b (i : Nat)
def Arg.d (ε : En) : Arg → Option D
  | .v d => some d
  | .b i => match gt ε i with
    | .val d => some d
    | .own1 d => some d
    | _ => none
def Args.ds (ε : En) : List Arg → Option (List D)
  | [] => some []
  | a :: as => match a.d ε with
    | some d => (Args.ds ε as).map (d :: ·)
    | none => none

def isDct : Option (List D) → Bool
  | some [.dct _ _] => true
  | _ => false
def getR (d : Option (List D)) (k : D) (x : List D) (ε : En) : R D := match d, x with
  | some [.dct t es], [] => if hkey t k then .ok ((dlook es k).getD .non) ε else .bad
  | some [.dct t es], [y] => if hkey t k then .ok ((dlook es k).getD y) ε else .bad
  | _, _ => .bad

def rngD (lo : Int) (c : Int) (n : Nat) : List D := (List.range n).map fun (k : Nat) => D.int (lo + (k : Int) * c)
def bnd (i : Int) : Bool := decide (-(2 ^ 62) ≤ i ∧ i < 2 ^ 62)
def items : IK → List D → Option (List D)
  | .seq, [.tup l] => some l
  | .seq, [.lst l] => some l
  | .rng1, [.int j] => if bnd j then some (rngD 0 1 j.toNat) else none
  | .rng2, [.int i, .int j] => if bnd i && bnd j then some (rngD i 1 (j - i).toNat) else none
  | .rng3, [.int i, .int j, .int (-1)] => if bnd i && bnd j then some (rngD i (-1) (i - j).toNat) else none
  | .enum, [.tup l] => some (((List.range l.length).zip l).map fun p => D.tup [.int (p.1 : Nat), p.2])
  | .enum, [.lst l] => some (((List.range l.length).zip l).map fun p => D.tup [.int (p.1 : Nat), p.2])
  | .zip, [.tup a, .tup b] => some ((a.zip b).map fun p => .tup [p.1, p.2])
  | .zip, [.lst a, .lst b] => some ((a.zip b).map fun p => .tup [p.1, p.2])
  | _, _ => none

def und (ε : En) : List Nat → En
  | [] => ε
  | i :: is => (und ε is).set i .und
def back (old ε : En) : List Nat → En
  | [] => ε
  | i :: is => (back old ε is).set i (gt old i)
def plain : Sl → Bool
  | .und => true
  | .val _ => true
  | _ => false
def puts : List Nat → List D → En → Option En
  | [], [], ε => some ε
  | i :: is, d :: ds, ε => puts is ds (ε.set i (.val d))
  | _, _, _ => none
def Tg.put : Tg → D → En → Option En
  | .nm i, d, ε => some (ε.set i (.val d))
  | .tp is, .tup ds, ε => puts is ds ε
  | _, _, _ => none

abbrev Cl := Nat → List D → CR
def lcGo (own : List Nat) (tg : Tg) (t : En → R Bool) (e : En → R D) : List D → List D → En → R (List D)
  | [], acc, ε => .ok acc ε
  | x :: xs, acc, ε => match tg.put x ε with
    | none => .bad
    | some ε1 => match t ε1 with
      | .ok true ε2 => (match e ε2 with
        | .ok d ε3 => if acc.length < line then lcGo own tg t e xs (acc ++ [d]) (und ε3 own) else .bad
        | _ => .bad)
      | .ok false ε2 => lcGo own tg t e xs acc (und ε2 own)
      | _ => .bad
def lc2Go (own own2 : List Nat) (tg : Tg) (t : En → R Bool) (it : En → R (List D)) (tg2 : Tg) (t2 : En → R Bool) (e : En → R D) : List D → List D → En → R (List D)
  | [], acc, ε => .ok acc ε
  | x :: xs, acc, ε => match tg.put x ε with
    | none => .bad
    | some ε1 => match t ε1 with
      | .ok true ε2 => (match it ε2 with
        | .ok ys ε3 => (match lcGo own2 tg2 t2 e ys acc (und ε3 own2) with
          | .ok acc' ε4 => lc2Go own own2 tg t it tg2 t2 e xs acc' (und ε4 own)
          | _ => .bad)
        | _ => .bad)
      | .ok false ε2 => lc2Go own own2 tg t it tg2 t2 e xs acc (und ε2 own)
      | _ => .bad
def Tg.own : Tg → List Nat
  | .nm i => [i]
  | .tp is => is
def asB : R D → R Bool
  | .ok (.bl b) ε => .ok b ε
  | .ok _ _ => .bad
  | .exc c ε => .exc c ε
  | .bad => .bad
def opR (p : P) (r : R (List Arg)) : R D := r.bind fun as ε => match Args.ds ε as with
  | some ds => (match pr p ds with
    | some d => .ok d ε
    | none => .bad)
  | none => .bad
def opdR (p : P) (r : R (List D)) : R D := r.bind fun ds ε => match pr p ds with
  | some d => .ok d ε
  | none => .bad
def itR (k : IK) (r : R (List D)) : R (List D) := r.bind fun ds ε => match items k ds with
  | some l => .ok l ε
  | none => .bad
def own2? : Sl → Option (List (List D))
  | .own2 l => some l
  | _ => none
def ix2R0 (i : Nat) (Fa Fb : En → R D) (ε : En) : R D := match own2? (gt ε i) with
  | none => .bad
  | some _ => (Fa ε).bind fun x ε1 => (match own2? (gt ε1 i), x with
    | some l, .int j => (match L2.atI l j with
      | some r => (Fb (ε1.set i .und)).bind fun y ε2 => (match y with
        | .int k => (match L2.atI r k with
          | some d => .ok d (ε2.set i (.own2 l))
          | none => .bad)
        | _ => .bad)
      | none => .bad)
    | _, _ => .bad)
mutual
def ev (cl : Cl) : E → En → R D
  | .lit l, ε => .ok l.d ε
  | .var i, ε => (match gt ε i with
    | .val d => .ok d ε
    | s => (match s.d with
      | some d => .ok d (ε.set i (.val d))
      | none => .bad))
  | .fn f, ε => .ok (.fn f) ε
  | .op p as, ε => if peek p then opR p (evs cl as ε) else opdR p (evd cl as ε)
  | .call f as, ε => (evd cl as ε).bind fun ds ε1 => (match cl f ds with
    | .ok d => .ok d ε1
    | .exc c => .exc c ε1
    | _ => .bad)
  | .callio f i as, ε => (match gt ε i with
    | .own1 (.lst _) => (evd cl as ε).bind fun ds ε1 => (match gt ε1 i with
      | .own1 (.lst l) => (match cl f (.lst l :: ds) with
        | .okio d (.lst l') => .ok d (ε1.set i (.own1 (.lst l')))
        | _ => .bad)
      | _ => .bad)
    | _ => .bad)
  | .callv i as, ε => (match gt ε i with
    | .val (.fn f) => (evd cl as ε).bind fun ds ε1 => (match cl f ds with
      | .ok d => .ok d ε1
      | .exc c => .exc c ε1
      | _ => .bad)
    | _ => .bad)
  | .and a b, ε => (asB (ev cl a ε)).bind fun c ε1 => if c then ev cl b ε1 else .ok (.bl false) ε1
  | .or a b, ε => (asB (ev cl a ε)).bind fun c ε1 => if c then .ok (.bl true) ε1 else ev cl b ε1
  | .not a, ε => (asB (ev cl a ε)).bind fun c ε1 => .ok (.bl (!c)) ε1
  | .ite c a b, ε => (asB (ev cl c ε)).bind fun c ε1 => if c then ev cl a ε1 else ev cl b ε1
  | .chain p q a b c, ε => (ev cl a ε).bind fun x ε1 => (ev cl b ε1).bind fun y ε2 => (match pr p [x, y] with
    | some (.bl true) => (ev cl c ε2).bind fun z ε3 => (match pr q [y, z] with
      | some d => .ok d ε3
      | none => .bad)
    | some (.bl false) => .ok (.bl false) ε2
    | _ => .bad)
  | .lc own tg ik ia ifs e, ε => (itR ik (evd cl ia ε)).bind fun xs ε1 =>
    if own.all (fun i => plain (gt ε1 i)) then (match lcGo own tg (evt cl ifs) (ev cl e) xs [] (und ε1 own) with
      | .ok l ε2 => .ok (.lst l) (back ε1 ε2 own)
      | _ => .bad) else .bad
  | .lc2 own tg ik ia ifs tg2 ik2 ia2 ifs2 e, ε => (itR ik (evd cl ia ε)).bind fun xs ε1 =>
    if own.all (fun i => plain (gt ε1 i)) then (match lc2Go own tg2.own tg (evt cl ifs) (fun ε => itR ik2 (evd cl ia2 ε)) tg2 (evt cl ifs2) (ev cl e) xs [] (und ε1 own) with
      | .ok l ε2 => .ok (.lst l) (back ε1 ε2 own)
      | _ => .bad) else .bad
  | .get ds k xs, ε => (evs cl ds ε).bind fun as ε1 => if isDct (Args.ds ε1 as) then (ev cl k ε1).bind fun kd ε2 => (evd cl xs ε2).bind fun xd ε3 => getR (Args.ds ε3 as) kd xd ε3 else .bad
  | .dct1 t k v, ε => (ev cl k ε).bind fun kd ε1 => (ev cl v ε1).bind fun vd ε2 => if hkey t kd then .ok (.dct t [(kd, vd)]) ε2 else .bad
  | .ix2 i a b, ε => ix2R0 i (ev cl a) (ev cl b) ε
  | .pop i, ε => (match gt ε i with
    | .own1 (.lst l) => (match l.getLast? with
      | some d => .ok d (ε.set i (.own1 (.lst l.dropLast)))
      | none => .bad)
    | _ => .bad)
def evs (cl : Cl) : List E → En → R (List Arg)
  | [], ε => .ok [] ε
  | .var i :: es, ε => (match gt ε i with
    | .val d => (evs cl es ε).bind fun as ε1 => .ok (.v d :: as) ε1
    | .own1 _ => (evs cl es ε).bind fun as ε1 => .ok (.b i :: as) ε1
    | .own2 l => (evs cl es (ε.set i (.val (.lst (l.map .lst))))).bind fun as ε1 => .ok (.v (.lst (l.map .lst)) :: as) ε1
    | .und => .bad)
  | e :: es, ε => (ev cl e ε).bind fun d ε1 => (evs cl es ε1).bind fun as ε2 => .ok (.v d :: as) ε2
def evd (cl : Cl) : List E → En → R (List D)
  | [], ε => .ok [] ε
  | e :: es, ε => (ev cl e ε).bind fun d ε1 => (evd cl es ε1).bind fun ds ε2 => .ok (d :: ds) ε2
def evt (cl : Cl) : List E → En → R Bool
  | [], ε => .ok true ε
  | [e], ε => asB (ev cl e ε)
  | _, _ => .bad
end
end Ev
set_option Elab.async false
set_option linter.all false
set_option maxRecDepth 100000
set_option maxHeartbeats 1000000
namespace Ev
open PySem PySem.Spec PyProof.Rows L2

def Pst {α : Type} (g : Gx) (W : WX) (As : Ass) (T : List Addr) (σ : L2.St) (H : Hp) (r : R α) (K : α → En → Ass → Hp → Prop) : Prop := match r with
  | .bad => False
  | .exc c ε' => ∀ As' H', FI g ε' As' T σ H' → Stp As As' H H' → W (.ref (g.ex c)) none σ H'
  | .ok a ε' => ∀ As' H', FI g ε' As' T σ H' → Stp As As' H H' → K a ε' As' H'
def Run {α : Type} (g : Gx) (W : WX) (F : En → R α) (σ : L2.St) (H : Hp) (K : α → En → Ass → List Addr → Hp → Prop) : Prop :=
  ∃ ε As T, FI g ε As T σ H ∧ Pst g W As T σ H (F ε) fun a ε' As' H' => K a ε' As' T H'
abbrev IsG (g : Gx) (As : Ass) (T : List Addr) (H : Hp) : V → D → Prop := Is g.K g.fa H (Ow g As T)
abbrev IssG (g : Gx) (As : Ass) (T : List Addr) (H : Hp) : List V → List D → Prop := Iss g.K g.fa H (Ow g As T)
def tE (g : Gx) (W : WX) (F : En → R D) : TE := fun σ H Q => Run g W F σ H fun d _ As T H' => ∀ v, IsG g As T H' v d → Q v H'
def tT (g : Gx) (W : WX) (F : En → R Bool) : TT := fun σ H Q => Run g W F σ H fun b _ _ _ H' => Q b H'
def tD (g : Gx) (W : WX) (F : En → R (List D)) : TA := fun σ H Q => Run g W F σ H fun ds _ As T H' => ∀ vs, IssG g As T H' vs ds → Q vs H'
inductive ArgOk (g : Gx) (As : Ass) (T : List Addr) (σ : L2.St) (H : Hp) : V → Arg → Prop
  | v {x : V} {d : D} : IsG g As T H x d → ArgOk g As T σ H x (.v d)
  | b {x : V} {i : Nat} : gs σ i = some x → ArgOk g As T σ H x (.b i)
inductive ArgsOk (g : Gx) (As : Ass) (T : List Addr) (σ : L2.St) (H : Hp) : List V → List Arg → Prop
  | nil : ArgsOk g As T σ H [] []
  | cons {x : V} {xs : List V} {a : Arg} {as : List Arg} : ArgOk g As T σ H x a → ArgsOk g As T σ H xs as → ArgsOk g As T σ H (x :: xs) (a :: as)
def tG (g : Gx) (W : WX) (F : En → R Arg) : TE := fun σ H Q => Run g W F σ H fun a _ As T H' => ∀ v, ArgOk g As T σ H' v a → Q v H'
def tGs (g : Gx) (W : WX) (F : En → R (List Arg)) : TA := fun σ H Q => Run g W F σ H fun as _ As T H' => ∀ vs, ArgsOk g As T σ H' vs as → Q vs H'

section
variable {g : Gx} {W : WX} {ε : En} {As As' : Ass} {T : List Addr} {σ : L2.St} {H H' : Hp}
theorem Pst.mono {α : Type} {r : R α} {K K' : α → En → Ass → Hp → Prop} (h : Pst g W As T σ H r K) (k : ∀ a ε' As' H', FI g ε' As' T σ H' → Stp As As' H H' → K a ε' As' H' → K' a ε' As' H') : Pst g W As T σ H r K' := by
  cases r with
  | bad => exact h
  | exc c ε' => exact h
  | ok a ε' => exact fun As' H' F s => k a ε' As' H' F s (h As' H' F s)
theorem Pst.bind {α β : Type} {r : R α} {f : α → En → R β} {K : β → En → Ass → Hp → Prop} (h : Pst g W As T σ H (r.bind f) K) :
    Pst g W As T σ H r fun a ε1 As1 H1 => Pst g W As1 T σ H1 (f a ε1) K := by
  cases r with
  | bad => exact h
  | exc c ε' => exact h
  | ok a ε1 =>
    intro As1 H1 F1 s1
    have h' : Pst g W As T σ H (f a ε1) K := h
    generalize f a ε1 = r2 at h'
    cases r2 with
    | bad => exact h'
    | exc c ε' => exact fun As2 H2 F2 s2 => h' As2 H2 F2 (s1.trans s2)
    | ok b ε' => exact fun As2 H2 F2 s2 => h' As2 H2 F2 (s1.trans s2)
theorem Pst.here {α : Type} {a : α} {K : α → En → Ass → Hp → Prop} (F : FI g ε As T σ H) (h : Pst g W As T σ H (.ok a ε) K) : K a ε As H := h As H F .refl
theorem Pst.asB {r : R D} {K : Bool → En → Ass → Hp → Prop} (h : Pst g W As T σ H (asB r) K) : Pst g W As T σ H r fun d ε' As' H' => ∃ b, d = .bl b ∧ K b ε' As' H' := by
  cases r with
  | bad => exact h
  | exc c ε' => exact h
  | ok d ε' =>
    cases d with
    | bl b => exact fun As' H' F s => ⟨b, rfl, h As' H' F s⟩
    | _ => exact False.elim h
theorem IsG.step {v : V} {d : D} (F : FI g ε As T σ H) (s : Stp As As' H H') (h : IsG g As T H v d) : IsG g As' T H' v d := Is.keep F.om s.kp h
theorem IssG.step {v : List V} {d : List D} (F : FI g ε As T σ H) (s : Stp As As' H H') (h : IssG g As T H v d) : IssG g As' T H' v d := Iss.keep F.om s.kp h
theorem ArgOk.step {v : V} {a : Arg} (F : FI g ε As T σ H) (s : Stp As As' H H') (h : ArgOk g As T σ H v a) : ArgOk g As' T σ H' v a := by
  cases h with
  | v h => exact .v (h.step F s)
  | b h => exact .b h
theorem PE.imp {X : Cx} {e : Expr} {t t' : TE} (h : PE X e t) (i : ∀ σ H Q, t' σ H Q → t σ H Q) : PE X e t' := ⟨fun pins s σ H Q I q => h.run pins s σ H Q I (i σ H Q q)⟩
theorem PT.imp {X : Cx} {e : Expr} {t t' : TT} (h : PT X e t) (i : ∀ σ H Q, t' σ H Q → t σ H Q) : PT X e t' := ⟨fun pins s σ H Q I q => h.run pins s σ H Q I (i σ H Q q)⟩
theorem PW.imp {X : Cx} {e : Expr} {t t' : TT} (h : PW X e t) (i : ∀ σ H Q, t' σ H Q → t σ H Q) : PW X e t' := ⟨fun w pins s σ H Q I q => h.run w pins s σ H Q I (i σ H Q q)⟩
theorem PA.imp {X : Cx} {e : List Expr} {t t' : TA} (h : PA X e t) (i : ∀ σ H Q, t' σ H Q → t σ H Q) : PA X e t' := ⟨fun p pins s σ H Q I q => h.run p pins s σ H Q I (i σ H Q q)⟩

variable {X : Cx} {pos : Pos} {a b c : Expr} {Fa Fb Fc : En → R D}
theorem e_int {i j} : PE X (.Constant (.int i) j pos) (tE g W fun ε => .ok (.int i) ε) := PE.imp pe_int fun σ H Q ⟨ε, As, T, F, h⟩ => h.here F _ (.int i)
theorem e_bl {i j} : PE X (.Constant (.bool i) j pos) (tE g W fun ε => .ok (.bl i) ε) := PE.imp pe_bl fun σ H Q ⟨ε, As, T, F, h⟩ => h.here F _ (.bl i)
theorem e_str {i j} : PE X (.Constant (.str i) j pos) (tE g W fun ε => .ok (.str i) ε) := PE.imp pe_str fun σ H Q ⟨ε, As, T, F, h⟩ => h.here F _ (.str i)
theorem e_non {j} : PE X (.Constant .none j pos) (tE g W fun ε => .ok .non ε) := PE.imp pe_non fun σ H Q ⟨ε, As, T, F, h⟩ => h.here F _ .non
theorem e_var (cl : Cl) {i : Nat} {x : Str} (hN : X.N[i]? = some x) (hv : Vis X.env.scope x) (hd : (x == ("__debug__" : Str)) = false) (hcd : (x == ("__classdict__" : Str)) = false) : PE X (.Name x pos) (tE g W (ev cl (.var i))) := by
  refine PE.imp (pe_var hN hv hd hcd) fun σ H Q ⟨ε, As, T, F, h⟩ => ?_
  have own : ∀ s d, gt ε i = s → s.d = some d → Pst g W As T σ H (.ok d (ε.set i (.val d))) (fun d _ As' H' => ∀ v, IsG g As' T H' v d → Q v H') → tVar i σ H Q := fun s d e e2 h => by
    obtain ⟨v, e1, r, F'⟩ := F.freeze (by rw [e]; exact e2)
    exact ⟨v, gs_some e1, h _ _ F' (Stp.setA fun _ z => by cases z) v r⟩
  have h' : Pst g W As T σ H (ev cl (.var i) ε) (fun d _ As' H' => ∀ v, IsG g As' T H' v d → Q v H') := h
  unfold ev at h'
  cases e : gt ε i with
  | und => rw [e] at h'; exact False.elim h'
  | val d =>
    rw [e] at h'
    obtain ⟨v, e1, r⟩ := F.getVal e
    exact ⟨v, gs_some e1, h'.here F v r⟩
  | own1 d => rw [e] at h'; exact own _ d e rfl h'
  | own2 l => rw [e] at h'; exact own _ _ e rfl h'

theorem t_of (h : PE X a (tE g W Fa)) (he : ∀ whole, isTrue a X.env whole = (do let v ← whole; standAt a.pos; holding [v] (truthy v))) : PT X a (tT g W fun ε => asB (Fa ε)) :=
  PT.imp (pt_val h he) fun σ H Q ⟨ε, As, T, F, h⟩ => ⟨ε, As, T, F, h.asB.mono fun d ε' As' H' F' s ⟨b, e, k⟩ v r => by
    subst e; cases r
    exact ⟨b, rfl, k⟩⟩
variable {Ga Gb : En → R Bool} {rest : List Expr}
theorem t_and1 (ha : PT X a (tT g W Ga)) : PW X (.BoolOp .And [a] pos) (tT g W Ga) := pw_and1 ha
theorem t_or1 (ha : PT X a (tT g W Ga)) : PW X (.BoolOp .Or [a] pos) (tT g W Ga) := pw_or1 ha
theorem t_and (ha : PT X a (tT g W Ga)) (hb : PW X (.BoolOp .And (b :: rest) pos) (tT g W Gb)) : PW X (.BoolOp .And (a :: b :: rest) pos) (tT g W fun ε => (Ga ε).bind fun c ε1 => if c then Gb ε1 else .ok false ε1) :=
  PW.imp (pw_and ha hb) fun σ H Q ⟨ε, As, T, F, h⟩ => ⟨ε, As, T, F, (Pst.bind h).mono fun c ε1 As1 H1 F1 s k => by
    cases c with
    | true => exact ⟨ε1, As1, T, F1, k⟩
    | false => exact k.here F1⟩
theorem t_or (ha : PT X a (tT g W Ga)) (hb : PW X (.BoolOp .Or (b :: rest) pos) (tT g W Gb)) : PW X (.BoolOp .Or (a :: b :: rest) pos) (tT g W fun ε => (Ga ε).bind fun c ε1 => if c then .ok true ε1 else Gb ε1) :=
  PW.imp (pw_or ha hb) fun σ H Q ⟨ε, As, T, F, h⟩ => ⟨ε, As, T, F, (Pst.bind h).mono fun c ε1 As1 H1 F1 s k => by
    cases c with
    | true => exact k.here F1
    | false => exact ⟨ε1, As1, T, F1, k⟩⟩
theorem t_not (ha : PT X a (tT g W Ga)) : PT X (.UnaryOp .Not a pos) (tT g W fun ε => (Ga ε).bind fun c ε1 => .ok (!c) ε1) :=
  PT.imp (pt_not ha) fun σ H Q ⟨ε, As, T, F, h⟩ => ⟨ε, As, T, F, (Pst.bind h).mono fun c ε1 As1 H1 F1 s k => k.here F1⟩
theorem e_and (ha : PE X a (tE g W Fa)) (hb : PE X (.BoolOp .And (b :: rest) pos) (tE g W Fb)) : PE X (.BoolOp .And (a :: b :: rest) pos) (tE g W fun ε => (asB (Fa ε)).bind fun c ε1 => if c then Fb ε1 else .ok (.bl false) ε1) :=
  PE.imp (pe_and ha hb) fun σ H Q ⟨ε, As, T, F, h⟩ => ⟨ε, As, T, F, (Pst.bind h).asB.mono fun d ε1 As1 H1 F1 s ⟨c, e, k⟩ v r => by
    subst e; cases r
    refine ⟨c, rfl, ?_⟩
    cases c with
    | true => exact ⟨ε1, As1, T, F1, k⟩
    | false => exact k.here F1 _ (.bl false)⟩
theorem e_or (ha : PE X a (tE g W Fa)) (hb : PE X (.BoolOp .Or (b :: rest) pos) (tE g W Fb)) : PE X (.BoolOp .Or (a :: b :: rest) pos) (tE g W fun ε => (asB (Fa ε)).bind fun c ε1 => if c then .ok (.bl true) ε1 else Fb ε1) :=
  PE.imp (pe_or ha hb) fun σ H Q ⟨ε, As, T, F, h⟩ => ⟨ε, As, T, F, (Pst.bind h).asB.mono fun d ε1 As1 H1 F1 s ⟨c, e, k⟩ v r => by
    subst e; cases r
    refine ⟨c, rfl, ?_⟩
    cases c with
    | true => exact k.here F1 _ (.bl true)
    | false => exact ⟨ε1, As1, T, F1, k⟩⟩
theorem e_one {op} (ha : PE X a (tE g W Fa)) : PE X (.BoolOp op [a] pos) (tE g W Fa) := pe_one ha
theorem e_not (ha : PE X a (tE g W Fa)) : PE X (.UnaryOp .Not a pos) (tE g W fun ε => (asB (Fa ε)).bind fun c ε1 => .ok (.bl (!c)) ε1) :=
  PE.imp (pe_not ha) fun σ H Q ⟨ε, As, T, F, h⟩ => ⟨ε, As, T, F, (Pst.bind h).asB.mono fun d ε1 As1 H1 F1 s ⟨c, e, k⟩ v r => by
    subst e; cases r
    exact ⟨c, rfl, k.here F1 _ (.bl _)⟩⟩
theorem e_ite (hc : PT X c (tT g W Ga)) (ha : PE X a (tE g W Fa)) (hb : PE X b (tE g W Fb)) : PE X (.IfExp c a b pos) (tE g W fun ε => (Ga ε).bind fun c ε1 => if c then Fa ε1 else Fb ε1) :=
  PE.imp (pe_ifExp hc ha hb) fun σ H Q ⟨ε, As, T, F, h⟩ => ⟨ε, As, T, F, (Pst.bind h).mono fun c ε1 As1 H1 F1 s k => by
    cases c with
    | true => exact ⟨ε1, As1, T, F1, k⟩
    | false => exact ⟨ε1, As1, T, F1, k⟩⟩

theorem d_nil : PA X [] (tD g W fun ε => .ok [] ε) := PA.imp pa_nil fun σ H Q ⟨ε, As, T, F, h⟩ => h.here F _ .nil
theorem d_cons {e : Expr} {es : List Expr} {Fe : En → R D} {Fs : En → R (List D)} (ha : PE X e (tE g W Fe)) (hr : PA X es (tD g W Fs)) (hs : starEach (e :: es) X.env = (false, eval e X.env) :: starEach es X.env) :
    PA X (e :: es) (tD g W fun ε => (Fe ε).bind fun d ε1 => (Fs ε1).bind fun ds ε2 => .ok (d :: ds) ε2) :=
  PA.imp (pa_cons ha hr hs) fun σ H Q ⟨ε, As, T, F, h⟩ => ⟨ε, As, T, F, (Pst.bind h).mono fun d ε1 As1 H1 F1 s k v r => ⟨ε1, As1, T, F1, (Pst.bind k).mono fun ds ε2 As2 H2 F2 s2 k2 vs rs =>
    k2.here F2 (v :: vs) (.cons (IsG.step F1 s2 r) rs)⟩⟩
theorem g_nil : PA X [] (tGs g W fun ε => .ok [] ε) := PA.imp pa_nil fun σ H Q ⟨ε, As, T, F, h⟩ => h.here F _ .nil
theorem g_cons {e : Expr} {es : List Expr} {Fe : En → R Arg} {Fs : En → R (List Arg)} (ha : PE X e (tG g W Fe)) (hr : PA X es (tGs g W Fs)) (hs : starEach (e :: es) X.env = (false, eval e X.env) :: starEach es X.env) :
    PA X (e :: es) (tGs g W fun ε => (Fe ε).bind fun d ε1 => (Fs ε1).bind fun ds ε2 => .ok (d :: ds) ε2) :=
  PA.imp (pa_cons ha hr hs) fun σ H Q ⟨ε, As, T, F, h⟩ => ⟨ε, As, T, F, (Pst.bind h).mono fun d ε1 As1 H1 F1 s k v r => ⟨ε1, As1, T, F1, (Pst.bind k).mono fun ds ε2 As2 H2 F2 s2 k2 vs rs =>
    k2.here F2 (v :: vs) (.cons (r.step F1 s2) rs)⟩⟩
theorem g_val {e : Expr} {Fe : En → R D} (h : PE X e (tE g W Fe)) : PE X e (tG g W fun ε => (Fe ε).bind fun d ε1 => .ok (.v d) ε1) :=
  PE.imp h fun σ H Q ⟨ε, As, T, F, h⟩ => ⟨ε, As, T, F, (Pst.bind h).mono fun d ε1 As1 H1 F1 s k v r => k.here F1 v (.v r)⟩
def argVar0 (i : Nat) (ε : En) : R Arg := match gt ε i with
  | .val d => .ok (.v d) ε
  | .own1 _ => .ok (.b i) ε
  | .own2 l => .ok (.v (.lst (l.map .lst))) (ε.set i (.val (.lst (l.map .lst))))
  | .und => .bad
theorem g_var {i : Nat} {x : Str} (hN : X.N[i]? = some x) (hv : Vis X.env.scope x) (hd : (x == ("__debug__" : Str)) = false) (hcd : (x == ("__classdict__" : Str)) = false) : PE X (.Name x pos) (tG g W (argVar0 i)) := by
  refine PE.imp (pe_var hN hv hd hcd) fun σ H Q ⟨ε, As, T, F, h⟩ => ?_
  have h' : Pst g W As T σ H (argVar0 i ε) (fun d _ As' H' => ∀ v, ArgOk g As' T σ H' v d → Q v H') := h
  unfold argVar0 at h'
  cases e : gt ε i with
  | und => rw [e] at h'; exact False.elim h'
  | val d =>
    rw [e] at h'
    obtain ⟨v, e1, r⟩ := F.getVal e
    exact ⟨v, gs_some e1, h'.here F v (.v r)⟩
  | own1 d =>
    rw [e] at h'
    obtain ⟨v, e1, _⟩ := F.freeze (i := i) (d := d) (by rw [e]; rfl)
    exact ⟨v, gs_some e1, h'.here F v (.b e1)⟩
  | own2 l =>
    rw [e] at h'
    obtain ⟨v, e1, r, F'⟩ := F.freeze (i := i) (d := .lst (l.map .lst)) (by rw [e]; rfl)
    exact ⟨v, gs_some e1, h' _ _ F' (Stp.setA fun _ z => by cases z) v (.v r)⟩
end
end Ev
set_option Elab.async false
set_option linter.all false
set_option maxRecDepth 100000
set_option maxHeartbeats 1000000
namespace Ev
open PySem PySem.Spec PyProof.Rows L2

inductive Is1 (K : PySem.W.Frag) (fa : FAd) (H : Hp) (O : Addr → Prop) : V → D → Prop
  | is {v : V} {d : D} : Is K fa H O v d → Is1 K fa H O v d
  | lst {a : Addr} {xs : List V} {ds : List D} : H a = some (.lst xs) → Iss K fa H O xs ds → Is1 K fa H O (.ref a) (.lst ds)
  | dK {a : Addr} {kvs : List (Key × V)} {es : List (D × D)} : H a = some (.dK kvs) → Isk K fa H O kvs es → Is1 K fa H O (.ref a) (.dct false es)
  | dT {a : Addr} {kvs : List (List Key × V)} {es : List (D × D)} : H a = some (.dT kvs) → Ist K fa H O kvs es → Is1 K fa H O (.ref a) (.dct true es)
inductive Iss1 (K : PySem.W.Frag) (fa : FAd) (H : Hp) (O : Addr → Prop) : List V → List D → Prop
  | nil : Iss1 K fa H O [] []
  | cons {v : V} {vs : List V} {d : D} {ds : List D} : Is1 K fa H O v d → Iss1 K fa H O vs ds → Iss1 K fa H O (v :: vs) (d :: ds)
section
variable {g : Gx} {W : WX} {ε : En} {As As' : Ass} {T : List Addr} {σ : L2.St} {H H' : Hp}
theorem ArgOk.is1 {v : V} {a : Arg} {d : D} (F : FI g ε As T σ H) (h : ArgOk g As T σ H v a) (e : a.d ε = some d) : Is1 g.K g.fa H (Ow g As T) v d := by
  cases h with
  | v h => cases e; exact .is h
  | b hb =>
    rename_i i
    have q := F.sl i
    have e' : (match gt ε i with | .val d => some d | .own1 d => some d | _ => none) = some d := e
    rw [hb] at q
    generalize gt ε i = s at q e'
    generalize As i = A at q
    cases q with
    | und => cases e'
    | val r => cases e'; exact .is r
    | lst h r => cases e'; exact .lst h r
    | dK h r => cases e'; exact .dK h r
    | dT h r => cases e'; exact .dT h r
    | own2 h n r => cases e'
theorem ArgsOk.iss1 (F : FI g ε As T σ H) : ∀ {vs : List V} {as : List Arg} {ds : List D}, ArgsOk g As T σ H vs as → Args.ds ε as = some ds → Iss1 g.K g.fa H (Ow g As T) vs ds
  | _, _, ds, .nil, e => by
    have e' : some ([] : List D) = some ds := e
    cases e'
    exact .nil
  | _, _, ds, .cons (a := a) (as := as) h t, e => by
    have e' : (match a.d ε with | some d => (Args.ds ε as).map (d :: ·) | none => none) = some ds := e
    cases h1 : a.d ε with
    | none => rw [h1] at e'; cases e'
    | some d =>
      rw [h1] at e'
      cases h2 : Args.ds ε as with
      | none => rw [h2] at e'; cases e'
      | some r =>
        rw [h2] at e'
        cases e'
        exact .cons (h.is1 F h1) (t.iss1 F h2)
theorem Iss.one : ∀ {vs : List V} {ds : List D}, Iss g.K g.fa H (Ow g As T) vs ds → Iss1 g.K g.fa H (Ow g As T) vs ds
  | _, _, .nil => .nil
  | _, _, .cons a b => .cons (.is a) b.one
end

def rP (K : PySem.W.Frag) (p : P) : List V → Hp → VK → Prop := fun vs H Q => ∃ (fa : FAd) (O : Addr → Prop) (ds : List D) (d : D), OMut H O ∧ Iss1 K fa H O vs ds ∧ pr p ds = some d ∧ ∀ v H', Same H H' → Is K fa H' O v d → Q v H'
def rV (K : PySem.W.Frag) (p : P) : List V → Hp → VK → Prop := fun vs H Q => ∃ (fa : FAd) (O : Addr → Prop) (ds : List D) (d : D), OMut H O ∧ Iss K fa H O vs ds ∧ pr p ds = some d ∧ ∀ v H', Same H H' → Is K fa H' O v d → Q v H'
def rP2 (K : PySem.W.Frag) (p : P) : R2 := fun x y H Q => rP K p [x, y] H Q
section
variable {g : Gx} {W : WX} {ε : En} {As As' : Ass} {T : List Addr} {σ : L2.St} {H H' : Hp}
theorem op_fin {p : P} {as : List Arg} {vs : List V} {Q : VK} (F : FI g ε As T σ H) (hv : ArgsOk g As T σ H vs as)
    (h : Pst g W As T σ H (match Args.ds ε as with | some ds => (match pr p ds with | some d => R.ok d ε | none => .bad) | none => .bad) fun d _ As' H' => ∀ v, IsG g As' T H' v d → Q v H') : rP g.K p vs H Q := by
  cases e1 : Args.ds ε as with
  | none => rw [e1] at h; exact False.elim h
  | some ds =>
    rw [e1] at h
    cases e2 : pr p ds with
    | none => simp only [e2] at h; exact False.elim h
    | some d =>
      simp only [e2] at h
      exact ⟨g.fa, Ow g As T, ds, d, F.om, hv.iss1 F e1, e2, fun v H' s r => h As H' (F.grow s) (.of_same s) v r⟩
theorem opd_fin {p : P} {ds : List D} {vs : List V} {Q : VK} (F : FI g ε As T σ H) (hv : IssG g As T H vs ds)
    (h : Pst g W As T σ H (match pr p ds with | some d => R.ok d ε | none => .bad) fun d _ As' H' => ∀ v, IsG g As' T H' v d → Q v H') : rV g.K p vs H Q := by
  cases e2 : pr p ds with
  | none => rw [e2] at h; exact False.elim h
  | some d =>
    rw [e2] at h
    exact ⟨g.fa, Ow g As T, ds, d, F.om, hv, e2, fun v H' s r => h As H' (F.grow s) (.of_same s) v r⟩
variable {X : Cx} {pos : Pos} {a b c : Expr} {Ga Gb : En → R Arg} {Fa Fb Fc : En → R D}
def args2 (Ga Gb : En → R Arg) (ε : En) : R (List Arg) := (Ga ε).bind fun a ε1 => (Gb ε1).bind fun b ε2 => .ok [a, b] ε2
theorem two_fin {p : P} {Q : VK} (h : tE g W (fun ε => opR p (args2 Ga Gb ε)) σ H Q) : tG g W Ga σ H fun x H1 => tG g W Gb σ H1 fun y H2 => rP2 g.K p x y H2 Q := by
  obtain ⟨ε, As, T, F, h⟩ := h
  have h : Pst g W As T σ H ((args2 Ga Gb ε).bind _) _ := h
  refine ⟨ε, As, T, F, (Pst.bind (Pst.bind h)).mono fun a ε1 As1 H1 F1 s1 k x rx => ⟨ε1, As1, T, F1, (Pst.bind k).mono fun b ε2 As2 H2 F2 s2 k2 y ry => ?_⟩⟩
  have k2 := k2.here F2
  exact op_fin F2 (.cons (rx.step F1 s2) (.cons ry .nil)) k2
theorem e_bin {p : P} {op : Operator} (ho : OpR X (binaryOp op) (rP2 g.K p)) (ha : PE X a (tG g W Ga)) (hb : PE X b (tG g W Gb)) : PE X (.BinOp a op b pos) (tE g W fun ε => opR p (args2 Ga Gb ε)) :=
  PE.imp (pe_op ho ha hb) fun _ _ _ h => two_fin h
theorem e_cmp {p : P} {op : CmpOp} (ho : OpR X (compareOp op) (rP2 g.K p)) (ha : PE X a (tG g W Ga)) (hb : PE X b (tG g W Gb)) (hm : behindInMarks op b = false) : PE X (.Compare a [op] [b] pos) (tE g W fun ε => opR p (args2 Ga Gb ε)) :=
  PE.imp (pe_cmpR ho ha hb hm) fun _ _ _ h => two_fin h
theorem t_cmp {p : P} {op : CmpOp} (ho : OpR X (compareOp op) (rP2 g.K p)) (ha : PE X a (tG g W Ga)) (hb : PE X b (tG g W Gb)) (hm : behindInMarks op b = false) : PT X (.Compare a [op] [b] pos) (tT g W fun ε => asB (opR p (args2 Ga Gb ε))) :=
  PT.imp (pt_cmpR ho ha hb hm) fun σ H Q ⟨ε, As, T, F, h⟩ => two_fin (W := W) ⟨ε, As, T, F, h.asB.mono fun d ε' As' H' F' s ⟨b, e, k⟩ v r => by
    subst e; cases r
    exact ⟨b, rfl, k⟩⟩
theorem e_ix {p : P} (ho : IxR X (rP2 g.K p)) (ha : PE X a (tG g W Ga)) (hb : PE X b (tG g W Gb)) (hs : PlainIx b) : PE X (.Subscript a b pos) (tE g W fun ε => opR p (args2 Ga Gb ε)) :=
  PE.imp (pe_ix ho ha hb hs) fun _ _ _ h => two_fin h
def args1 (Ga : En → R Arg) (ε : En) : R (List Arg) := (Ga ε).bind fun a ε1 => .ok [a] ε1
theorem one_fin {p : P} {Q : VK} (h : tE g W (fun ε => opR p (args1 Ga ε)) σ H Q) : tG g W Ga σ H fun x H1 => rP g.K p [x] H1 Q := by
  obtain ⟨ε, As, T, F, h⟩ := h
  have h : Pst g W As T σ H ((args1 Ga ε).bind _) _ := h
  refine ⟨ε, As, T, F, (Pst.bind (Pst.bind h)).mono fun a ε1 As1 H1 F1 s1 k x rx => ?_⟩
  exact op_fin F1 (.cons rx .nil) (k.here F1)
theorem e_un {p : P} {op : UnaryOp} (ho : UnR X (unaryOp op) (fun x H Q => rP g.K p [x] H Q)) (ha : PE X a (tG g W Ga)) : PE X (.UnaryOp op a pos) (tE g W fun ε => opR p (args1 Ga ε)) :=
  PE.imp (pe_un ho ha) fun _ _ _ h => one_fin h
variable {x : Str} {pp : Pos} {es : List Expr} {id Ty : String} {Gs : En → R (List Arg)} {Ds : En → R (List D)}
theorem args_fin {p : P} {Q : VK} (h : tE g W (fun ε => opR p (Gs ε)) σ H Q) : tGs g W Gs σ H fun vs H1 => rP g.K p vs H1 Q := by
  obtain ⟨ε, As, T, F, h⟩ := h
  have h : Pst g W As T σ H ((Gs ε).bind _) _ := h
  exact ⟨ε, As, T, F, (Pst.bind h).mono fun as ε1 As1 H1 F1 s1 k vs rs => op_fin F1 rs k⟩
theorem argsd_fin {p : P} {Q : VK} (h : tE g W (fun ε => opdR p (Ds ε)) σ H Q) : tD g W Ds σ H fun vs H1 => rV g.K p vs H1 Q := by
  obtain ⟨ε, As, T, F, h⟩ := h
  have h : Pst g W As T σ H ((Ds ε).bind _) _ := h
  exact ⟨ε, As, T, F, (Pst.bind h).mono fun as ε1 As1 H1 F1 s1 k vs rs => opd_fin F1 rs k⟩
theorem e_callB {p : P} (hc : CallR X (.builtin id) (rP g.K p)) (hg : Gl X x) (hm : X.mg x = none) (hv : bootBuiltins x = some (.builtin id)) (ha : PA X (a :: es) (tGs g W Gs)) (hn : x ≠ "__name__") (hdb : (x == ("__debug__" : Str)) = false)
    (he : starEach (a :: es) X.env = (false, eval a X.env) :: starEach es X.env) (hpl : (backTo pos (starEach es X.env)).any (·.1) = false) : PE X (.Call (.Name x pp) (a :: es) [] pos) (tE g W fun ε => opR p (Gs ε)) :=
  PE.imp (pe_callB hc hg hm hv ha hn hdb he hpl) fun _ _ _ h => args_fin h
theorem e_callTy {p : P} (hc : CallR X (.type Ty) (rP g.K p)) (hg : Gl X x) (hm : X.mg x = none) (hv : bootBuiltins x = some (.type Ty)) (ha : PA X (a :: es) (tGs g W Gs)) (hn : x ≠ "__name__") (hdb : (x == ("__debug__" : Str)) = false)
    (he : starEach (a :: es) X.env = (false, eval a X.env) :: starEach es X.env) (hpl : (backTo pos (starEach es X.env)).any (·.1) = false) : PE X (.Call (.Name x pp) (a :: es) [] pos) (tE g W fun ε => opR p (Gs ε)) :=
  PE.imp (pe_callTy hc hg hm hv ha hn hdb he hpl) fun _ _ _ h => args_fin h

theorem iss_len {K : PySem.W.Frag} {fa : FAd} {O : Addr → Prop} : ∀ {vs : List V} {ds : List D}, Iss K fa H O vs ds → vs.length = ds.length
  | _, _, .nil => rfl
  | _, _, .cons _ t => by rw [List.length_cons, List.length_cons, iss_len t]
theorem same_new {p : Addr} {o : HO} (h : H p = none) : Same H (upd H p o) := fun b u e => by rw [upd_ne (ne_of_none e h)]; exact e
theorem iss_new {K : PySem.W.Frag} {fa : FAd} {O : Addr → Prop} {p : Addr} {o : HO} {vs : List V} {ds : List D} (om : OMut H O) (h : H p = none) (r : Iss K fa H O vs ds) : Iss K fa (upd H p o) O vs ds :=
  r.keep om ⟨fun b u e _ => same_new h b u e, fun _ _ _ z => z⟩
theorem not_own {O : Addr → Prop} {p : Addr} (om : OMut H O) (h : H p = none) : ¬ O p := fun z => by
  obtain ⟨o, e, _⟩ := om p z
  rw [h] at e; cases e
theorem line_eq : sizeLine = line := by rw [sizeLine_eq]
theorem is_tup {K : PySem.W.Frag} {fa : FAd} {O : Addr → Prop} {p : Addr} {vs : List V} {ds : List D} (om : OMut H O) (h : H p = none) (r : Iss K fa H O vs ds) : Is K fa (upd H p (.tup vs)) O (.ref p) (.tup ds) :=
  .tup upd_same (iss_new om h r)
theorem is_lst {K : PySem.W.Frag} {fa : FAd} {O : Addr → Prop} {p : Addr} {vs : List V} {ds : List D} (om : OMut H O) (h : H p = none) (r : Iss K fa H O vs ds) : Is K fa (upd H p (.lst vs)) O (.ref p) (.lst ds) :=
  .lst upd_same (not_own om h) (iss_new om h r)
theorem ite_some {α : Type} {c : Prop} [Decidable c] {x y : α} (h : (if c then some x else none) = some y) : c ∧ x = y := by
  by_cases hc : c
  · rw [if_pos hc] at h; exact ⟨hc, Option.some.inj h⟩
  · rw [if_neg hc] at h; cases h
theorem e_tup {x1 : Nat} (ha : PA X es (tD g W Ds)) : PE X (.Tuple es x1 pos) (tE g W fun ε => opdR .tup (Ds ε)) :=
  PE.imp (pe_tup ha) fun σ H Q h => by
    obtain ⟨ε, As, T, F, h⟩ := argsd_fin h
    refine ⟨ε, As, T, F, h.mono fun ds ε1 As1 H1 F1 s1 k vs rs => ?_⟩
    obtain ⟨fa, O, ds, d, om, r, e, q⟩ := k vs rs
    have e' : (if ds.length ≤ line then some (D.tup ds) else none) = some d := e
    obtain ⟨hl, rfl⟩ := ite_some e'
    exact ⟨by rw [iss_len r, line_eq]; exact hl, fun p hp => q _ _ (same_new hp) (is_tup om hp r)⟩
theorem e_lst (ha : PA X es (tD g W Ds)) : PE X (.List es pos) (tE g W fun ε => opdR .lst (Ds ε)) :=
  PE.imp (pe_lst ha) fun σ H Q h => by
    obtain ⟨ε, As, T, F, h⟩ := argsd_fin h
    refine ⟨ε, As, T, F, h.mono fun ds ε1 As1 H1 F1 s1 k vs rs => ?_⟩
    obtain ⟨fa, O, ds, d, om, r, e, q⟩ := k vs rs
    have e' : (if ds.length ≤ line then some (D.lst ds) else none) = some d := e
    obtain ⟨hl, rfl⟩ := ite_some e'
    exact ⟨by rw [iss_len r, line_eq]; exact hl, fun p hp => q _ _ (same_new hp) (is_lst om hp r)⟩
end
end Ev
set_option Elab.async false
set_option linter.all false
set_option maxRecDepth 100000
set_option maxHeartbeats 1000000
namespace Ev
open PySem PySem.Spec PyProof.Rows L2

section
variable {K : PySem.W.Frag} {fa : FAd} {H : Hp} {O : Addr → Prop} {v : V}
theorem Is.keepRd {d : D} {H' : Hp} (om : OMut H O) (s : Same H H') (h : Is K fa H O v d) : Is K fa H' O v d := h.keep om ⟨fun b u e _ => s b u e, fun _ _ _ z => z⟩
theorem Iss.keepRd {vs : List V} {ds : List D} {H' : Hp} (om : OMut H O) (s : Same H H') (h : Iss K fa H O vs ds) : Iss K fa H' O vs ds := h.keep om ⟨fun b u e _ => s b u e, fun _ _ _ z => z⟩
theorem Is1.int {i : Int} (h : Is1 K fa H O v (.int i)) : v = .int i := by cases h with | is h => cases h; rfl
theorem Is1.bl {b : Bool} (h : Is1 K fa H O v (.bl b)) : v = .bl b := by cases h with | is h => cases h; rfl
theorem Is1.str {x : Str} (h : Is1 K fa H O v (.str x)) : v = .str x := by cases h with | is h => cases h; rfl
theorem Is1.non (h : Is1 K fa H O v .non) : v = .non := by cases h with | is h => cases h; rfl
theorem Is1.tup {l : List D} (h : Is1 K fa H O v (.tup l)) : ∃ a xs, v = .ref a ∧ H a = some (.tup xs) ∧ Iss K fa H O xs l ∧ Is K fa H O v (.tup l) := by
  cases h with | is h => cases h with | tup e r => exact ⟨_, _, rfl, e, r, .tup e r⟩
theorem Is1.lst' {l : List D} (h : Is1 K fa H O v (.lst l)) : ∃ a xs, v = .ref a ∧ H a = some (.lst xs) ∧ Iss K fa H O xs l := by
  cases h with
  | is h => cases h with | lst e n r => exact ⟨_, _, rfl, e, r⟩
  | lst e r => exact ⟨_, _, rfl, e, r⟩
theorem Is1.dctK {l : List (D × D)} (h : Is1 K fa H O v (.dct false l)) : ∃ a kvs, v = .ref a ∧ H a = some (.dK kvs) ∧ Isk K fa H O kvs l := by
  cases h with
  | is h => cases h with
    | dK e n r => exact ⟨_, _, rfl, e, r⟩
  | dK e r => exact ⟨_, _, rfl, e, r⟩
theorem Is1.dctT {l : List (D × D)} (h : Is1 K fa H O v (.dct true l)) : ∃ a kvs, v = .ref a ∧ H a = some (.dT kvs) ∧ Ist K fa H O kvs l := by
  cases h with
  | is h => cases h with
    | dT e n r => exact ⟨_, _, rfl, e, r⟩
  | dT e r => exact ⟨_, _, rfl, e, r⟩
theorem Is1.scr {l : List Int} (h : Is1 K fa H O v (.scr l)) : ∃ a, v = .ref a ∧ Scr K H a (l.map V.int) := by
  cases h with | is h => cases h with | scr e => exact ⟨_, rfl, e⟩
theorem Is1.fn {f : Nat} (h : Is1 K fa H O v (.fn f)) : ∃ a, v = .ref a ∧ fa f = some a := by cases h with | is h => cases h with | fn e => exact ⟨_, rfl, e⟩
theorem Iss1.two {x y : V} {ds : List D} (h : Iss1 K fa H O [x, y] ds) : ∃ a b, ds = [a, b] ∧ Is1 K fa H O x a ∧ Is1 K fa H O y b := by
  cases h with | cons h1 h => cases h with | cons h2 h => cases h; exact ⟨_, _, rfl, h1, h2⟩
theorem Iss1.one' {x : V} {ds : List D} (h : Iss1 K fa H O [x] ds) : ∃ a, ds = [a] ∧ Is1 K fa H O x a := by
  cases h with | cons h1 h => cases h; exact ⟨_, rfl, h1⟩
theorem Iss.get {K : PySem.W.Frag} {fa : FAd} {H : Hp} {O : Addr → Prop} : ∀ {xs : List V} {ds : List D} {i : Nat} {d : D}, Iss K fa H O xs ds → ds[i]? = some d → ∃ x, xs[i]? = some x ∧ Is K fa H O x d
  | _, _, _, _, .nil, h => by simp at h
  | _, _, 0, _, .cons a t, h => by simp at h; subst h; exact ⟨_, rfl, a⟩
  | _, _, i + 1, d, .cons a t, h => by
    obtain ⟨x, e, r⟩ := t.get (i := i) (by simpa using h)
    exact ⟨x, by simpa using e, r⟩
theorem Iss.get' {K : PySem.W.Frag} {fa : FAd} {H : Hp} {O : Addr → Prop} : ∀ {xs : List V} {ds : List D} {i : Nat} {x : V}, Iss K fa H O xs ds → xs[i]? = some x → ∃ d, ds[i]? = some d ∧ Is K fa H O x d
  | _, _, _, _, .nil, h => by simp at h
  | _, _, 0, _, .cons a t, h => by simp at h; subst h; exact ⟨_, rfl, a⟩
  | _, _, i + 1, d, .cons a t, h => by
    obtain ⟨x, e, r⟩ := t.get' (i := i) (by simpa using h)
    exact ⟨x, by simpa using e, r⟩
theorem Iss.app {K : PySem.W.Frag} {fa : FAd} {H : Hp} {O : Addr → Prop} : ∀ {xs ys : List V} {ds es : List D}, Iss K fa H O xs ds → Iss K fa H O ys es → Iss K fa H O (xs ++ ys) (ds ++ es)
  | _, _, _, _, .nil, h => h
  | _, _, _, _, .cons a t, h => .cons a (t.app h)
theorem Iss.drop {K : PySem.W.Frag} {fa : FAd} {H : Hp} {O : Addr → Prop} : ∀ {xs : List V} {ds : List D} (n : Nat), Iss K fa H O xs ds → Iss K fa H O (xs.drop n) (ds.drop n)
  | _, _, 0, h => h
  | _, _, _ + 1, .nil => .nil
  | _, _, n + 1, .cons a t => t.drop n
theorem Iss.take {K : PySem.W.Frag} {fa : FAd} {H : Hp} {O : Addr → Prop} : ∀ {xs : List V} {ds : List D} (n : Nat), Iss K fa H O xs ds → Iss K fa H O (xs.take n) (ds.take n)
  | _, _, 0, h => .nil
  | _, _, _ + 1, .nil => .nil
  | _, _, n + 1, .cons a t => .cons a (t.take n)
theorem Iss.rep {K : PySem.W.Frag} {fa : FAd} {H : Hp} {O : Addr → Prop} {xs : List V} {ds : List D} (h : Iss K fa H O xs ds) : ∀ n : Nat, Iss K fa H O (List.replicate n xs).flatten (List.replicate n ds).flatten
  | 0 => .nil
  | n + 1 => by
    rw [List.replicate_succ, List.replicate_succ, List.flatten_cons, List.flatten_cons]
    exact h.app (h.rep n)
theorem Iss.rev {K : PySem.W.Frag} {fa : FAd} {H : Hp} {O : Addr → Prop} : ∀ {xs : List V} {ds : List D}, Iss K fa H O xs ds → Iss K fa H O xs.reverse ds.reverse
  | _, _, .nil => .nil
  | _, _, .cons a t => by
    rw [List.reverse_cons, List.reverse_cons]
    exact t.rev.app (.cons a .nil)
theorem Iss.cut {K : PySem.W.Frag} {fa : FAd} {H : Hp} {O : Addr → Prop} {xs : List V} {ds : List D} (h : Iss K fa H O xs ds) (lo hi : Option Int) : Iss K fa H O (cutV xs lo hi) (cutD ds lo hi) := by
  have e := iss_len h
  unfold cutV cutD
  rw [e]
  exact (h.drop _).take _
theorem Iss.ints {K : PySem.W.Frag} {fa : FAd} {H : Hp} {O : Addr → Prop} : ∀ {xs : List V} {ds : List D} {ns : List Int}, Iss K fa H O xs ds → ds.mapM intOf = some ns → xs = ns.map V.int
  | _, _, ns, .nil, h => by simp at h; subst h; rfl
  | _, _, ns, .cons (d := d) a t, h => by
    rw [List.mapM_cons] at h
    cases d with
    | int i =>
      cases a
      cases e : List.mapM intOf _ with
      | none => rw [e] at h; simp [intOf] at h
      | some ms =>
        rw [e] at h
        simp [intOf] at h
        subst h
        rw [List.map_cons, ← t.ints e]
    | _ => simp [intOf] at h
theorem Iss.bls {K : PySem.W.Frag} {fa : FAd} {H : Hp} {O : Addr → Prop} : ∀ {xs : List V} {ds : List D} {ns : List Bool}, Iss K fa H O xs ds → ds.mapM blOf = some ns → xs = ns.map V.bl
  | _, _, ns, .nil, h => by simp at h; subst h; rfl
  | _, _, ns, .cons (d := d) a t, h => by
    rw [List.mapM_cons] at h
    cases d with
    | bl i =>
      cases a
      cases e : List.mapM blOf _ with
      | none => rw [e] at h; simp [blOf] at h
      | some ms =>
        rw [e] at h
        simp [blOf] at h
        subst h
        rw [List.map_cons, ← t.bls e]
    | _ => simp [blOf] at h
theorem iss_ints {K : PySem.W.Frag} {fa : FAd} {H : Hp} {O : Addr → Prop} : ∀ l : List Int, Iss K fa H O (l.map V.int) (l.map D.int)
  | [] => .nil
  | i :: l => .cons (.int i) (iss_ints l)
mutual
def toPy : D → PyData
  | .bl b => .bool b
  | .int i => .int i
  | .str x => .str x
  | .tup l => .tuple (toPys l)
  | .lst l => .list (toPys l)
  | _ => .none
def toPys : List D → List PyData
  | [] => []
  | x :: xs => toPy x :: toPys xs
end
mutual
theorem eqv_py : ∀ (a b : D), dok a = true → dok b = true → eqv a b = PyData.eqv (toPy a) (toPy b)
  | .non, b, _, hb => by cases b <;> first | rfl | (exact absurd hb Bool.false_ne_true)
  | .bl _, b, _, hb => by cases b <;> first | rfl | (exact absurd hb Bool.false_ne_true)
  | .int _, b, _, hb => by cases b <;> first | rfl | (exact absurd hb Bool.false_ne_true)
  | .str _, b, _, hb => by cases b <;> first | rfl | (exact absurd hb Bool.false_ne_true)
  | .tup l, b, ha, hb => by
    cases b with
    | tup m => exact eqvs_py l m ha hb
    | _ => first | rfl | (exact absurd hb Bool.false_ne_true)
  | .lst l, b, ha, hb => by
    cases b with
    | lst m => exact eqvs_py l m ha hb
    | _ => first | rfl | (exact absurd hb Bool.false_ne_true)
  | .dct _ _, _, ha, _ => absurd ha Bool.false_ne_true
  | .fn _, _, ha, _ => absurd ha Bool.false_ne_true
  | .scr _, _, ha, _ => absurd ha Bool.false_ne_true
theorem eqvs_py : ∀ (a b : List D), doks a = true → doks b = true → eqvs a b = PyData.eqvAll (toPys a) (toPys b)
  | [], [], _, _ => rfl
  | [], _ :: _, _, _ => rfl
  | _ :: _, [], _, _ => rfl
  | x :: xs, y :: ys, ha, hb => by
    have h1 : dok x = true ∧ doks xs = true := Bool.and_eq_true_iff.mp ha
    have h2 : dok y = true ∧ doks ys = true := Bool.and_eq_true_iff.mp hb
    show (eqv x y && eqvs xs ys) = (PyData.eqv (toPy x) (toPy y) && PyData.eqvAll (toPys xs) (toPys ys))
    rw [eqv_py x y h1.1 h2.1, eqvs_py xs ys h1.2 h2.2]
end
mutual
theorem lay_py : ∀ a : D, dok a = true → (toPy a).canLay0 = true
  | .non, _ => rfl | .bl _, _ => rfl | .int _, _ => rfl | .str _, h => h | .dct _ _, _ => rfl | .fn _, _ => rfl | .scr _, _ => rfl
  | .tup l, h => lays_py l h
  | .lst l, h => lays_py l h
theorem lays_py : ∀ a : List D, doks a = true → PyData.canLayAll0 (toPys a) = true
  | [], _ => rfl
  | x :: xs, h => by
    have h1 : dok x = true ∧ doks xs = true := Bool.and_eq_true_iff.mp h
    show ((toPy x).canLay0 && PyData.canLayAll0 (toPys xs)) = true
    rw [lay_py x h1.1, lays_py xs h1.2]; rfl
end
mutual
theorem dep_py : ∀ a : D, (toPy a).depth ≤ dep a + 1
  | .non => by simp [toPy, PyData.depth] | .bl _ => by simp [toPy, PyData.depth] | .int _ => by simp [toPy, PyData.depth] | .str _ => by simp [toPy, PyData.depth] | .dct _ _ => by simp [toPy, PyData.depth] | .fn _ => by simp [toPy, PyData.depth] | .scr _ => by simp [toPy, PyData.depth]
  | .tup l => by
    have := deps_py l
    simp only [toPy, PyData.depth, dep]; omega
  | .lst l => by
    have := deps_py l
    simp only [toPy, PyData.depth, dep]; omega
theorem deps_py : ∀ a : List D, PyData.depthAll (toPys a) ≤ deps a + 1
  | [] => by simp [toPys, PyData.depthAll]
  | x :: xs => by
    have h1 := dep_py x
    have h2 := deps_py xs
    simp only [toPys, PyData.depthAll, deps]; omega
end
theorem shp_py {a : D} (h : shp a = true) : dok a = true ∧ SeqAt.shaped (toPy a) = true := by
  have h1 : dok a = true ∧ decide (dep a ≤ 60) = true := Bool.and_eq_true_iff.mp h
  refine ⟨h1.1, ?_⟩
  have h2 : dep a ≤ 60 := of_decide_eq_true h1.2
  have h3 := dep_py a
  show ((toPy a).canLay0 && decide ((toPy a).depth ≤ 64)) = true
  rw [lay_py a h1.1, decide_eq_true (by omega)]; rfl
mutual
theorem is_dp : ∀ {d : D} {v : V}, Is K fa H O v d → dok d = true → Dp K H v (toPy d)
  | .non, _, h, _ => by cases h; exact .non
  | .bl _, _, h, _ => by cases h; exact .bl _
  | .int _, _, h, _ => by cases h; exact .int _
  | .str _, _, h, _ => by cases h; exact .str _
  | .tup _, _, h, e => by cases h with | tup a r => exact .tup (.of a) (iss_dp r e)
  | .lst _, _, h, e => by cases h with | lst a _ r => exact .lst (.of a) (iss_dp r e)
  | .dct _ _, _, _, e => absurd e Bool.false_ne_true
  | .fn _, _, _, e => absurd e Bool.false_ne_true
  | .scr _, _, _, e => absurd e Bool.false_ne_true
theorem iss_dp : ∀ {d : List D} {v : List V}, Iss K fa H O v d → doks d = true → DpAll K H v (toPys d)
  | [], _, h, _ => by cases h; exact .nil
  | _ :: _, _, h, e => by
    have h1 := Bool.and_eq_true_iff.mp e
    cases h with | cons a r => exact .cons (is_dp a h1.1) (iss_dp r h1.2)
end
theorem is1_dp {d : D} {v : V} (h : Is1 K fa H O v d) (e : dok d = true) : Dp K H v (toPy d) := by
  cases h with
  | is h => exact is_dp h e
  | lst a r => exact .lst (.of a) (iss_dp r e)
  | dK _ _ => exact absurd e Bool.false_ne_true
  | dT _ _ => exact absurd e Bool.false_ne_true
end
end Ev
set_option Elab.async false
set_option linter.all false
set_option maxRecDepth 100000
set_option maxHeartbeats 1000000
namespace Ev
open PySem PySem.Spec PyProof.Rows L2
theorem once_tuple (b : Addr) (vs : Array Value) (m : Nat) (di : Option Addr) (so : Array (Option Value)) (tk1 : Tok) :
    Meets (Builtin.«tuple.__mul__» ⟨[.ref b, .int 1 tk1], []⟩) (fun _ R st =>
      st.heap.get? b = some { cls := .type "tuple", dict := di, data := .seq vs m, slots := so } ∧ R (.ok (.ret (Value.ref b))) st) :=
  .of_wp fun pg wd A0 R0 st hh => by
    obtain ⟨hp0, gg, dd0, tk0, os0⟩ := st
    obtain ⟨hb, hh⟩ := hh
    have fi := AutoSeq1.idx_int
    wp_walk using AutoSeq1.wpAny_loadPart' hb
    exact ⟨_, rfl, hh⟩
theorem op_onceT {X : Cx} : OpR X (binaryOp .Mult) (fun x y H Q => ∃ b xs, x = V.ref b ∧ y = V.int 1 ∧ SqT X.K H b xs ∧ Q (.ref b) H) := by
  intro pins s σ H x y v u Q I rx ry ⟨b, xs, e1, e2, hT, q⟩
  subst e1 e2
  cases rx
  obtain ⟨t, rfl⟩ := ry
  obtain ⟨its, r, ⟨⟨cls, di, data, so⟩, ho, hc, m, hd⟩, hs⟩ := I.tuple hT
  simp only at hc hd
  subst hc hd
  refine wpAny_binaryOp_repeat_ref (by decide : (Value.type "tuple" == Value.type "int") = false) ⟨_, ho, rfl⟩
    (fun st => typeIs_int st 1 t) noFill_tuple_mul F.fills_int_mul F.slot_int_rmul
    repeat_tuple F.slot_int_index.lookup ?_
  refine call_meets F.slot_int_rmul (typeIs_int s 1 t) F.entry_int_rmul
    (F.args_int_rmul_2 _ _) (int_rmul_tuple 1 t b its.toArray m di so) ⟨ho, rfl, ⟨_, ho, rfl⟩, ?_⟩
  refine call_meets F.slot_tuple_mul ⟨_, ho, rfl⟩ F.entry_tuple_mul
    (F.args_tuple_mul_2 _ _) (once_tuple b its.toArray m di so t) ⟨ho, ?_⟩
  exact ⟨.ref b, H, I, rfl, q⟩
section
variable {X : Cx}
theorem bad2 {p : P} {a b d : D} {α : Prop} (e : pr p [a, b] = some d) (h : pr p [a, b] = none) : α := by rw [h] at e; exact absurd e (fun z => by cases z)
theorem bad1 {p : P} {a d : D} {α : Prop} (e : pr p [a] = some d) (h : pr p [a] = none) : α := by rw [h] at e; exact absurd e (fun z => by cases z)
theorem int_rule {p : P} {f : Value → Value → Sem Value} {g : Int → Int → V} {gd : Int → Int → D} (ho : OpR X f (rI0 g)) (hp : ∀ a b d, pr p [a, b] = some d → ∃ i j, a = .int i ∧ b = .int j ∧ d = gd i j)
    (hg : ∀ K fa H O i j, Is K fa H O (g i j) (gd i j)) : OpR X f (rP2 X.K p) := by
  intro pins s σ H x y v u Q I rx ry h
  obtain ⟨fa, O, ds, d, om, r, e, q⟩ := h
  obtain ⟨a, b, rfl, ra, rb⟩ := r.two
  obtain ⟨i, j, rfl, rfl, rfl⟩ := hp _ _ _ e
  obtain rfl := ra.int
  obtain rfl := rb.int
  exact ho pins s σ H _ _ v u Q I rx ry ⟨i, j, rfl, rfl, q _ _ (.refl H) (hg _ _ _ _ _ _)⟩
theorem int_ruleC {p : P} {f : Value → Value → Sem Value} {C : Int → Int → Prop} {g : Int → Int → V} {gd : Int → Int → D} (ho : OpR X f (rI C g)) (hp : ∀ a b d, pr p [a, b] = some d → ∃ i j, a = .int i ∧ b = .int j ∧ C i j ∧ d = gd i j)
    (hg : ∀ K fa H O i j, Is K fa H O (g i j) (gd i j)) : OpR X f (rP2 X.K p) := by
  intro pins s σ H x y v u Q I rx ry h
  obtain ⟨fa, O, ds, d, om, r, e, q⟩ := h
  obtain ⟨a, b, rfl, ra, rb⟩ := r.two
  obtain ⟨i, j, rfl, rfl, hc, rfl⟩ := hp _ _ _ e
  obtain rfl := ra.int
  obtain rfl := rb.int
  exact ho pins s σ H _ _ v u Q I rx ry ⟨i, j, rfl, rfl, hc, q _ _ (.refl H) (hg _ _ _ _ _ _)⟩
theorem p_sub : OpR X (binaryOp .Sub) (rP2 X.K .sub) := int_rule op_sub (gd := fun i j => .int (i - j)) (fun a b d e => by
  cases a with
  | int i => cases b with
    | int j => exact ⟨i, j, rfl, rfl, (Option.some.inj e).symm⟩
    | _ => exact bad2 e rfl
  | _ => cases b <;> exact bad2 e rfl) fun _ _ _ _ _ _ => .int _
theorem p_lt : OpR X (compareOp .Lt) (rP2 X.K .lt) := int_rule op_lt (gd := fun i j => .bl (decide (i < j))) (fun a b d e => by
  cases a with
  | int i => cases b with
    | int j => exact ⟨i, j, rfl, rfl, (Option.some.inj e).symm⟩
    | _ => exact bad2 e rfl
  | _ => cases b <;> exact bad2 e rfl) fun _ _ _ _ _ _ => .bl _
theorem p_le : OpR X (compareOp .LtE) (rP2 X.K .le) := int_rule op_le (gd := fun i j => .bl (decide (i ≤ j))) (fun a b d e => by
  cases a with
  | int i => cases b with
    | int j => exact ⟨i, j, rfl, rfl, (Option.some.inj e).symm⟩
    | _ => exact bad2 e rfl
  | _ => cases b <;> exact bad2 e rfl) fun _ _ _ _ _ _ => .bl _
theorem p_gt : OpR X (compareOp .Gt) (rP2 X.K .gt) := int_rule op_gt (gd := fun i j => .bl (decide (j < i))) (fun a b d e => by
  cases a with
  | int i => cases b with
    | int j => exact ⟨i, j, rfl, rfl, (Option.some.inj e).symm⟩
    | _ => exact bad2 e rfl
  | _ => cases b <;> exact bad2 e rfl) fun _ _ _ _ _ _ => .bl _
theorem p_ge : OpR X (compareOp .GtE) (rP2 X.K .ge) := int_rule op_ge (gd := fun i j => .bl (decide (j ≤ i))) (fun a b d e => by
  cases a with
  | int i => cases b with
    | int j => exact ⟨i, j, rfl, rfl, (Option.some.inj e).symm⟩
    | _ => exact bad2 e rfl
  | _ => cases b <;> exact bad2 e rfl) fun _ _ _ _ _ _ => .bl _
theorem p_fdiv : OpR X (binaryOp .FloorDiv) (rP2 X.K .fdiv) := int_ruleC op_fdiv (gd := fun i j => .int (i / j)) (fun a b d e => by
  cases a with
  | int i => cases b with
    | int j =>
      have e' : (if decide (0 < j ∧ j < 1073741824) = true then some (D.int (i / j)) else none) = some d := e
      obtain ⟨h, e2⟩ := ite_some e'
      exact ⟨i, j, rfl, rfl, by have := of_decide_eq_true h; exact this, e2.symm⟩
    | _ => exact bad2 e rfl
  | _ => cases b <;> exact bad2 e rfl) fun _ _ _ _ _ _ => .int _
theorem p_mod : OpR X (binaryOp .Mod) (rP2 X.K .mod) := int_ruleC op_mod (gd := fun i j => .int (i % j)) (fun a b d e => by
  cases a with
  | int i => cases b with
    | int j =>
      have e' : (if decide (0 < j) = true then some (D.int (i % j)) else none) = some d := e
      obtain ⟨h, e2⟩ := ite_some e'
      exact ⟨i, j, rfl, rfl, by have := of_decide_eq_true h; exact this, e2.symm⟩
    | _ => exact bad2 e rfl
  | _ => cases b <;> exact bad2 e rfl) fun _ _ _ _ _ _ => .int _
theorem p_pow : OpR X (binaryOp .Pow) (rP2 X.K .pow) := int_ruleC op_pow (gd := fun i j => .int (i ^ j.toNat)) (fun a b d e => by
  cases a with
  | int i => cases b with
    | int j =>
      have e' : (if decide (0 ≤ j ∧ j ≤ 1000000 ∧ i.natAbs < 2 ^ 64) = true then some (D.int (i ^ j.toNat)) else none) = some d := e
      obtain ⟨h, e2⟩ := ite_some e'
      exact ⟨i, j, rfl, rfl, by have := of_decide_eq_true h; exact this, e2.symm⟩
    | _ => exact bad2 e rfl
  | _ => cases b <;> exact bad2 e rfl) fun _ _ _ _ _ _ => .int _
theorem p_add : OpR X (binaryOp .Add) (rP2 X.K .add) := by
  intro pins s σ H x y v u Q I rx ry h
  obtain ⟨fa, O, ds, d, om, r, e, q⟩ := h
  obtain ⟨a, b, rfl, ra, rb⟩ := r.two
  cases a with
  | int i => cases b with
    | int j =>
      obtain rfl := ra.int
      obtain rfl := rb.int
      obtain rfl : D.int (i + j) = d := Option.some.inj e
      exact op_add pins s σ H _ _ v u Q I rx ry ⟨i, j, rfl, rfl, q _ _ (.refl H) (.int _)⟩
    | _ => exact bad2 e rfl
  | tup l => cases b with
    | tup m =>
      have e' : (if l.length + m.length ≤ line then some (D.tup (l ++ m)) else none) = some d := e
      obtain ⟨hl, rfl⟩ := ite_some e'
      obtain ⟨p1, xs, rfl, h1, r1, i1⟩ := ra.tup
      obtain ⟨p2, ys, rfl, h2, r2, i2⟩ := rb.tup
      refine op_catA pins s σ H _ _ v u Q I rx ry ⟨p1, p2, xs, ys, rfl, rfl, .of h1, .of h2, by rw [iss_len r1, iss_len r2, line_eq]; exact hl, fun z => ?_, fun z1 z2 => ?_, fun _ _ p hp => ?_⟩
      · have : l = [] := List.length_eq_zero_iff.mp (by rw [← iss_len r1, z]; rfl)
        subst this
        exact q _ _ (.refl H) i2
      · have : m = [] := List.length_eq_zero_iff.mp (by rw [← iss_len r2, z2]; rfl)
        subst this
        rw [List.append_nil] at q
        exact q _ _ (.refl H) i1
      · exact q _ _ (same_new hp) (is_tup om hp (r1.app r2))
    | _ => exact bad2 e rfl
  | lst l => cases b with
    | lst m =>
      have e' : (if l.length + m.length ≤ line then some (D.lst (l ++ m)) else none) = some d := e
      obtain ⟨hl, rfl⟩ := ite_some e'
      obtain ⟨p1, xs, rfl, h1, r1⟩ := ra.lst'
      obtain ⟨p2, ys, rfl, h2, r2⟩ := rb.lst'
      exact op_cat pins s σ H _ _ v u Q I rx ry ⟨p1, p2, xs, ys, rfl, rfl, h1, h2, by rw [iss_len r1, iss_len r2, line_eq]; exact hl, fun p hp => q _ _ (same_new hp) (is_lst om hp (r1.app r2))⟩
    | _ => exact bad2 e rfl
  | _ => cases b <;> exact bad2 e rfl
theorem small_ok {i j : Int} (h : (small i || small j) = true) : CMul i j := by
  rcases Bool.or_eq_true_iff.mp h with h | h
  · exact .inl (of_decide_eq_true h)
  · exact .inr (of_decide_eq_true h)
theorem p_mul : OpR X (binaryOp .Mult) (rP2 X.K .mul) := by
  intro pins s σ H x y v u Q I rx ry h
  obtain ⟨fa, O, ds, d, om, r, e, q⟩ := h
  obtain ⟨a, b, rfl, ra, rb⟩ := r.two
  cases a with
  | int i => cases b with
    | int j =>
      have e' : (if (small i || small j) = true then some (D.int (i * j)) else none) = some d := e
      obtain ⟨hl, rfl⟩ := ite_some e'
      obtain rfl := ra.int
      obtain rfl := rb.int
      exact op_mul pins s σ H _ _ v u Q I rx ry ⟨i, j, rfl, rfl, small_ok hl, q _ _ (.refl H) (.int _)⟩
    | _ => exact bad2 e rfl
  | lst l => cases b with
    | int j =>
      have e' : (if (decide (-(2 ^ 62) ≤ j ∧ j < 2 ^ 62) && decide (l.length * j.toNat ≤ line)) = true then some (D.lst (List.replicate j.toNat l).flatten) else none) = some d := e
      obtain ⟨hl, rfl⟩ := ite_some e'
      obtain ⟨h1, h2⟩ := Bool.and_eq_true_iff.mp hl
      have h1 := of_decide_eq_true h1
      have h2 := of_decide_eq_true h2
      obtain ⟨p1, xs, rfl, h3, r1⟩ := ra.lst'
      obtain rfl := rb.int
      exact op_rep pins s σ H _ _ v u Q I rx ry ⟨p1, j, xs, rfl, rfl, h3, by omega, by omega, by rw [iss_len r1, line_eq]; exact h2, fun p hp => q _ _ (same_new hp) (is_lst om hp (r1.rep _))⟩
    | _ => exact bad2 e rfl
  | tup l => cases b with
    | int j =>
      have e' : (if (decide (1 ≤ j ∧ j ≤ 1000) && (decide (l.length ≤ 1000) && !l.isEmpty)) = true then some (D.tup (List.replicate j.toNat l).flatten) else none) = some d := e
      obtain ⟨hl, rfl⟩ := ite_some e'
      obtain ⟨h1, h2⟩ := Bool.and_eq_true_iff.mp hl
      obtain ⟨h2, h3⟩ := Bool.and_eq_true_iff.mp h2
      have h1 := of_decide_eq_true h1
      have h2 := of_decide_eq_true h2
      obtain ⟨p1, xs, rfl, h4, r1, i1⟩ := ra.tup
      obtain rfl := rb.int
      by_cases j1 : j = 1
      · subst j1
        have e1 : (List.replicate (1 : Int).toNat l).flatten = l := by
          show [l].flatten = l
          rw [List.flatten_cons, List.flatten_nil, List.append_nil]
        rw [e1] at q
        exact op_onceT pins s σ H _ _ v u Q I rx ry ⟨p1, xs, rfl, rfl, .of h4, q _ _ (.refl H) i1⟩
      have hn : xs ≠ [] := fun z => by
        have := iss_len r1
        rw [z] at this
        have : l = [] := List.length_eq_zero_iff.mp this.symm
        rw [this] at h3; cases h3
      exact op_repT pins s σ H _ _ v u Q I rx ry ⟨p1, j, xs, rfl, rfl, .of h4, hn, by omega, h1.2, by rw [iss_len r1]; exact h2, fun p hp => q _ _ (same_new hp) (is_tup om hp (r1.rep _))⟩
    | _ => exact bad2 e rfl
  | _ => cases b <;> exact bad2 e rfl
theorem p_neg : UnR X (unaryOp .USub) (fun x H Q => rP X.K .neg [x] H Q) := by
  intro pins s σ H x v Q I rx h
  obtain ⟨fa, O, ds, d, om, r, e, q⟩ := h
  obtain ⟨a, rfl, ra⟩ := r.one'
  cases a with
  | int i =>
    obtain rfl := ra.int
    obtain rfl : D.int (-i) = d := Option.some.inj e
    exact un_neg pins s σ H _ v Q I rx ⟨i, rfl, q _ _ (.refl H) (.int _)⟩
  | _ => exact bad1 e rfl
theorem p_eq (hu : X.A.units + 64 < cLine) : OpR X (compareOp .Eq) (rP2 X.K .eq) := by
  intro pins s σ H x y v u Q I rx ry h
  obtain ⟨fa, O, ds, d, om, r, e, q⟩ := h
  obtain ⟨a, b, rfl, ra, rb⟩ := r.two
  have e' : (if (shp a && shp b) = true then some (D.bl (eqv a b)) else none) = some d := e
  obtain ⟨hs, rfl⟩ := ite_some e'
  obtain ⟨h1, h2⟩ := Bool.and_eq_true_iff.mp hs
  obtain ⟨d1, s1⟩ := shp_py h1
  obtain ⟨d2, s2⟩ := shp_py h2
  refine op_eqD hu pins s σ H _ _ v u Q I rx ry ⟨toPy a, toPy b, is1_dp ra d1, is1_dp rb d2, s1, s2, ?_⟩
  rw [← eqv_py a b d1 d2]
  exact q _ _ (.refl H) (.bl _)
theorem p_ne (hu : X.A.units + 64 < cLine) : OpR X (compareOp .NotEq) (rP2 X.K .ne) := by
  intro pins s σ H x y v u Q I rx ry h
  obtain ⟨fa, O, ds, d, om, r, e, q⟩ := h
  obtain ⟨a, b, rfl, ra, rb⟩ := r.two
  have e' : (if (shp a && shp b) = true then some (D.bl (!eqv a b)) else none) = some d := e
  obtain ⟨hs, rfl⟩ := ite_some e'
  obtain ⟨h1, h2⟩ := Bool.and_eq_true_iff.mp hs
  obtain ⟨d1, s1⟩ := shp_py h1
  obtain ⟨d2, s2⟩ := shp_py h2
  refine op_neD hu pins s σ H _ _ v u Q I rx ry ⟨toPy a, toPy b, is1_dp ra d1, is1_dp rb d2, s1, s2, ?_⟩
  rw [← eqv_py a b d1 d2]
  exact q _ _ (.refl H) (.bl _)
def nonD : D → Bool
  | .non => true
  | _ => false
theorem non_v {K : PySem.W.Frag} {fa : FAd} {H : Hp} {O : Addr → Prop} {x : V} {a : D} (r : Is1 K fa H O x a) : decide (x = .non) = nonD a := by
  cases r with
  | is h => cases h <;> first | rfl | simp [nonD]
  | lst _ _ => simp [nonD]
  | dK _ _ => simp [nonD]
  | dT _ _ => simp [nonD]
theorem p_isN : OpR X (compareOp .Is) (rP2 X.K .isN) := by
  intro pins s σ H x y v u Q I rx ry h
  obtain ⟨fa, O, ds, d, om, r, e, q⟩ := h
  obtain ⟨a, b, rfl, ra, rb⟩ := r.two
  cases b with
  | non =>
    obtain rfl := rb.non
    obtain rfl : D.bl (nonD a) = d := Option.some.inj (by cases a <;> exact e)
    exact op_isN pins s σ H _ _ v u Q I rx ry ⟨rfl, q _ _ (.refl H) (by rw [non_v ra]; exact .bl _)⟩
  | _ => cases a <;> exact bad2 e rfl
theorem p_notN : OpR X (compareOp .IsNot) (rP2 X.K .notN) := by
  intro pins s σ H x y v u Q I rx ry h
  obtain ⟨fa, O, ds, d, om, r, e, q⟩ := h
  obtain ⟨a, b, rfl, ra, rb⟩ := r.two
  cases b with
  | non =>
    obtain rfl := rb.non
    obtain rfl : D.bl (!nonD a) = d := Option.some.inj (by cases a <;> exact e)
    exact op_notN pins s σ H _ _ v u Q I rx ry ⟨rfl, q _ _ (.refl H) (by rw [non_v ra]; exact .bl _)⟩
  | _ => cases a <;> exact bad2 e rfl
theorem dec_beq (a b : Bool) : decide (a = b) = (a == b) := by cases a <;> cases b <;> rfl
theorem p_isB : OpR X (compareOp .Is) (rP2 X.K .isB) := by
  intro pins s σ H x y v u Q I rx ry h
  obtain ⟨fa, O, ds, d, om, r, e, q⟩ := h
  obtain ⟨a, b, rfl, ra, rb⟩ := r.two
  cases a with
  | bl i => cases b with
    | bl j =>
      obtain rfl := ra.bl
      obtain rfl := rb.bl
      obtain rfl : D.bl (i == j) = d := Option.some.inj e
      exact op_isBl pins s σ H _ _ v u Q I rx ry ⟨i, j, rfl, rfl, q _ _ (.refl H) (by rw [dec_beq]; exact .bl _)⟩
    | _ => exact bad2 e rfl
  | _ => cases b <;> exact bad2 e rfl
theorem p_notB : OpR X (compareOp .IsNot) (rP2 X.K .notB) := by
  intro pins s σ H x y v u Q I rx ry h
  obtain ⟨fa, O, ds, d, om, r, e, q⟩ := h
  obtain ⟨a, b, rfl, ra, rb⟩ := r.two
  cases a with
  | bl i => cases b with
    | bl j =>
      obtain rfl := ra.bl
      obtain rfl := rb.bl
      obtain rfl : D.bl (!(i == j)) = d := Option.some.inj e
      exact op_notBl pins s σ H _ _ v u Q I rx ry ⟨i, j, rfl, rfl, q _ _ (.refl H) (by rw [dec_beq]; exact .bl _)⟩
    | _ => exact bad2 e rfl
  | _ => cases b <;> exact bad2 e rfl
end
end Ev
set_option Elab.async false
set_option linter.all false
set_option maxRecDepth 100000
set_option maxHeartbeats 1000000
namespace Ev
open PySem PySem.Spec PyProof.Rows L2

theorem eqv_kD (a b : Key) : eqv (kD a) (kD b) = decide (a = b) := by
  cases a with
  | inl i => cases b with
    | inl j => show (i == j) = _; rw [key_ll]
    | inr y => show false = _; rw [key_lr]
  | inr x => cases b with
    | inl j => show false = _; rw [key_rl]
    | inr y => show (x == y) = _; rw [key_rr]; exact Bool.beq_eq_decide_eq x y
theorem eqvs_kD : ∀ (a b : List Key), eqvs (a.map kD) (b.map kD) = decide (a = b)
  | [], [] => rfl
  | [], _ :: _ => by simp [eqvs]
  | _ :: _, [] => by simp [eqvs]
  | x :: xs, y :: ys => by
    show (eqv (kD x) (kD y) && eqvs (xs.map kD) (ys.map kD)) = _
    rw [eqv_kD, eqvs_kD xs ys]
    simp [List.cons.injEq]
def VD (K : PySem.W.Frag) (fa : FAd) (H : Hp) (O : Addr → Prop) : Option V → Option D → Prop
  | some v, some d => Is K fa H O v d
  | none, none => True
  | _, _ => False
theorem isk_look {K : PySem.W.Frag} {fa : FAd} {H : Hp} {O : Addr → Prop} (k : Key) : ∀ {kvs : List (Key × V)} {es : List (D × D)}, Isk K fa H O kvs es → VD K fa H O (valV kvs k) (dlook es (kD k))
  | _, _, .nil => trivial
  | _, _, .cons (k := k') (v := v) (vs := vs) (d := d) (ds := ds) a t => by
    by_cases e : k' = k
    · rw [valV_pos (p := (k', v)) e]
      have : dlook ((kD k', d) :: ds) (kD k) = some d := by
        unfold dlook
        rw [List.find?_cons, show eqv (kD k', d).1 (kD k) = true from by rw [eqv_kD]; exact decide_eq_true e]; rfl
      rw [this]; exact a
    · rw [valV_neg (p := (k', v)) e]
      have : dlook ((kD k', d) :: ds) (kD k) = dlook ds (kD k) := by
        unfold dlook
        rw [List.find?_cons, show eqv (kD k', d).1 (kD k) = false from by rw [eqv_kD]; exact decide_eq_false e]
      rw [this]; exact isk_look k t
theorem ist_look {K : PySem.W.Frag} {fa : FAd} {H : Hp} {O : Addr → Prop} (k : List Key) : ∀ {kvs : List (List Key × V)} {es : List (D × D)}, Ist K fa H O kvs es → VD K fa H O (valV kvs k) (dlook es (.tup (k.map kD)))
  | _, _, .nil => trivial
  | _, _, .cons (k := k') (v := v) (vs := vs) (d := d) (ds := ds) a t => by
    by_cases e : k' = k
    · rw [valV_pos (p := (k', v)) e]
      have : dlook ((.tup (k'.map kD), d) :: ds) (.tup (k.map kD)) = some d := by
        unfold dlook
        rw [List.find?_cons, show eqv (D.tup (k'.map kD), d).1 (.tup (k.map kD)) = true from (eqvs_kD k' k).trans (decide_eq_true e)]; rfl
      rw [this]; exact a
    · rw [valV_neg (p := (k', v)) e]
      have : dlook ((.tup (k'.map kD), d) :: ds) (.tup (k.map kD)) = dlook ds (.tup (k.map kD)) := by
        unfold dlook
        rw [List.find?_cons, show eqv (D.tup (k'.map kD), d).1 (.tup (k.map kD)) = false from (eqvs_kD k' k).trans (decide_eq_false e)]
      rw [this]; exact ist_look k t
theorem key_of_D {K : PySem.W.Frag} {fa : FAd} {H : Hp} {O : Addr → Prop} {y : V} {k : D} (r : Is K fa H O y k) (h : key? k = true) : ∃ q : Key, y = kV q ∧ k = kD q := by
  cases r with
  | int i => exact ⟨.inl i, rfl, rfl⟩
  | str x => exact ⟨.inr x, rfl, rfl⟩
  | _ => exact absurd h Bool.false_ne_true
theorem keys_of_D {K : PySem.W.Frag} {fa : FAd} {H : Hp} {O : Addr → Prop} : ∀ {ys : List V} {ks : List D}, Iss K fa H O ys ks → ks.all key? = true → ∃ q : List Key, ys = q.map kV ∧ ks = q.map kD
  | _, _, .nil, _ => ⟨[], rfl, rfl⟩
  | _, _, .cons a t, h => by
    have h' := Bool.and_eq_true_iff.mp h
    obtain ⟨q, rfl, rfl⟩ := key_of_D a h'.1
    obtain ⟨qs, rfl, rfl⟩ := keys_of_D t h'.2
    exact ⟨q :: qs, rfl, rfl⟩
section
variable {K : PySem.W.Frag} {fa : FAd} {H : Hp} {O : Addr → Prop}
theorem dget_of {x y : V} {t : Bool} {es : List (D × D)} {k : D} (rx : Is1 K fa H O x (.dct t es)) (ry : Is1 K fa H O y k) (hk : hkey t k = true) :
    ∃ a o, x = .ref a ∧ DGet H a y o ∧ VD K fa H O o (dlook es k) ∧ tyV K "dict" x H := by
  cases t with
  | false =>
    obtain ⟨a, kvs, rfl, h, r⟩ := rx.dctK
    have hk' : key? k = true := by cases k <;> first | rfl | exact hk
    have : ∃ q : Key, y = kV q ∧ k = kD q := by
      cases ry with
      | is ry => exact key_of_D ry hk'
      | _ => exact absurd hk' Bool.false_ne_true
    obtain ⟨q, rfl, rfl⟩ := this
    exact ⟨a, _, rfl, .k h, isk_look q r, .inr (.inr (.inl ⟨rfl, .inl ⟨_, h⟩⟩))⟩
  | true =>
    obtain ⟨a, kvs, rfl, h, r⟩ := rx.dctT
    cases k with
    | tup l =>
      obtain ⟨b, xs, rfl, h2, r2, _⟩ := ry.tup
      obtain ⟨q, rfl, rfl⟩ := keys_of_D r2 hk
      exact ⟨a, _, rfl, .t h h2, ist_look q r, .inr (.inr (.inl ⟨rfl, .inr ⟨_, h⟩⟩))⟩
    | _ => exact absurd hk Bool.false_ne_true
theorem vd_some {o : Option V} {d : D} (h : VD K fa H O o (some d)) : ∃ v, o = some v ∧ Is K fa H O v d := by
  cases o with
  | none => exact False.elim h
  | some v => exact ⟨v, rfl, h⟩
theorem vd_is {o : Option V} {d : Option D} (h : VD K fa H O o d) : o.isSome = d.isSome := by
  cases o with
  | none => cases d with
    | none => rfl
    | some _ => exact False.elim h
  | some v => cases d with
    | none => exact False.elim h
    | some _ => rfl
theorem vd_getD {o : Option V} {d : Option D} {x : V} {y : D} (h : VD K fa H O o d) (r : Is K fa H O x y) : Is K fa H O (o.getD x) (d.getD y) := by
  cases o with
  | none => cases d with
    | none => exact r
    | some _ => exact False.elim h
  | some v => cases d with
    | none => exact False.elim h
    | some _ => exact h
end
section
variable {X : Cx}
theorem atI_is {K : PySem.W.Frag} {fa : FAd} {H : Hp} {O : Addr → Prop} {xs : List V} {ds : List D} {i : Int} {d : D} (r : Iss K fa H O xs ds) (e : L2.atI ds i = some d) : ∃ v, L2.atI xs i = some v ∧ Is K fa H O v d := by
  unfold L2.atI at e ⊢
  rw [iss_len r]
  cases h : ixN ds.length i with
  | none => rw [h] at e; cases e
  | some j =>
    rw [h] at e
    exact r.get e
def rIxD : R2 := fun x y H Q => ∃ a v, x = .ref a ∧ DGet H a y (some v) ∧ Q v H
theorem ix_dict (hu : X.A.units + 1 < cLine) : IxR X rIxD := by
  intro value slice pins s σ H x y v u Q I rx ry h hs
  obtain ⟨a, z, rfl, g, q⟩ := h
  obtain rfl : v = Value.ref a := rx
  have hT := dict_typeIs I g
  unfold subscriptTail
  refine wpAny_bind ?_
  rw [getitemInPython_of_ne hT.not_modules]
  refine wpAny_bind (wpAny_specialOf hT PySem.F.slot_dict_getitem.lookup ?_)
  have fin : wpAny (model X.prog X.w) X.A (subscripted slice false (.ref a) u) (fun r s₃ => wpAny (model X.prog X.w) X.A (letTemporaryGo value (.ref a) r >>= fun _ => pure r) (EP X pins σ Q) X.xe s₃) X.xe s := by
    rw [hs]
    exact wpAny_operating (d_getItem hu I g ry fun w' s3 I3 rw' => wpAny_bind (wpAny_letTemporaryGo (wpAny_pure ⟨z, H, I3, rw', q⟩)))
  first
    | exact wpAny_pure (wpAny_bind fin)
    | exact wpAny_bind (wpAny_pure (wpAny_bind fin))
    | exact wpAny_bind fin
theorem p_ix (hu : X.A.units + 1 < cLine) : IxR X (rP2 X.K .ix) := by
  intro value slice pins s σ H x y v u Q I rx ry h hs
  obtain ⟨fa, O, ds, d, om, r, e, q⟩ := h
  obtain ⟨a, b, rfl, ra, rb⟩ := r.two
  cases a with
  | tup l => cases b with
    | int i =>
      obtain ⟨p, xs, rfl, h, r1, _⟩ := ra.tup
      obtain rfl := rb.int
      have e' : L2.atI l i = some d := e
      obtain ⟨z, ez, rz⟩ := atI_is r1 e'
      exact ix_tup value slice pins s σ H _ _ v u Q I rx ry ⟨p, xs, i, z, rfl, rfl, .of h, ez, q _ _ (.refl H) rz⟩ hs
    | _ => exact bad2 e rfl
  | lst l => cases b with
    | int i =>
      obtain ⟨p, xs, rfl, h, r1⟩ := ra.lst'
      obtain rfl := rb.int
      have e' : L2.atI l i = some d := e
      obtain ⟨z, ez, rz⟩ := atI_is r1 e'
      exact ix_list value slice pins s σ H _ _ v u Q I rx ry ⟨p, xs, i, z, rfl, rfl, .of h, ez, q _ _ (.refl H) rz⟩ hs
    | _ => exact bad2 e rfl
  | dct t es =>
    have e' : (if hkey t b = true then dlook es b else none) = some d := by cases b <;> exact e
    by_cases hk : hkey t b = true
    · rw [if_pos hk] at e'
      obtain ⟨p, o, rfl, g, vd, _⟩ := dget_of ra rb hk
      rw [e'] at vd
      obtain ⟨z, rfl, rz⟩ := vd_some vd
      exact ix_dict hu value slice pins s σ H _ _ v u Q I rx ry ⟨p, z, rfl, g, q _ _ (.refl H) rz⟩ hs
    · rw [if_neg hk] at e'; cases e'
  | _ => cases b <;> exact bad2 e rfl
theorem any_py {a : D} (ha : dok a = true) : ∀ l : List D, doks l = true → (l.any fun z => eqv z a) = (toPys l).any fun z => PyData.eqv z (toPy a)
  | [], _ => rfl
  | x :: xs, h => by
    have h1 := Bool.and_eq_true_iff.mp h
    rw [List.any_cons, any_py ha xs h1.2, eqv_py x a h1.1 ha]
    rfl
theorem op_inT (hu : X.A.units + 65 < cLine) : OpR X (compareOp .In) (fun x y H Q => ∃ d ds, Dp X.K H x d ∧ Dp X.K H y (.tuple ds) ∧ SeqAt.shaped d = true ∧ SeqAt.shaped (.tuple ds) = true ∧ Q (.bl (ds.any fun z => PyData.eqv z d)) H) := by
  intro pins s σ H x y v u Q I rx ry h
  obtain ⟨d, ds, hd, he, sd, se, q⟩ := h
  obtain ⟨as, r1⟩ := Dp.reads I d x v hd rx
  obtain ⟨bs, r2⟩ := Dp.reads I (.tuple ds) y u he ry
  exact SeqAt.in_tuple_reads r2 r1 (SeqAt.canLay_of_shaped se) (SeqAt.canLay_of_shaped sd) (room_in_shaped sd hu) ⟨.bl _, H, I, rfl, q⟩
theorem op_notInT (hu : X.A.units + 65 < cLine) : OpR X (compareOp .NotIn) (fun x y H Q => ∃ d ds, Dp X.K H x d ∧ Dp X.K H y (.tuple ds) ∧ SeqAt.shaped d = true ∧ SeqAt.shaped (.tuple ds) = true ∧ Q (.bl (!ds.any fun z => PyData.eqv z d)) H) := by
  intro pins s σ H x y v u Q I rx ry h
  obtain ⟨d, ds, hd, he, sd, se, q⟩ := h
  obtain ⟨as, r1⟩ := Dp.reads I d x v hd rx
  obtain ⟨bs, r2⟩ := Dp.reads I (.tuple ds) y u he ry
  exact SeqAt.notIn_tuple_reads r2 r1 (SeqAt.canLay_of_shaped se) (SeqAt.canLay_of_shaped sd) (room_in_shaped sd hu) ⟨.bl _, H, I, rfl, q⟩
theorem op_inDict (hu : X.A.units + 1 < cLine) : OpR X (compareOp .In) (fun x y H Q => ∃ a o, y = .ref a ∧ DGet H a x o ∧ Q (.bl o.isSome) H) := by
  intro pins s σ H x y v u Q I rx ry h
  obtain ⟨a, o, rfl, g, q⟩ := h
  obtain rfl : u = Value.ref a := ry
  exact d_in hu I g rx fun s3 I3 => ⟨.bl _, H, I3, rfl, q⟩
theorem op_notInDict (hu : X.A.units + 1 < cLine) : OpR X (compareOp .NotIn) (fun x y H Q => ∃ a o, y = .ref a ∧ DGet H a x o ∧ Q (.bl (!o.isSome)) H) := by
  intro pins s σ H x y v u Q I rx ry h
  obtain ⟨a, o, rfl, g, q⟩ := h
  obtain rfl : u = Value.ref a := ry
  exact d_notIn hu I g rx fun s3 I3 => ⟨.bl _, H, I3, rfl, q⟩
theorem p_isIn (hu : X.A.units + 65 < cLine) : OpR X (compareOp .In) (rP2 X.K .isIn) := by
  intro pins s σ H x y v u Q I rx ry h
  obtain ⟨fa, O, ds, d, om, r, e, q⟩ := h
  obtain ⟨a, b, rfl, ra, rb⟩ := r.two
  cases b with
  | tup l =>
    have e' : (if (shp a && shp (.tup l)) = true then some (D.bl (l.any fun z => eqv z a)) else none) = some d := by cases a <;> exact e
    obtain ⟨hs, rfl⟩ := ite_some e'
    obtain ⟨h1, h2⟩ := Bool.and_eq_true_iff.mp hs
    obtain ⟨d1, s1⟩ := shp_py h1
    obtain ⟨d2, s2⟩ := shp_py h2
    refine op_inT hu pins s σ H _ _ v u Q I rx ry ⟨toPy a, toPys l, is1_dp ra d1, is1_dp rb d2, s1, s2, ?_⟩
    rw [← any_py d1 l d2]
    exact q _ _ (.refl H) (.bl _)
  | lst l =>
    have e' : (if (shp a && shp (.lst l)) = true then some (D.bl (l.any fun z => eqv z a)) else none) = some d := by cases a <;> exact e
    obtain ⟨hs, rfl⟩ := ite_some e'
    obtain ⟨h1, h2⟩ := Bool.and_eq_true_iff.mp hs
    obtain ⟨d1, s1⟩ := shp_py h1
    obtain ⟨d2, s2⟩ := shp_py h2
    refine op_inD hu pins s σ H _ _ v u Q I rx ry ⟨toPy a, toPys l, is1_dp ra d1, is1_dp rb d2, s1, s2, ?_⟩
    rw [← any_py d1 l d2]
    exact q _ _ (.refl H) (.bl _)
  | dct t es =>
    have e' : (if hkey t a = true then some (D.bl (dlook es a).isSome) else none) = some d := by cases a <;> exact e
    obtain ⟨hk, rfl⟩ := ite_some e'
    obtain ⟨p, o, rfl, g, vd, _⟩ := dget_of rb ra hk
    exact op_inDict (by omega) pins s σ H _ _ v u Q I rx ry ⟨p, o, rfl, g, q _ _ (.refl H) (by rw [vd_is vd]; exact .bl _)⟩
  | _ => cases a <;> exact bad2 e rfl
theorem p_notIn (hu : X.A.units + 65 < cLine) : OpR X (compareOp .NotIn) (rP2 X.K .notIn) := by
  intro pins s σ H x y v u Q I rx ry h
  obtain ⟨fa, O, ds, d, om, r, e, q⟩ := h
  obtain ⟨a, b, rfl, ra, rb⟩ := r.two
  cases b with
  | tup l =>
    have e' : (if (shp a && shp (.tup l)) = true then some (D.bl (!l.any fun z => eqv z a)) else none) = some d := by cases a <;> exact e
    obtain ⟨hs, rfl⟩ := ite_some e'
    obtain ⟨h1, h2⟩ := Bool.and_eq_true_iff.mp hs
    obtain ⟨d1, s1⟩ := shp_py h1
    obtain ⟨d2, s2⟩ := shp_py h2
    refine op_notInT hu pins s σ H _ _ v u Q I rx ry ⟨toPy a, toPys l, is1_dp ra d1, is1_dp rb d2, s1, s2, ?_⟩
    rw [← any_py d1 l d2]
    exact q _ _ (.refl H) (.bl _)
  | lst l =>
    have e' : (if (shp a && shp (.lst l)) = true then some (D.bl (!l.any fun z => eqv z a)) else none) = some d := by cases a <;> exact e
    obtain ⟨hs, rfl⟩ := ite_some e'
    obtain ⟨h1, h2⟩ := Bool.and_eq_true_iff.mp hs
    obtain ⟨d1, s1⟩ := shp_py h1
    obtain ⟨d2, s2⟩ := shp_py h2
    refine op_notInD hu pins s σ H _ _ v u Q I rx ry ⟨toPy a, toPys l, is1_dp ra d1, is1_dp rb d2, s1, s2, ?_⟩
    rw [← any_py d1 l d2]
    exact q _ _ (.refl H) (.bl _)
  | dct t es =>
    have e' : (if hkey t a = true then some (D.bl (!(dlook es a).isSome)) else none) = some d := by cases a <;> exact e
    obtain ⟨hk, rfl⟩ := ite_some e'
    obtain ⟨p, o, rfl, g, vd, _⟩ := dget_of rb ra hk
    exact op_notInDict (by omega) pins s σ H _ _ v u Q I rx ry ⟨p, o, rfl, g, q _ _ (.refl H) (by rw [vd_is vd]; exact .bl _)⟩
  | _ => cases a <;> exact bad2 e rfl
end
end Ev
set_option Elab.async false
set_option linter.all false
set_option maxRecDepth 100000
set_option maxHeartbeats 1000000
namespace Ev
open PySem PySem.Spec PyProof.Rows L2
section
variable {X : Cx}
def rSlD (K : PySem.W.Frag) : V → Option Int → Option Int → Hp → VK → Prop := fun x lo hi H Q => ∃ (fa : FAd) (O : Addr → Prop) (a d : D), OMut H O ∧ Is1 K fa H O x a ∧ cut? a lo hi = some d ∧ ∀ v H', Same H H' → Is K fa H' O v d → Q v H'
theorem sIx_whole {l : List D} {lo hi : Option Int} (h : HT.sIx l.length 0 lo = 0 ∧ HT.sIx l.length l.length hi = l.length) : cutD l lo hi = l := by
  unfold cutD
  rw [h.1, h.2]
  simp
theorem p_sl : SlR X (rSlD X.K) := by
  intro pins s σ H x v vl vu lo hi sl Q I rx hs pl pu h
  obtain ⟨fa, O, a, d, om, ra, e, q⟩ := h
  cases a with
  | tup l =>
    obtain rfl : D.tup (cutD l lo hi) = d := Option.some.inj e
    obtain ⟨p, xs, rfl, h1, r1, i1⟩ := ra.tup
    have el := iss_len r1
    refine sl_tupA pins s σ H _ v vl vu lo hi sl Q I rx hs pl pu ⟨p, xs, rfl, .of h1, fun z => ?_, fun z p hp => q _ _ (same_new hp) (is_tup om hp (r1.cut lo hi))⟩
    rw [el] at z
    rw [sIx_whole z] at q
    exact q _ _ (.refl H) i1
  | lst l =>
    obtain rfl : D.lst (cutD l lo hi) = d := Option.some.inj e
    obtain ⟨p, xs, rfl, h1, r1⟩ := ra.lst'
    exact sl_list pins s σ H _ v vl vu lo hi sl Q I rx hs pl pu ⟨p, xs, rfl, .of h1, fun p hp => q _ _ (same_new hp) (is_lst om hp (r1.cut lo hi))⟩
  | _ => cases (show (none : Option D) = some d from e)
section
variable {g : Gx} {W : WX} {pos p2 : Pos} {a b c : Expr} {Ga Gb Gc : En → R Arg}
theorem Args.one {ε : En} {as : List Arg} {a : Arg} {ds : List D} (h : Args.ds ε (a :: as) = some ds) : ∃ d r, a.d ε = some d ∧ Args.ds ε as = some r ∧ ds = d :: r := by
  have h' : (match a.d ε with | some d => (Args.ds ε as).map (d :: ·) | none => none) = some ds := h
  cases h1 : a.d ε with
  | none => rw [h1] at h'; cases h'
  | some d =>
    rw [h1] at h'
    cases h2 : Args.ds ε as with
    | none => rw [h2] at h'; cases h'
    | some r => rw [h2] at h'; cases h'; exact ⟨d, r, rfl, rfl, rfl⟩
theorem sl_fin {p : P} {ε : En} {As : Ass} {T : List Addr} {σ : L2.St} {H : Hp} {as : List Arg} {vs : List V} {Q : VK} (F : FI g ε As T σ H) (hv : ArgsOk g As T σ H vs as)
    (h : Pst g W As T σ H (match Args.ds ε as with | some ds => (match pr p ds with | some d => R.ok d ε | none => .bad) | none => .bad) fun d _ As' H' => ∀ v, IsG g As' T H' v d → Q v H') :
    ∃ ds d, Args.ds ε as = some ds ∧ Iss1 g.K g.fa H (Ow g As T) vs ds ∧ pr p ds = some d ∧ ∀ v H', Same H H' → Is g.K g.fa H' (Ow g As T) v d → Q v H' := by
  cases e1 : Args.ds ε as with
  | none => rw [e1] at h; exact False.elim h
  | some ds =>
    rw [e1] at h
    cases e2 : pr p ds with
    | none => simp only [e2] at h; exact False.elim h
    | some d =>
      simp only [e2] at h
      exact ⟨ds, d, rfl, hv.iss1 F e1, e2, fun v H' s r => h As H' (F.grow s) (.of_same s) v r⟩
theorem e_sl00 (ha : PE X a (tG g W Ga)) (hK : g.K = X.K) : PE X (.Subscript a (.Slice none none none p2) pos) (tE g W fun ε => opR (.sl false false) (args1 Ga ε)) :=
  PE.imp (pe_slice p_sl ha po_none po_none) fun σ H Q ⟨ε, As, T, F, h⟩ => by
    have h : Pst g W As T σ H ((args1 Ga ε).bind _) _ := h
    refine ⟨ε, As, T, F, (Pst.bind (Pst.bind h)).mono fun a ε1 As1 H1 F1 s1 k x rx => ?_⟩
    obtain ⟨ds, d, e1, r, e2, q⟩ := sl_fin F1 (.cons rx .nil) (k.here F1)
    obtain ⟨z, rfl, rz⟩ := r.one'
    rw [← hK]
    exact ⟨g.fa, Ow g As1 T, z, d, F1.om, rz, e2, q⟩
theorem int_of_pr {x y d : D} {f : D → Option Int → Option D} (e : (match y with | .int i => f x (some i) | _ => none) = some d) : ∃ i, y = .int i ∧ f x (some i) = some d := by
  cases y with
  | int i => exact ⟨i, rfl, e⟩
  | _ => cases e
theorem e_sl10 (ha : PE X a (tG g W Ga)) (hb : PE X b (tG g W Gb)) (hK : g.K = X.K) : PE X (.Subscript a (.Slice (some b) none none p2) pos) (tE g W fun ε => opR (.sl true false) (args2 Ga Gb ε)) :=
  PE.imp (pe_slice p_sl ha (po_some hb) po_none) fun σ H Q ⟨ε, As, T, F, h⟩ => by
    have h : Pst g W As T σ H ((args2 Ga Gb ε).bind _) _ := h
    refine ⟨ε, As, T, F, (Pst.bind (Pst.bind h)).mono fun a ε1 As1 H1 F1 s1 k x rx => ⟨ε1, As1, T, F1, (Pst.bind k).mono fun b ε2 As2 H2 F2 s2 k2 y ry => ?_⟩⟩
    obtain ⟨ds, d, e1, r, e2, q⟩ := sl_fin F2 (.cons (rx.step F1 s2) (.cons ry .nil)) (k2.here F2)
    obtain ⟨z, u, rfl, rz, ru⟩ := r.two
    have : ∃ i, u = .int i ∧ cut? z (some i) none = some d := by
      cases u with
      | int i => exact ⟨i, rfl, e2⟩
      | _ => cases z <;> exact bad2 e2 rfl
    obtain ⟨i, rfl, e3⟩ := this
    refine ⟨i, ru.int, ?_⟩
    rw [← hK]
    exact ⟨g.fa, Ow g As2 T, z, d, F2.om, rz, e3, q⟩
theorem e_sl01 (ha : PE X a (tG g W Ga)) (hb : PE X b (tG g W Gb)) (hK : g.K = X.K) : PE X (.Subscript a (.Slice none (some b) none p2) pos) (tE g W fun ε => opR (.sl false true) (args2 Ga Gb ε)) :=
  PE.imp (pe_slice p_sl ha po_none (po_some hb)) fun σ H Q ⟨ε, As, T, F, h⟩ => by
    have h : Pst g W As T σ H ((args2 Ga Gb ε).bind _) _ := h
    refine ⟨ε, As, T, F, (Pst.bind (Pst.bind h)).mono fun a ε1 As1 H1 F1 s1 k x rx => ⟨ε1, As1, T, F1, (Pst.bind k).mono fun b ε2 As2 H2 F2 s2 k2 y ry => ?_⟩⟩
    obtain ⟨ds, d, e1, r, e2, q⟩ := sl_fin F2 (.cons (rx.step F1 s2) (.cons ry .nil)) (k2.here F2)
    obtain ⟨z, u, rfl, rz, ru⟩ := r.two
    have : ∃ i, u = .int i ∧ cut? z none (some i) = some d := by
      cases u with
      | int i => exact ⟨i, rfl, e2⟩
      | _ => cases z <;> exact bad2 e2 rfl
    obtain ⟨i, rfl, e3⟩ := this
    refine ⟨i, ru.int, ?_⟩
    rw [← hK]
    exact ⟨g.fa, Ow g As2 T, z, d, F2.om, rz, e3, q⟩
theorem Iss1.vs1 {K : PySem.W.Frag} {fa : FAd} {H : Hp} {O : Addr → Prop} {vs : List V} {a : D} (h : Iss1 K fa H O vs [a]) : ∃ x, vs = [x] ∧ Is1 K fa H O x a := by
  cases h with | cons h1 h => cases h; exact ⟨_, rfl, h1⟩
theorem Iss1.vs2 {K : PySem.W.Frag} {fa : FAd} {H : Hp} {O : Addr → Prop} {vs : List V} {a b : D} (h : Iss1 K fa H O vs [a, b]) : ∃ x y, vs = [x, y] ∧ Is1 K fa H O x a ∧ Is1 K fa H O y b := by
  cases h with | cons h1 h => cases h with | cons h2 h => cases h; exact ⟨_, _, rfl, h1, h2⟩
theorem Iss1.three {K : PySem.W.Frag} {fa : FAd} {H : Hp} {O : Addr → Prop} {x y z : V} {ds : List D} (h : Iss1 K fa H O [x, y, z] ds) : ∃ a b c, ds = [a, b, c] ∧ Is1 K fa H O x a ∧ Is1 K fa H O y b ∧ Is1 K fa H O z c := by
  cases h with | cons h1 h => cases h with | cons h2 h => cases h with | cons h3 h => cases h; exact ⟨_, _, _, rfl, h1, h2, h3⟩
def args3 (Ga Gb Gc : En → R Arg) (ε : En) : R (List Arg) := (Ga ε).bind fun a ε1 => (Gb ε1).bind fun b ε2 => (Gc ε2).bind fun c ε3 => .ok [a, b, c] ε3
theorem e_sl11 (ha : PE X a (tG g W Ga)) (hb : PE X b (tG g W Gb)) (hc : PE X c (tG g W Gc)) (hK : g.K = X.K) : PE X (.Subscript a (.Slice (some b) (some c) none p2) pos) (tE g W fun ε => opR (.sl true true) (args3 Ga Gb Gc ε)) := by
  refine ⟨fun pins s σ H Q I ⟨ε, As, T, F, h⟩ => ?_⟩
  have h : Pst g W As T σ H ((args3 Ga Gb Gc ε).bind _) _ := h
  refine Subscript_ (thn (ha.run pins s σ H (fun x H1 => tG g W Gb σ H1 fun y H2 => tG g W Gc σ H2 fun z H3 => ∃ i j : Int, y = .int i ∧ z = .int j ∧ rSlD X.K x (some i) (some j) H3 Q) I
    ⟨ε, As, T, F, (Pst.bind (Pst.bind h)).mono fun a ε1 As1 H1 F1 s1 k x rx => ⟨ε1, As1, T, F1, (Pst.bind k).mono fun b ε2 As2 H2 F2 s2 k2 y ry => ⟨ε2, As2, T, F2, (Pst.bind k2).mono fun c ε3 As3 H3 F3 s3 k3 z rz => ?_⟩⟩⟩) fun v s1 ⟨x, H1, I1, r1, q1⟩ => ?_)
  · obtain ⟨ds, d, e1, r, e2, q⟩ := sl_fin F3 (.cons (rx.step F1 (s2.trans s3)) (.cons (ry.step F2 s3) (.cons rz .nil))) (k3.here F3)
    obtain ⟨a, b, c, rfl, rx, ry, rz⟩ := r.three
    have : ∃ i j, b = .int i ∧ c = .int j ∧ cut? a (some i) (some j) = some d := by
      cases b with
      | int i => cases c with
        | int j => exact ⟨i, j, rfl, rfl, e2⟩
        | _ => cases a <;> exact absurd (show (none : Option D) = some d from e2) (fun z => by cases z)
      | _ => cases a <;> cases c <;> exact absurd (show (none : Option D) = some d from e2) (fun z => by cases z)
    obtain ⟨i, j, rfl, rfl, e3⟩ := this
    refine ⟨i, j, ry.int, rz.int, ?_⟩
    rw [← hK]
    exact ⟨g.fa, Ow g As3 T, a, d, F3.om, rx, e3, q⟩
  refine wpAny_Slice (by
    rw [evalPart_some]
    exact thn (hb.run pins s1 σ H1 _ I1 q1) fun vl s2 ⟨y, H2, I2, r2, q2⟩ => by
      rw [evalPart_some]
      exact thn (hc.run pins s2 σ H2 _ I2 q2) fun vu s3 ⟨z, H3, I3, r3, i, j, e1, e2, q3⟩ => by
        subst e1 e2
        obtain ⟨t1, rfl⟩ := r2
        obtain ⟨t2, rfl⟩ := r3
        rw [evalPart_none]
        refine wpAny_pure ?_
        have I4 : Inv X pins σ H3 { s3 with heap := s3.heap.push { cls := .type "slice", data := .fields #[.int i t1, .int j t2, .none] } } := I3.kept (t' := s3.toks) fun b ob q => Heap.get?_push_of_some _ q
        obtain ⟨Ty, id, hT, ht, hg⟩ := p_sl pins { s3 with heap := s3.heap.push { cls := .type "slice", data := .fields #[.int i t1, .int j t2, .none] } } σ H3 x v (.int i t1) (.int j t2) (some i) (some j) s3.heap.objs.size Q I4 r1 (Heap.IsSliceOf.new ..) (.int i t1) (.int j t2) q3
        show wpAny (model X.prog X.w) X.A (subscriptTail a (.Slice (some b) (some c) none p2) v (.ref s3.heap.objs.size)) (EP X pins σ Q) X.xe { s3 with heap := s3.heap.push { cls := .type "slice", data := .fields #[.int i t1, .int j t2, .none] } }
        exact tail_any (ops := [.ref s3.heap.objs.size, v]) ht hT hg (by with_unfolding_all rfl))
end
theorem isk_len {K : PySem.W.Frag} {fa : FAd} {H : Hp} {O : Addr → Prop} : ∀ {vs : List (Key × V)} {ds : List (D × D)}, Isk K fa H O vs ds → vs.length = ds.length
  | _, _, .nil => rfl
  | _, _, .cons _ t => by rw [List.length_cons, List.length_cons, isk_len t]
theorem ist_len {K : PySem.W.Frag} {fa : FAd} {H : Hp} {O : Addr → Prop} : ∀ {vs : List (List Key × V)} {ds : List (D × D)}, Ist K fa H O vs ds → vs.length = ds.length
  | _, _, .nil => rfl
  | _, _, .cons _ t => by rw [List.length_cons, List.length_cons, ist_len t]
theorem p_len : CallR X (.builtin "len") (rP X.K .len) := by
  intro pins s σ H xs us Q I r h
  obtain ⟨fa, O, ds, d, om, r1, e, q⟩ := h
  cases r1 with
  | nil => cases (show (none : Option D) = some d from e)
  | cons ra r1 => cases r1 with
    | cons _ _ => cases (show (none : Option D) = some d from (by rename_i a _ _ _ _ _ _; cases a <;> exact e))
    | nil =>
      rename_i x a
      cases a with
      | tup l =>
        obtain ⟨p, xs, rfl, h1, rl, _⟩ := ra.tup
        obtain rfl : D.int l.length = d := Option.some.inj e
        refine call_len_seq pins s σ H _ us Q I r ⟨p, xs, rfl, .inr (.of h1), ?_⟩
        rw [iss_len rl]
        exact q _ _ (.refl H) (.int _)
      | lst l =>
        obtain ⟨p, xs, rfl, h1, rl⟩ := ra.lst'
        obtain rfl : D.int l.length = d := Option.some.inj e
        refine call_len_seq pins s σ H _ us Q I r ⟨p, xs, rfl, .inl (.of h1), ?_⟩
        rw [iss_len rl]
        exact q _ _ (.refl H) (.int _)
      | dct t l =>
        obtain rfl : D.int l.length = d := Option.some.inj e
        cases t with
        | false =>
          obtain ⟨p, kvs, rfl, h1, rl⟩ := ra.dctK
          obtain ⟨u, rfl, rx⟩ := vals1 r
          obtain rfl : u = Value.ref p := rx
          refine d_len I (.inl h1) fun t s' I' => ⟨.int (kvs.length : Int), H, I', ⟨t, rfl⟩, ?_⟩
          rw [isk_len rl]
          exact q _ _ (.refl H) (.int _)
        | true =>
          obtain ⟨p, kvs, rfl, h1, rl⟩ := ra.dctT
          refine call_len_dT pins s σ H _ us Q I r ⟨p, kvs, rfl, h1, ?_⟩
          show Q (.int (kvs.length : Int)) H
          rw [ist_len rl]
          exact q _ _ (.refl H) (.int _)
      | _ => exact bad1 e rfl
theorem call1 {p : P} {f : Value} (hn : ∀ ds d, pr p ds = some d → ∃ a, ds = [a])
    (h : ∀ (pins : List (Addr × Obj)) (s : Shared) (σ : L2.St) (H : Hp) (x : V) (u : Value) (Q : VK) (fa : FAd) (O : Addr → Prop) (a d : D), Inv X pins σ H s → RelV x u → OMut H O → Is1 X.K fa H O x a → pr p [a] = some d →
      (∀ v H', Same H H' → Is X.K fa H' O v d → Q v H') → wpAny (model X.prog X.w) X.A (call f [u]) (EP X pins σ Q) X.xe s) : CallR X f (rP X.K p) := by
  intro pins s σ H xs us Q I r ⟨fa, O, ds, d, om, r1, e, q⟩
  obtain ⟨a, rfl⟩ := hn ds d e
  obtain ⟨_, rfl, ra⟩ := r1.vs1
  obtain ⟨u, rfl, rx⟩ := vals1 r
  exact h pins s σ H _ u Q fa O a d I rx om ra e q
theorem one1 {ds : List D} {p : P} {d : D} (h0 : pr p [] = none) (h2 : ∀ a b l, pr p (a :: b :: l) = none) (e : pr p ds = some d) : ∃ a, ds = [a] := by
  match ds, e with
  | [], e => rw [h0] at e; cases e
  | [a], e => exact ⟨a, rfl⟩
  | a :: b :: l, e => rw [h2] at e; cases e
theorem p_tupleOf : CallR X (.type "tuple") (rP X.K .tupleOf) := call1 (fun ds d e => one1 rfl (fun a b l => by cases a <;> rfl) e) fun pins s σ H x u Q fa O a d I rx om ra e q => by
  cases a with
  | tup l =>
    obtain ⟨p, xs, rfl, h1, rl, ri⟩ := ra.tup
    obtain rfl : D.tup l = d := Option.some.inj e
    exact call_tuple_of pins s σ H [.ref p] [u] Q I (.cons rx .nil) ⟨p, xs, rfl, .inr ⟨.of h1, q _ _ (.refl H) ri⟩⟩
  | lst l =>
    obtain ⟨p, xs, rfl, h1, rl⟩ := ra.lst'
    obtain rfl : D.tup l = d := Option.some.inj e
    exact call_tuple_of pins s σ H [.ref p] [u] Q I (.cons rx .nil) ⟨p, xs, rfl, .inl ⟨.of h1, fun n hn => q _ _ (same_new hn) (is_tup om hn rl)⟩⟩
  | _ => exact bad1 e rfl
theorem p_listOf : CallR X (.type "list") (rP X.K .listOf) := call1 (fun ds d e => one1 rfl (fun a b l => by cases a <;> rfl) e) fun pins s σ H x u Q fa O a d I rx om ra e q => by
  cases a with
  | tup l =>
    obtain ⟨p, xs, rfl, h1, rl, ri⟩ := ra.tup
    obtain rfl : D.lst l = d := Option.some.inj e
    exact call_list_of pins s σ H [.ref p] [u] Q I (.cons rx .nil) ⟨p, xs, rfl, .inr (.of h1), fun n hn => q _ _ (same_new hn) (is_lst om hn rl)⟩
  | lst l =>
    obtain ⟨p, xs, rfl, h1, rl⟩ := ra.lst'
    obtain rfl : D.lst l = d := Option.some.inj e
    exact call_list_of pins s σ H [.ref p] [u] Q I (.cons rx .nil) ⟨p, xs, rfl, .inl (.of h1), fun n hn => q _ _ (same_new hn) (is_lst om hn rl)⟩
  | scr l =>
    obtain ⟨p, rfl, h1⟩ := ra.scr
    obtain rfl : D.lst (l.map .int) = d := Option.some.inj e
    exact call_list_of pins s σ H [.ref p] [u] Q I (.cons rx .nil) ⟨p, _, rfl, .inl h1.sq, fun n hn => q _ _ (same_new hn) (is_lst om hn (iss_ints l))⟩
  | _ => exact bad1 e rfl
theorem map_some {α β : Type} {o : Option α} {f : α → β} {b : β} (h : o.map f = some b) : ∃ a, o = some a ∧ f a = b := by
  cases o with
  | none => cases h
  | some a => exact ⟨a, rfl, Option.some.inj h⟩
theorem p_sum (hc : X.calm = true) : CallR X (.builtin "sum") (rP X.K .sum) := call1 (fun ds d e => one1 rfl (fun a b l => by cases a <;> rfl) e) fun pins s σ H x u Q fa O a d I rx om ra e q => by
  cases a with
  | tup l =>
    obtain ⟨p, xs, rfl, h1, rl, ri⟩ := ra.tup
    obtain ⟨ns, e1, rfl⟩ := map_some (show (l.mapM intOf).map (fun ns => D.int ns.sum) = some d from e)
    obtain rfl := rl.ints e1
    obtain rfl : u = Value.ref p := rx
    obtain ⟨its, rv, ht, hz⟩ := I.tuple (.of h1)
    have hi : IntsAre its ns := Vals.ints rv
    obtain ⟨ys, hx⟩ := hi.allInts.items
    have hn : numsOf its.toArray.toList = ns := by rw [show its.toArray.toList = its from rfl, hi.numsOf]
    rw [hx] at ht hn
    rw [nums_intItems] at hn
    obtain ⟨o, ho, hoc, n, hod⟩ := ht
    refine PySem.W.ktm_sumG (I.ok.hd hc) ⟨o, ho, hoc, n, hod⟩ fun h' tk t' hk => ?_
    rw [preSum_eq, List.take_of_length_le (by simp), hn]
    exact ⟨.int ns.sum, H, I.kept hk, ⟨t', rfl⟩, q _ _ (.refl H) (.int _)⟩
  | lst l =>
    obtain ⟨p, xs, rfl, h1, rl⟩ := ra.lst'
    obtain ⟨ns, e1, rfl⟩ := map_some (show (l.mapM intOf).map (fun ns => D.int ns.sum) = some d from e)
    obtain rfl := rl.ints e1
    exact cr_sum hc pins s σ H [.ref p] [u] Q I (.cons rx .nil) ⟨p, ns, rfl, .of h1, q _ _ (.refl H) (.int _)⟩
  | _ => exact bad1 e rfl
theorem p_abs : CallR X (.builtin "abs") (rP X.K .abs) := call1 (fun ds d e => one1 rfl (fun a b l => by cases a <;> rfl) e) fun pins s σ H x u Q fa O a d I rx om ra e q => by
  cases a with
  | int i =>
    obtain rfl := ra.int
    obtain rfl := Option.some.inj (show some (D.int (if i < 0 then -i else i)) = some d from e)
    exact call_abs pins s σ H _ [u] Q I (.cons rx .nil) ⟨i, rfl, q _ _ (.refl H) (.int _)⟩
  | _ => exact bad1 e rfl
theorem p_int : CallR X (.type "int") (rP X.K .int) := call1 (fun ds d e => one1 rfl (fun a b l => by cases a <;> rfl) e) fun pins s σ H x u Q fa O a d I rx om ra e q => by
  cases a with
  | int i =>
    obtain rfl := ra.int
    obtain rfl := Option.some.inj (show some (D.int i) = some d from e)
    exact call_int1 pins s σ H _ [u] Q I (.cons rx .nil) (.inl ⟨i, rfl, q _ _ (.refl H) (.int _)⟩)
  | bl i =>
    obtain rfl := ra.bl
    obtain rfl := Option.some.inj (show some (D.int (if i then 1 else 0)) = some d from e)
    exact call_int1 pins s σ H _ [u] Q I (.cons rx .nil) (.inr ⟨i, rfl, q _ _ (.refl H) (.int _)⟩)
  | _ => exact bad1 e rfl
theorem p_all (hc : X.calm = true) : CallR X (.builtin "all") (rP X.K .all) := call1 (fun ds d e => one1 rfl (fun a b l => by cases a <;> rfl) e) fun pins s σ H x u Q fa O a d I rx om ra e q => by
  cases a with
  | lst l =>
    obtain ⟨p, xs, rfl, h1, rl⟩ := ra.lst'
    obtain ⟨ns, e1, rfl⟩ := map_some (show (l.mapM blOf).map (fun bs => D.bl (bs.all id)) = some d from e)
    obtain rfl := rl.bls e1
    exact cr_all hc pins s σ H [.ref p] [u] Q I (.cons rx .nil) ⟨p, ns, rfl, .of h1, q _ _ (.refl H) (.bl _)⟩
  | _ => exact bad1 e rfl
theorem p_any (hc : X.calm = true) : CallR X (.builtin "any") (rP X.K .any) := call1 (fun ds d e => one1 rfl (fun a b l => by cases a <;> rfl) e) fun pins s σ H x u Q fa O a d I rx om ra e q => by
  cases a with
  | lst l =>
    obtain ⟨p, xs, rfl, h1, rl⟩ := ra.lst'
    obtain ⟨ns, e1, rfl⟩ := map_some (show (l.mapM blOf).map (fun bs => D.bl (bs.any id)) = some d from e)
    obtain rfl := rl.bls e1
    exact cr_any hc pins s σ H [.ref p] [u] Q I (.cons rx .nil) ⟨p, ns, rfl, .of h1, q _ _ (.refl H) (.bl _)⟩
  | _ => exact bad1 e rfl
theorem two2 {ds : List D} {p : P} {d : D} (h0 : pr p [] = none) (h1 : ∀ a, pr p [a] = none) (h2 : ∀ a b c l, pr p (a :: b :: c :: l) = none) (e : pr p ds = some d) : ∃ a b, ds = [a, b] := by
  match ds, e with
  | [], e => rw [h0] at e; cases e
  | [a], e => rw [h1] at e; cases e
  | [a, b], e => exact ⟨a, b, rfl⟩
  | a :: b :: c :: l, e => rw [h2] at e; cases e
theorem p_min2 (hc : X.calm = true) : CallR X (.builtin "min") (rP X.K .min2) := by
  intro pins s σ H xs us Q I r ⟨fa, O, ds, d, om, r1, e, q⟩
  obtain ⟨a, b, rfl⟩ := two2 rfl (fun a => by cases a <;> rfl) (fun a b c l => by cases a <;> cases b <;> rfl) e
  obtain ⟨_, _, rfl, ra, rb⟩ := r1.vs2
  cases a with
  | int i => cases b with
    | int j =>
      obtain rfl := ra.int
      obtain rfl := rb.int
      obtain rfl := Option.some.inj (show some (D.int (if j < i then j else i)) = some d from e)
      exact call_min2 hc pins s σ H _ us Q I r ⟨i, j, rfl, q _ _ (.refl H) (.int _)⟩
    | _ => exact bad2 e rfl
  | _ => cases b <;> exact bad2 e rfl
theorem p_max2 (hc : X.calm = true) : CallR X (.builtin "max") (rP X.K .max2) := by
  intro pins s σ H xs us Q I r ⟨fa, O, ds, d, om, r1, e, q⟩
  obtain ⟨a, b, rfl⟩ := two2 rfl (fun a => by cases a <;> rfl) (fun a b c l => by cases a <;> cases b <;> rfl) e
  obtain ⟨_, _, rfl, ra, rb⟩ := r1.vs2
  cases a with
  | int i => cases b with
    | int j =>
      obtain rfl := ra.int
      obtain rfl := rb.int
      obtain rfl := Option.some.inj (show some (D.int (if j > i then j else i)) = some d from e)
      exact call_max2 hc pins s σ H _ us Q I r ⟨i, j, rfl, q _ _ (.refl H) (.int _)⟩
    | _ => exact bad2 e rfl
  | _ => cases b <;> exact bad2 e rfl
end
end Ev
set_option Elab.async false
set_option linter.all false
set_option maxRecDepth 100000
set_option maxHeartbeats 1000000
namespace Ev
open PySem PySem.Spec PyProof.Rows L2
section
variable {X : Cx} {g : Gx} {W : WX} {pos p p2 : Pos} {a b c : Expr} {Ga Gb Gc : En → R Arg} {Fa Fb Fc : En → R D}
def isiNm : Nat → String
  | 0 => "int" | 1 => "bool" | 2 => "tuple" | 3 => "list" | _ => "str"
def tyNm : D → String
  | .int _ => "int" | .bl _ => "bool" | .non => "NoneType" | .str _ => "str" | .tup _ => "tuple" | .lst _ => "list" | .dct _ _ => "dict" | _ => ""
theorem isi_kit {T : Nat} {d : D} {r : Bool} (h : isi T d = some r) : kitB (tyNm d) (isiNm T) = some r := by
  match T, h with
  | 0, h => cases d <;> first | (obtain rfl := Option.some.inj (show some true = some r from h); simp only [tyNm, isiNm]; decide +kernel) | (obtain rfl := Option.some.inj (show some false = some r from h); simp only [tyNm, isiNm]; decide +kernel) | exact absurd (show (none : Option Bool) = some r from h) (fun z => by cases z)
  | 1, h => cases d <;> first | (obtain rfl := Option.some.inj (show some true = some r from h); simp only [tyNm, isiNm]; decide +kernel) | (obtain rfl := Option.some.inj (show some false = some r from h); simp only [tyNm, isiNm]; decide +kernel) | exact absurd (show (none : Option Bool) = some r from h) (fun z => by cases z)
  | 2, h => cases d <;> first | (obtain rfl := Option.some.inj (show some true = some r from h); simp only [tyNm, isiNm]; decide +kernel) | (obtain rfl := Option.some.inj (show some false = some r from h); simp only [tyNm, isiNm]; decide +kernel) | exact absurd (show (none : Option Bool) = some r from h) (fun z => by cases z)
  | 3, h => cases d <;> first | (obtain rfl := Option.some.inj (show some true = some r from h); simp only [tyNm, isiNm]; decide +kernel) | (obtain rfl := Option.some.inj (show some false = some r from h); simp only [tyNm, isiNm]; decide +kernel) | exact absurd (show (none : Option Bool) = some r from h) (fun z => by cases z)
  | 4, h => cases d <;> first | (obtain rfl := Option.some.inj (show some true = some r from h); simp only [tyNm, isiNm]; decide +kernel) | (obtain rfl := Option.some.inj (show some false = some r from h); simp only [tyNm, isiNm]; decide +kernel) | exact absurd (show (none : Option Bool) = some r from h) (fun z => by cases z)
  | n + 5, h => cases d <;> exact absurd (show (none : Option Bool) = some r from h) (fun z => by cases z)
theorem isi_ty {K : PySem.W.Frag} {fa : FAd} {H : Hp} {O : Addr → Prop} {x : V} {T : Nat} {d : D} {r : Bool} (ra : Is1 K fa H O x d) (h : isi T d = some r) : TyX K H x (.type (tyNm d)) := by
  cases d with
  | int i => obtain rfl := ra.int; exact .base (.int _)
  | bl i => obtain rfl := ra.bl; exact .base (.bl _)
  | non => obtain rfl := ra.non; exact .base .non
  | str i => obtain rfl := ra.str; exact .base (.str _)
  | tup l => obtain ⟨q, xs, rfl, h1, _, _⟩ := ra.tup; exact .base (.tup h1)
  | lst l => obtain ⟨q, xs, rfl, h1, _⟩ := ra.lst'; exact .base (.lst h1)
  | dct t l =>
    cases t with
    | false => obtain ⟨q, xs, rfl, h1, _⟩ := ra.dctK; exact .base (.dK h1)
    | true => obtain ⟨q, xs, rfl, h1, _⟩ := ra.dctT; exact .base (.dT h1)
  | fn f => exact absurd h (by match T with | 0 => exact fun z => by cases z | 1 => exact fun z => by cases z | 2 => exact fun z => by cases z | 3 => exact fun z => by cases z | 4 => exact fun z => by cases z | n + 5 => exact fun z => by cases z)
  | scr f => exact absurd h (by match T with | 0 => exact fun z => by cases z | 1 => exact fun z => by cases z | 2 => exact fun z => by cases z | 3 => exact fun z => by cases z | 4 => exact fun z => by cases z | n + 5 => exact fun z => by cases z)
theorem e_isi {T : Nat} {x t : Str} (ha : PE X a (tG g W Ga)) (hK : g.K = X.K) (hg : Gl X x) (hm : X.mg x = none) (hv : bootBuiltins x = some (.builtin "isinstance")) (hg2 : Gl X t) (hm2 : X.mg t = none) (hv2 : bootBuiltins t = some (.type (isiNm T)))
    (hn : x ≠ "__name__") (hdb : (x == ("__debug__" : Str)) = false) (hn2 : t ≠ "__name__") (hdb2 : (t == ("__debug__" : Str)) = false) (hs : starEach [a, .Name t p2] X.env = (false, eval a X.env) :: starEach [.Name t p2] X.env) :
    PE X (.Call (.Name x p) [a, .Name t p2] [] pos) (tE g W fun ε => opR (.isi T) (args1 Ga ε)) :=
  PE.imp (pe_callB call_isi hg hm hv (pa_cons ha (pa_cons (pe_bltn (v := .ty (isiNm T)) hg2 hm2 hv2 rfl hn2 hdb2) pa_nil rfl) hs) hn hdb hs (by rfl)) fun σ H Q h => by
    obtain ⟨ε, As, TT, F, h⟩ := h
    have h : Pst g W As TT σ H ((args1 Ga ε).bind _) _ := h
    refine ⟨ε, As, TT, F, (Pst.bind (Pst.bind h)).mono fun a ε1 As1 H1 F1 s1 k x rx => ?_⟩
    obtain ⟨ds, d, e1, r, e2, q⟩ := sl_fin F1 (.cons rx .nil) (k.here F1)
    obtain ⟨z, rfl, rz⟩ := r.one'
    obtain ⟨b, e3, rfl⟩ := map_some (show (isi T z).map D.bl = some d from e2)
    exact ⟨x, .ty (isiNm T), .type (tyNm z), .type (isiNm T), b, rfl, .ty _, by rw [← hK]; exact isi_ty rz e3, kit_ty (isi_kit e3), q _ _ (.refl H1) (.bl _)⟩
theorem opd1_fin {p : P} {ds : List D} {vs : List V} {Q : VK} {ε : En} {As : Ass} {T : List Addr} {σ : L2.St} {H : Hp} (F : FI g ε As T σ H) (hv : Iss1 g.K g.fa H (Ow g As T) vs ds)
    (h : Pst g W As T σ H (match pr p ds with | some d => R.ok d ε | none => .bad) fun d _ As' H' => ∀ v, IsG g As' T H' v d → Q v H') : rP g.K p vs H Q := by
  cases e2 : pr p ds with
  | none => rw [e2] at h; exact False.elim h
  | some d =>
    rw [e2] at h
    exact ⟨g.fa, Ow g As T, ds, d, F.om, hv, e2, fun v H' s r => h As H' (F.grow s) (.of_same s) v r⟩
theorem Pst.same {α : Type} {As : Ass} {T : List Addr} {σ : L2.St} {H H' : Hp} {r : R α} {K : α → En → Ass → Hp → Prop} (h : Pst g W As T σ H r K) (sm : Same H H') : Pst g W As T σ H' r K := by
  cases r with
  | bad => exact h
  | exc c ε' => exact fun As' H'' F'' s'' => h As' H'' F'' ((Stp.of_same sm).trans s'')
  | ok a ε' => exact fun As' H'' F'' s'' => h As' H'' F'' ((Stp.of_same sm).trans s'')
theorem e_chain {q1 q2 : P} {op op' : CmpOp} (ho : OpR X (compareOp op) (rP2 g.K q1)) (ho' : OpR X (compareOp op') (rP2 g.K q2)) (ha : PE X a (tE g W Fa)) (hb : PE X b (tE g W Fb)) (hc : PE X c (tE g W Fc)) (hm : lastMarks [op, op'] [b, c] = false) :
    PE X (.Compare a [op, op'] [b, c] pos) (tE g W fun ε => (Fa ε).bind fun x ε1 => (Fb ε1).bind fun y ε2 => (match pr q1 [x, y] with
    | some (.bl true) => (Fc ε2).bind fun z ε3 => (match pr q2 [y, z] with
      | some d => .ok d ε3
      | none => .bad)
    | some (.bl false) => .ok (.bl false) ε2
    | _ => .bad)) :=
  PE.imp (pe_chain ho ho' ha hb hc hm) fun σ H Q ⟨ε, As, T, F, h⟩ => ⟨ε, As, T, F, (Pst.bind h).mono fun x ε1 As1 H1 F1 s1 k v1 r1 => ⟨ε1, As1, T, F1, (Pst.bind k).mono fun y ε2 As2 H2 F2 s2 k2 v2 r2 => by
    have k2 := k2
    cases e1 : pr q1 [x, y] with
    | none => rw [e1] at k2; exact False.elim k2
    | some d =>
      rw [e1] at k2
      refine ⟨g.fa, Ow g As2 T, [x, y], d, F2.om, .cons (.is (r1.step F1 s2)) (.cons (.is r2) .nil), e1, fun v H' sm rv => ?_⟩
      cases d with
      | bl b =>
        cases rv
        refine ⟨b, rfl, ?_⟩
        have F2' := F2.grow sm
        cases b with
        | false => exact k2 As2 H' F2' (.of_same sm) _ (.bl false)
        | true =>
          have k3 : Pst g W As2 T σ H2 ((Fc ε2).bind _) _ := k2
          have k3 := k3.same sm
          refine ⟨ε2, As2, T, F2', (Pst.bind k3).mono fun z ε3 As3 H3 F3 s3 k4 v3 r3 => ?_⟩
          exact opd1_fin F3 (.cons (.is (IsG.step F2' s3 (IsG.step F2 (.of_same sm) r2))) (.cons (.is r3) .nil)) k4
      | _ => exact False.elim k2⟩⟩
end
end Ev
set_option Elab.async false
set_option linter.all false
set_option maxRecDepth 100000
set_option maxHeartbeats 1000000
namespace Ev
open PySem PySem.Spec PyProof.Rows L2
section
variable {X : Cx} {g : Gx} {W : WX} {pos p p2 apos cpos : Pos} {a b c : Expr} {Ga Gb Gc : En → R Arg} {Fa Fb Fc : En → R D} {es : List Expr} {Ds : En → R (List D)}
theorem e_dnew : PE X (.Dict [] [] pos) (tE g W fun ε => opdR .dnew (.ok [] ε)) := PE.imp pe_dnewK fun σ H Q ⟨ε, As, T, F, h⟩ p hp =>
  h As _ (F.grow (same_new hp)) (.of_same (same_new hp)) _ (.dK upd_same (not_own F.om hp) .nil)
theorem e_dnewT : PE X (.Dict [] [] pos) (tE g W fun ε => opdR .dnewT (.ok [] ε)) := PE.imp pe_dnewT fun σ H Q ⟨ε, As, T, F, h⟩ p hp =>
  h As _ (F.grow (same_new hp)) (.of_same (same_new hp)) _ (.dT upd_same (not_own F.om hp) .nil)
def tDisp1 (tk tv : TE) : TE := fun σ H Q => ∀ p, H p = none → tk σ (upd H p (.dT [])) fun x H1 => tv σ H1 fun y H2 => H2 p = some (.dT []) ∧ ∃ (b : Addr) (k : List Key), x = .ref b ∧ H2 b = some (.tup (k.map kV)) ∧ Q (.ref p) (upd H2 p (.dT [(k, y)]))
def disp1Q (D : Addr) (Q : VK) : List (V × V) → Hp → Prop
  | [(x, y)], H2 => H2 D = some (.dT []) ∧ ∃ (b : Addr) (k : List Key), x = .ref b ∧ H2 b = some (.tup (k.map kV)) ∧ Q (.ref D) (upd H2 D (.dT [(k, y)]))
  | _, _ => False
theorem disp1Q_inv {D : Addr} {Q : VK} {ps : List (V × V)} {H2 : Hp} (h : disp1Q D Q ps H2) : ∃ y b k, ps = [(.ref b, y)] ∧ H2 D = some (.dT []) ∧ H2 b = some (.tup (List.map kV k)) ∧ Q (.ref D) (upd H2 D (.dT [(k, y)])) := by
  match ps, h with
  | [(x, y)], ⟨h1, b, k, e, h2, h3⟩ => subst e; exact ⟨y, b, k, rfl, h1, h2, h3⟩
  | [], h => exact False.elim h
  | _ :: _ :: _, h => exact False.elim h
theorem pe_dispT {tk tv : TE} (hu : X.A.units + 1 < cLine) (hk : PE X a tk) (hv : PE X b tv) : PE X (.Dict [some a] [b] pos) (tDisp1 tk tv) := by
  refine ⟨fun pins s σ H Q I q => ?_⟩
  have hn := I.hok.fresh (Nat.le_refl s.heap.objs.size)
  have I1 := I.laid (a := s.heap.objs.size) (o := .dT []) (h' := s.heap.push { cls := .type "dict", data := .dict #[] }) (t' := s.toks) (fun _ _ q => Heap.get?_push_of_some _ q) (Nat.le_refl _) (dt_empty s.heap I.big)
  have hh : PPs X pos [some a] [b] [(tk, tv)] := pps_cons hk hv pps_nil
  have e1 : (evalEachOpt [some a] X.env).zip ((evalEach [b] X.env).map fun v => do let x ← v; standAt pos; pure x) = (pairTrees [some a] [b] X.env pos).map fun p => (some p.1, p.2) := zip_pairTrees [some a] [b] X.env pos rfl rfl
  have e2 : pairTrees [some a] [b] X.env pos ≠ [] := fun z => by
    have := pairTrees_length [some a] [b] X.env pos rfl rfl
    rw [z] at this; cases this
  have e3 : (pairTrees [some a] [b] X.env pos).length ≤ 15 := by rw [pairTrees_length [some a] [b] X.env pos rfl rfl]; show 1 ≤ 15; decide
  rw [arm_eval_Dict, e1, dictDisplay_pairs _ e2 (by omega)]
  refine wpAny_bind (wpAny_standAt (wpAny_bind (wpAny_subDictH (knd := tupleKind (mixKind X.prog X.w)) (Q := fun d s' => wpAny (model X.prog X.w) X.A (pure (Value.ref d)) (EP X pins σ Q) X.xe s') (show X.A.units < cLine by omega) e3 ?_)))
  refine thn (hh.run pins _ σ _ (disp1Q s.heap.objs.size Q) I1 (q _ hn)) fun ws s2 ⟨ps, H2, I2, rel, z⟩ => ?_
  obtain ⟨y, kb, k, ep, hD, hb, q2⟩ := disp1Q_inv z
  subst ep
  cases rel with
  | @cons _ pr _ _ r1 r2 =>
      cases r2
      obtain ⟨u, w2⟩ := pr
      obtain ⟨ru, rw2⟩ := r1
      obtain rfl : u = Value.ref kb := ru
      obtain ⟨z1, hd, xs0, rel0, dd⟩ := dt_of I2.hok hD
      cases rel0
      refine ⟨[(k, kb, w2)], ⟨rfl, rfl, key_of I2.hok hb, trivial⟩, dd, fun h' tk' dd' hs => wpAny_pure ?_⟩
      have e4 : storedAllH ([] : List (List Key × Addr × Value)) [(k, kb, w2)] = [(k, kb, w2)] := rfl
      rw [e4] at dd'
      obtain ⟨ob, es', ep, hq, h2, h3, h4, _, h5⟩ := dd'
      refine ⟨.ref s.heap.objs.size, _, d_write (ob := .dT [(k, y)]) (t' := tk') I2 (by rw [hD]; exact True.intro) hs ⟨ob, hq⟩ ⟨by rw [sizeLine_eq]; show 1 ≤ 16777216; decide, hd, [(k, kb, w2)], .cons ⟨rfl, ?_, rw2⟩ .nil, ob, es', ep, hq, h2, h3, h4, h5⟩, rfl, q2⟩
      have hne : kb ≠ s.heap.objs.size := ne_of hb hD (fun z => nomatch z)
      show upd H2 _ _ kb = _
      rw [upd_ne hne]
      exact hb
theorem Pst.frame {α : Type} {As : Ass} {T : List Addr} {σ : L2.St} {H H1 : Hp} {r : R α} {K : α → En → Ass → Hp → Prop} (U : List Addr) (h : Pst g W As T σ H r K) (sm : Same H H1) :
    Pst g W As (U ++ T) σ H1 r fun a ε' As' H' => Stp As As' H H' ∧ ∀ H'', FI g ε' As' T σ H'' → Stp As As' H H'' → K a ε' As' H'' := by
  cases r with
  | bad => exact h
  | exc c ε' => exact fun As' H' F' s' => h As' H' F'.drop ((Stp.of_same sm).trans s')
  | ok a ε' => exact fun As' H' F' s' => ⟨(Stp.of_same sm).trans s', fun H'' F'' s'' => h As' H'' F'' s''⟩
theorem FI.writeT {ε : En} {As : Ass} {T : List Addr} {σ : L2.St} {H : Hp} {p : Addr} {o : HO} (F : FI g ε As T σ H) (hp : p ∈ T) (m : isM o = true) : FI g ε As T σ (upd H p o) := by
  have up : ∀ a, a ≠ p → upd H p o a = H a := fun a e => upd_ne e
  have na := F.tn p hp
  have k : Kp (Ow g As T) (Ow g As T) H (upd H p o) := ⟨fun b u e n => by
    rw [up b (fun z => n (z ▸ .inr (.inr hp)))]; exact e, fun _ _ _ h => h⟩
  refine ⟨F.len, fun i => (F.sl i).keep F.om k fun a ha => up a fun z => na.2 i (z ▸ ha), F.dis, F.noc, F.new, fun b u e n => ?_, F.ocm, fun a ha => ?_, F.tn, fun a e z => ?_, F.tnd, F.own0⟩
  · have : b ≠ p := fun z => by
      subst z
      rcases na.1 with q | q
      · rw [q] at e; cases e
      · exact n q
    rw [up b this]; exact F.same b u e n
  · by_cases q : a = p
    · subst q; exact ⟨o, upd_same, m⟩
    · rw [up a q]; exact F.tm a ha
  · by_cases q : a = p
    · subst q; rw [upd_same] at z; cases z
    · rw [up a q] at z; exact F.ioh a e z
theorem not_own_T {ε : En} {As : Ass} {T : List Addr} {σ : L2.St} {H : Hp} {p : Addr} (F : FI g ε As (p :: T) σ H) : ¬ Ow g As T p := fun z => by
  obtain ⟨n1, n3⟩ := F.tn p List.mem_cons_self
  rcases z with z | ⟨i, z⟩ | z
  · obtain ⟨⟨o, e, _⟩, nio⟩ := F.ocm p z
    rcases n1 with q | q
    · rw [q] at e; cases e
    · exact nio q
  · exact n3 i z
  · exact (List.nodup_cons.mp F.tnd).1 z
theorem e_dct1T (hu : X.A.units + 1 < cLine) (ha : PE X a (tE g W Fa)) (hb : PE X b (tE g W Fb)) : PE X (.Dict [some a] [b] pos) (tE g W fun ε => (Fa ε).bind fun kd ε1 => (Fb ε1).bind fun vd ε2 => if hkey true kd then .ok (.dct true [(kd, vd)]) ε2 else .bad) :=
  PE.imp (pe_dispT hu ha hb) fun σ H Q ⟨ε, As, T, F, h⟩ p hp => by
    have F' := F.temp (o := .dT []) hp rfl
    refine ⟨ε, As, p :: T, F', ?_⟩
    have pT : ∀ {As : Ass} {H : Hp} {ε : En}, FI g ε As (p :: T) σ H → ∀ i, p ∉ As i := fun F i => (F.tn p List.mem_cons_self).2 i
    have h : Pst g W As T σ H ((Fa ε).bind _) _ := h
    cases ea : Fa ε with
    | bad => rw [ea] at h; exact h
    | exc c ε1 => rw [ea] at h; exact fun As' H' F1 s1 => h As' H' (FI.drop (U := [p]) F1) ((Stp.of_same (same_new hp)).trans s1)
    | ok kd ε1 =>
      rw [ea] at h
      have h : Pst g W As T σ H ((Fb ε1).bind _) _ := h
      intro As1 H1 F1 s1 x rx
      refine ⟨ε1, As1, p :: T, F1, ?_⟩
      cases eb : Fb ε1 with
      | bad => rw [eb] at h; exact h
      | exc c ε2 => rw [eb] at h; exact fun As' H' F2 s2 => h As' H' (FI.drop (U := [p]) F2) ((Stp.of_same (same_new hp)).trans (s1.trans s2))
      | ok vd ε2 =>
        rw [eb] at h
        have h : Pst g W As T σ H (if hkey true kd then .ok (D.dct true [(kd, vd)]) ε2 else .bad) _ := h
        intro As2 H2 F2 s2 y ry
        have h2 : H2 p = some (.dT []) := s2.keep p _ (s1.keep p _ upd_same (pT F')) (pT F1)
        by_cases hk : hkey true kd = true
        · rw [if_pos hk] at h
          refine ⟨h2, ?_⟩
          have rx2 := IsG.step F1 s2 rx
          cases kd with
          | tup l =>
            cases rx2 with
            | tup e r =>
              obtain ⟨q, rfl, rfl⟩ := keys_of_D r hk
              refine ⟨_, q, rfl, e, ?_⟩
              have F3 := F2.writeT (o := .dT [(q, y)]) List.mem_cons_self rfl
              have st : Stp As As2 H (upd H2 p (.dT [(q, y)])) := by
                have s12 := (Stp.of_same (same_new (o := .dT []) hp)).trans (s1.trans s2)
                exact ⟨fun b u e n => by rw [upd_ne (ne_of_none e hp)]; exact s12.keep b u e n, s12.less⟩
              have F4 := FI.drop (U := [p]) F3
              refine h As2 _ F4 st _ (.dT upd_same (not_own_T F3) (.cons ?_ .nil))
              have k : Kp (Ow g As2 (p :: T)) (Ow g As2 T) H2 (upd H2 p (.dT [(q, y)])) := ⟨fun b u e n => by
                rw [upd_ne (show b ≠ p from fun z => n (by rw [z]; exact .inr (.inr List.mem_cons_self)))]; exact e, fun b u e z => by
                rcases z with z | z | z
                · exact .inl z
                · exact .inr (.inl z)
                · exact .inr (.inr (List.mem_cons_of_mem _ z))⟩
              exact Is.keep F2.om k ry
          | _ => exact absurd hk Bool.false_ne_true
        · rw [if_neg hk] at h; exact False.elim h
theorem e_dct1K (ha : PE X a (tE g W Fa)) (hb : PE X b (tE g W Fb)) : PE X (.Dict [some a] [b] pos) (tE g W fun ε => (Fa ε).bind fun kd ε1 => (Fb ε1).bind fun vd ε2 => if hkey false kd then .ok (.dct false [(kd, vd)]) ε2 else .bad) :=
  PE.imp (pe_disp (pps_cons ha hb pps_nil) rfl rfl (by simp) (by show 1 ≤ 15; decide)) fun σ H Q ⟨ε, As, T, F, h⟩ p hp => by
    have F' := F.temp (o := .dK []) hp rfl
    refine ⟨ε, As, p :: T, F', ?_⟩
    have pT : ∀ {As : Ass} {H : Hp} {ε : En}, FI g ε As (p :: T) σ H → ∀ i, p ∉ As i := fun F i => (F.tn p List.mem_cons_self).2 i
    have h : Pst g W As T σ H ((Fa ε).bind _) _ := h
    cases ea : Fa ε with
    | bad => rw [ea] at h; exact h
    | exc c ε1 => rw [ea] at h; exact fun As' H' F1 s1 => h As' H' (FI.drop (U := [p]) F1) ((Stp.of_same (same_new hp)).trans s1)
    | ok kd ε1 =>
      rw [ea] at h
      have h : Pst g W As T σ H ((Fb ε1).bind _) _ := h
      intro As1 H1 F1 s1 x rx
      refine ⟨ε1, As1, p :: T, F1, ?_⟩
      cases eb : Fb ε1 with
      | bad => rw [eb] at h; exact h
      | exc c ε2 => rw [eb] at h; exact fun As' H' F2 s2 => h As' H' (FI.drop (U := [p]) F2) ((Stp.of_same (same_new hp)).trans (s1.trans s2))
      | ok vd ε2 =>
        rw [eb] at h
        have h : Pst g W As T σ H (if hkey false kd then .ok (D.dct false [(kd, vd)]) ε2 else .bad) _ := h
        intro As2 H2 F2 s2 y ry
        have h2 : H2 p = some (.dK []) := s2.keep p _ (s1.keep p _ upd_same (pT F')) (pT F1)
        by_cases hk : hkey false kd = true
        · rw [if_pos hk] at h
          refine ⟨h2, ?_⟩
          have rx2 := IsG.step F1 s2 rx
          obtain ⟨q, rfl, rfl⟩ := key_of_D rx2 (by cases kd <;> first | rfl | exact hk)
          refine ⟨[(q, y)], rfl, by show 1 ≤ 15; decide, ?_⟩
          have F3 := F2.writeT (o := .dK [(q, y)]) List.mem_cons_self rfl
          have st : Stp As As2 H (upd H2 p (.dK [(q, y)])) := by
            have s12 := (Stp.of_same (same_new (o := .dK []) hp)).trans (s1.trans s2)
            exact ⟨fun b u e n => by rw [upd_ne (ne_of_none e hp)]; exact s12.keep b u e n, s12.less⟩
          have F4 := FI.drop (U := [p]) F3
          refine h As2 _ F4 st _ (.dK upd_same (not_own_T F3) (.cons ?_ .nil))
          have k : Kp (Ow g As2 (p :: T)) (Ow g As2 T) H2 (upd H2 p (.dK [(q, y)])) := ⟨fun b u e n => by
            rw [upd_ne (show b ≠ p from fun z => n (by rw [z]; exact .inr (.inr List.mem_cons_self)))]; exact e, fun b u e z => by
            rcases z with z | z | z
            · exact .inl z
            · exact .inr (.inl z)
            · exact .inr (.inr (List.mem_cons_of_mem _ z))⟩
          exact Is.keep F2.om k ry
        · rw [if_neg hk] at h; exact False.elim h
theorem isD_of {K : PySem.W.Frag} {fa : FAd} {H : Hp} {O : Addr → Prop} {x : V} {t : Bool} {l : List (D × D)} (h : Is1 K fa H O x (.dct t l)) : ∃ a, x = .ref a ∧ IsD H a := by
  cases t with
  | false => obtain ⟨a, kvs, rfl, e, _⟩ := h.dctK; exact ⟨a, rfl, .inl ⟨kvs, .inl e⟩⟩
  | true => obtain ⟨a, kvs, rfl, e, _⟩ := h.dctT; exact ⟨a, rfl, .inr ⟨kvs, .inl e⟩⟩
theorem isDct_one {as : Option (List D)} (h : isDct as = true) : ∃ t l, as = some [.dct t l] := by
  match as, h with
  | some [.dct t l], _ => exact ⟨t, l, rfl⟩
theorem e_get1 (hu : X.A.units + 1 < cLine) (ha : PE X a (tG g W Ga)) (hb : PE X b (tE g W Fb)) (m : M1 X a "get" apos b cpos) :
    PE X (.Call (.Attribute a "get" apos) [b] [] cpos) (tE g W fun ε => (args1 Ga ε).bind fun as ε1 => if isDct (Args.ds ε1 as) then (Fb ε1).bind fun kd ε2 => getR (Args.ds ε2 as) kd [] ε2 else .bad) :=
  PE.imp (pe_dget1 hu ha hb m) fun σ H Q ⟨ε, As, T, F, h⟩ => by
    have h : Pst g W As T σ H ((args1 Ga ε).bind _) _ := h
    refine ⟨ε, As, T, F, (Pst.bind (Pst.bind h)).mono fun a ε1 As1 H1 F1 s1 k x rx => ?_⟩
    have k := k.here F1
    by_cases hd : isDct (Args.ds ε1 [a]) = true
    · rw [if_pos hd] at k
      obtain ⟨t, l, e1⟩ := isDct_one hd
      obtain ⟨_, _, e2, _, e3⟩ := Args.one e1
      cases e3
      obtain ⟨ad, rfl, isd⟩ := isD_of (rx.is1 F1 e2)
      refine ⟨ad, rfl, isd, ε1, As1, T, F1, (Pst.bind k).mono fun kd ε2 As2 H2 F2 s2 k2 y ry => ?_⟩
      cases e4 : Args.ds ε2 [a] with
      | none => rw [e4] at k2; exact False.elim k2
      | some ds =>
        rw [e4] at k2
        obtain ⟨d, r, e5, e6, rfl⟩ := Args.one e4
        cases e6
        cases d with
        | dct t' l' =>
          have k2 : Pst g W As2 T σ H2 (if hkey t' kd then .ok ((dlook l' kd).getD .non) ε2 else .bad) _ := k2
          by_cases hk : hkey t' kd = true
          · rw [if_pos hk] at k2
            obtain ⟨ad', o, e7, dg, vd, _⟩ := dget_of ((rx.step F1 s2).is1 F2 e5) (.is ry) hk
            cases e7
            exact ⟨o, dg, k2.here F2 _ (vd_getD vd .non)⟩
          · rw [if_neg hk] at k2; exact False.elim k2
        | _ => exact False.elim k2
    · rw [if_neg hd] at k; exact False.elim k
theorem e_get2 (hu : X.A.units + 1 < cLine) (ha : PE X a (tG g W Ga)) (hb : PE X b (tE g W Fb)) (hc : PE X c (tE g W Fc)) (m : M2 X a "get" apos b c cpos) :
    PE X (.Call (.Attribute a "get" apos) [b, c] [] cpos) (tE g W fun ε => (args1 Ga ε).bind fun as ε1 => if isDct (Args.ds ε1 as) then (Fb ε1).bind fun kd ε2 => (Fc ε2).bind fun x ε3 => getR (Args.ds ε3 as) kd [x] ε3 else .bad) :=
  PE.imp (pe_dget2 hu ha hb hc m) fun σ H Q ⟨ε, As, T, F, h⟩ => by
    have h : Pst g W As T σ H ((args1 Ga ε).bind _) _ := h
    refine ⟨ε, As, T, F, (Pst.bind (Pst.bind h)).mono fun a ε1 As1 H1 F1 s1 k x rx => ?_⟩
    have k := k.here F1
    by_cases hd : isDct (Args.ds ε1 [a]) = true
    · rw [if_pos hd] at k
      obtain ⟨t, l, e1⟩ := isDct_one hd
      obtain ⟨_, _, e2, _, e3⟩ := Args.one e1
      cases e3
      obtain ⟨ad, rfl, isd⟩ := isD_of (rx.is1 F1 e2)
      refine ⟨ad, rfl, isd, ε1, As1, T, F1, (Pst.bind k).mono fun kd ε2 As2 H2 F2 s2 k2 y ry => ⟨ε2, As2, T, F2, (Pst.bind k2).mono fun xd ε3 As3 H3 F3 s3 k3 z rz => ?_⟩⟩
      cases e4 : Args.ds ε3 [a] with
      | none => rw [e4] at k3; exact False.elim k3
      | some ds =>
        rw [e4] at k3
        obtain ⟨d, r, e5, e6, rfl⟩ := Args.one e4
        cases e6
        cases d with
        | dct t' l' =>
          have k3 : Pst g W As3 T σ H3 (if hkey t' kd then .ok ((dlook l' kd).getD xd) ε3 else .bad) _ := k3
          by_cases hk : hkey t' kd = true
          · rw [if_pos hk] at k3
            obtain ⟨ad', o, e7, dg, vd, _⟩ := dget_of ((rx.step F1 (s2.trans s3)).is1 F3 e5) (.is (IsG.step F2 s3 ry)) hk
            cases e7
            exact ⟨o, dg, k3.here F3 _ (vd_getD vd rz)⟩
          · rw [if_neg hk] at k3; exact False.elim k3
        | _ => exact False.elim k3
    · rw [if_neg hd] at k; exact False.elim k
end
end Ev
set_option Elab.async false
set_option linter.all false
set_option maxRecDepth 100000
set_option maxHeartbeats 1000000
namespace Ev
open PySem PySem.Spec PyProof.Rows L2
section
variable {g : Gx} {W : WX} {ε : En} {As As' : Ass} {T : List Addr} {σ : L2.St} {H H' : Hp}
theorem SlOk.kp {K : PySem.W.Frag} {fa : FAd} {O O' : Addr → Prop} {s : Sl} {A : List Addr} {v : Option V} (om : OMut H O) (h : ∀ b, O' b → O b) (r : SlOk K fa H O s A v) : SlOk K fa H O' s A v :=
  r.keep om ⟨fun _ _ e _ => e, fun b _ _ z => h b z⟩ fun _ _ => rfl
theorem ow_hide {i : Nat} {b : Addr} : Ow g (setA As i []) (As i ++ T) b ↔ Ow g As T b := by
  constructor
  · rintro (z | ⟨j, z⟩ | z)
    · exact .inl z
    · by_cases e : j = i
      · subst e; rw [setA_same] at z; cases z
      · rw [setA_ne e] at z; exact .inr (.inl ⟨j, z⟩)
    · rcases List.mem_append.mp z with z | z
      · exact .inr (.inl ⟨i, z⟩)
      · exact .inr (.inr z)
  · rintro (z | ⟨j, z⟩ | z)
    · exact .inl z
    · by_cases e : j = i
      · subst e; exact .inr (.inr (List.mem_append_left _ z))
      · exact .inr (.inl ⟨j, by rw [setA_ne e]; exact z⟩)
    · exact .inr (.inr (List.mem_append_right _ z))
theorem FI.hide {i : Nat} (F : FI g ε As T σ H) (hi : i < ε.length) : FI g (ε.set i .und) (setA As i []) (As i ++ T) σ H := by
  have W1 := F.wipe1 (x := gs σ i) hi
  refine ⟨by rw [List.length_set]; exact F.len, fun j => ?_, W1.dis, W1.noc, W1.new, F.same, F.ocm, fun a h => ?_, fun a h => ?_, F.ioh, ?_, W1.own0⟩
  · rw [gt_set hi]
    by_cases e : j = i
    · subst e; rw [if_pos rfl, setA_same]; exact .und _
    · rw [if_neg e, setA_ne e]; exact (F.sl j).kp F.om fun b z => ow_hide.mp z
  · rcases List.mem_append.mp h with h | h
    · exact (F.sl i).mut a h
    · exact F.tm a h
  · rcases List.mem_append.mp h with h | h
    · refine ⟨F.new i a h, fun j z => ?_⟩
      by_cases e : j = i
      · subst e; rw [setA_same] at z; cases z
      · rw [setA_ne e] at z; exact e (F.dis j i a z h)
    · exact W1.tn a h
  · exact List.nodup_append.mpr ⟨(F.sl i).nodup, F.tnd, fun a h b h2 e => (F.tn b h2).2 i (e ▸ h)⟩
theorem FI.unhide {i : Nat} {s : Sl} {A : List Addr} (F : FI g ε As (A ++ T) σ H) (hi : i < ε.length) (r : SlOk g.K g.fa H (Ow g As (A ++ T)) s A (gs σ i)) (hv : ∃ v, gs σ i = some v) (hz : ∀ p, g.io = some p → i = 0 → ∀ a ∈ A, a = p) : FI g (ε.set i s) (setA As i A) T σ H := by
  obtain ⟨v, ev⟩ := hv
  have h := F.store (i := i) (s := s) (U := A) (v := v) hi (by rw [← ev]; exact r) (fun a ha hT => by
    have := (List.nodup_append.mp F.tnd).2.2 a ha a hT
    exact this rfl) hz
  rwa [set_self (gs_some ev)] at h
theorem FI.change {i : Nat} {p : Addr} {s' : Sl} (F : FI g ε As T σ H) (hi : i < ε.length) (hp : p ∈ As i) (k : ∀ b o, H b = some o → b ≠ p → H' b = some o) (hp' : ∃ o, H' p = some o) (h : SlOk g.K g.fa H' (Ow g As T) s' (As i) (gs σ i)) : FI g (ε.set i s') As T σ H' := by
  have nj : ∀ j, j ≠ i → ∀ a ∈ As j, a ≠ p := fun j e a ha z => e (F.dis j i p (z ▸ ha) hp)
  have kk : Kp (Ow g As T) (Ow g As T) H H' := ⟨fun b u e n => k b u e fun z => n (z ▸ .inr (.inl ⟨i, hp⟩)), fun _ _ _ h => h⟩
  refine ⟨by rw [List.length_set]; exact F.len, fun j => ?_, F.dis, F.noc, F.new, fun b u e n => ?_, F.ocm, fun a ha => ?_, F.tn, fun a e z => ?_, F.tnd, F.own0⟩
  · rw [gt_set hi]
    by_cases e : j = i
    · subst e; rw [if_pos rfl]; exact h
    · rw [if_neg e]
      refine (F.sl j).keep F.om kk fun a ha => ?_
      obtain ⟨o, eo, _⟩ := (F.sl j).mut a ha
      rw [eo, k a o eo (nj j e a ha)]
  · have : b ≠ p := fun z => by
      subst z
      rcases F.new i b hp with q | q
      · rw [q] at e; cases e
      · exact n q
    exact k b u (F.same b u e n) this
  · have : a ≠ p := fun z => (F.tn a ha).2 i (z ▸ hp)
    obtain ⟨o, eo, m⟩ := F.tm a ha
    exact ⟨o, k a o eo this, m⟩
  · by_cases q : a = p
    · subst q; obtain ⟨o, eo⟩ := hp'; rw [eo] at z; cases z
    · cases eo : H a with
      | none => exact F.ioh a e eo
      | some o => rw [k a o eo q] at z; cases z
theorem Stp.change {i : Nat} {p : Addr} (hp : p ∈ As i) (k : ∀ b o, H b = some o → b ≠ p → H' b = some o) : Stp As As H H' :=
  ⟨fun b o e n => k b o e fun z => n i (z ▸ hp), fun _ _ h => h⟩
theorem FI.own1L {i : Nat} {l : List D} (F : FI g ε As T σ H) (h : gt ε i = .own1 (.lst l)) : ∃ p xs, gs σ i = some (.ref p) ∧ As i = [p] ∧ H p = some (.lst xs) ∧ Iss g.K g.fa H (Ow g As T) xs l := by
  have q := F.sl i
  rw [h] at q
  generalize As i = A at q
  generalize gs σ i = o at q
  cases q with
  | lst e r => exact ⟨_, _, rfl, rfl, e, r⟩
theorem FI.own2L {i : Nat} {l : List (List D)} (F : FI g ε As T σ H) (h : gt ε i = .own2 l) : ∃ p qs, gs σ i = some (.ref p) ∧ As i = p :: qs ∧ H p = some (.lst (qs.map V.ref)) ∧ (p :: qs).Nodup ∧ Rws g.K g.fa H (Ow g As T) qs l := by
  have q := F.sl i
  rw [h] at q
  generalize As i = A at q
  generalize gs σ i = o at q
  cases q with
  | own2 e n r => exact ⟨_, _, rfl, rfl, e, n, r⟩
variable {X : Cx} {pos p p2 apos cpos : Pos} {a b c : Expr} {Ga Gb Gc : En → R Arg} {Fa Fb Fc : En → R D} {es : List Expr} {Ds : En → R (List D)} {x : Str}
theorem last_at {α : Type} {l : List α} {d : α} (h : l.getLast? = some d) : l[l.length - 1]? = some d := by rw [← List.getLast?_eq_getElem?]; exact h
theorem Iss.dropLast {K : PySem.W.Frag} {fa : FAd} {O : Addr → Prop} {xs : List V} {ds : List D} (h : Iss K fa H O xs ds) : Iss K fa H O xs.dropLast ds.dropLast := by
  rw [List.dropLast_eq_take, List.dropLast_eq_take, iss_len h]
  exact h.take _
theorem e_pop (cl : Cl) {i : Nat} (hN : X.N[i]? = some x) (hv : Vis X.env.scope x) (hd : (x == ("__debug__" : Str)) = false) (hcd : (x == ("__classdict__" : Str)) = false)
    (hbase : attributeBase (.Name x p) "pop" X.env (eval (.Name x p) X.env) = eval (.Name x p) X.env) (hline : (apos.endLine == cpos.line) = true) :
    PE X (.Call (.Attribute (.Name x p) "pop" apos) [] [] cpos) (tE g W (ev cl (.pop i))) := by
  refine PE.imp (pe_bm0 PySem.F.plainAttrs_list PySem.F.slot_list_pop PySem.F.type_list_pop (r := rPop) mt_pop (pe_var hN hv hd hcd) hbase hline) fun σ H Q ⟨ε, As, T, F, h⟩ => ?_
  have h : Pst g W As T σ H (match gt ε i with
    | .own1 (.lst l) => (match l.getLast? with
      | some d => R.ok d (ε.set i (.own1 (.lst l.dropLast)))
      | none => .bad)
    | _ => .bad) (fun d _ As' H' => ∀ v, IsG g As' T H' v d → Q v H') := by unfold ev at h; exact h
  cases e : gt ε i with
  | own1 d =>
    cases d with
    | lst l =>
      rw [e] at h
      cases e2 : l.getLast? with
      | none => simp only [e2] at h; exact False.elim h
      | some d =>
        simp only [e2] at h
        obtain ⟨q, xs, e3, e4, e5, r⟩ := F.own1L e
        have hi : i < ε.length := gt_lt (by rw [e]; exact fun z => by cases z)
        have hp : q ∈ As i := by rw [e4]; exact List.mem_singleton.mpr rfl
        have el := last_at e2
        obtain ⟨y, ey, ry⟩ := r.get el
        rw [← iss_len r] at ey
        have k := F.kpW (o := .lst xs.dropLast) hp
        refine ⟨.ref q, gs_some e3, .inl ⟨rfl, xs, .of e5⟩, q, xs, y, rfl, rfl, e5, ey, ?_⟩
        have F' : FI g (ε.set i (.own1 (.lst l.dropLast))) As T σ (upd H q (.lst xs.dropLast)) := F.write hi hp rfl (by rw [e3, e4]; exact .lst upd_same (r.dropLast.keep F.om k))
        exact h As _ F' (.write hp) y (ry.keep F.om k)
    | _ => rw [e] at h; exact False.elim h
  | _ => rw [e] at h; exact False.elim h
theorem Rws.get {K : PySem.W.Frag} {fa : FAd} {O : Addr → Prop} : ∀ {qs : List Addr} {l : List (List D)} {j : Nat} {r : List D}, Rws K fa H O qs l → l[j]? = some r → ∃ q xs, qs[j]? = some q ∧ H q = some (.lst xs) ∧ Iss K fa H O xs r
  | _, _, _, _, .nil, h => by simp at h
  | _, _, 0, _, .cons e a t, h => by simp at h; subst h; exact ⟨_, _, rfl, e, a⟩
  | _, _, j + 1, r, .cons e a t, h => by
    obtain ⟨q, xs, e1, r1⟩ := t.get (j := j) (by simpa using h)
    exact ⟨q, xs, by simpa using e1, r1⟩
theorem Rws.len {K : PySem.W.Frag} {fa : FAd} {O : Addr → Prop} : ∀ {qs : List Addr} {l : List (List D)}, Rws K fa H O qs l → qs.length = l.length
  | _, _, .nil => rfl
  | _, _, .cons e a t => by rw [List.length_cons, List.length_cons, t.len]
theorem atI_rows {K : PySem.W.Frag} {fa : FAd} {O : Addr → Prop} {qs : List Addr} {l : List (List D)} {i : Int} {r : List D} (h : Rws K fa H O qs l) (e : L2.atI l i = some r) : ∃ q j xs, L2.atI (qs.map V.ref) i = some (.ref q) ∧ ixN l.length i = some j ∧ qs[j]? = some q ∧ H q = some (.lst xs) ∧ Iss K fa H O xs r ∧ l[j]? = some r := by
  unfold L2.atI at e ⊢
  rw [List.length_map, h.len]
  cases hj : ixN l.length i with
  | none => rw [hj] at e; cases e
  | some j =>
    rw [hj] at e
    have e : l[j]? = some r := e
    obtain ⟨q, xs, e1, e2, r1⟩ := h.get e
    refine ⟨q, j, xs, ?_, rfl, e1, e2, r1, e⟩
    show (qs.map V.ref)[j]? = _
    rw [List.getElem?_map, e1]; rfl
theorem setA_sub {i j : Nat} {b : Addr} (z : b ∈ setA As i [] j) : b ∈ As j := by
  by_cases e : j = i
  · subst e; rw [setA_same] at z; cases z
  · rw [setA_ne e] at z; exact z
theorem Stp.unset {i : Nat} (s : Stp (Ev.setA As i []) As' H H') : Stp As As' H H' :=
  ⟨fun b o e n => s.keep b o e fun j z => n j (setA_sub z), fun j b z => setA_sub (s.less j b z)⟩
theorem own2_eq {s : Sl} {l : List (List D)} (h : own2? s = some l) : s = .own2 l := by
  cases s with
  | own2 m => cases h; rfl
  | _ => cases h
theorem e_ix2 {i : Nat} (hN : X.N[i]? = some x) (hv : Vis X.env.scope x) (hd : (x == ("__debug__" : Str)) = false) (hcd : (x == ("__classdict__" : Str)) = false) (ha : PE X a (tE g W Fa)) (hb : PE X b (tE g W Fb)) (hsa : PlainIx a) (hsb : PlainIx b) (hK : g.K = X.K) :
    PE X (.Subscript (.Subscript (.Name x p) a p2) b pos) (tE g W (ix2R0 i Fa Fb)) := by
  refine PE.imp (pe_ix ix_list (pe_ix ix_list (pe_var hN hv hd hcd) ha hsa) hb hsb) fun σ H Q ⟨ε, As, T, F, h⟩ => ?_
  have h : Pst g W As T σ H (ix2R0 i Fa Fb ε) (fun d _ As' H' => ∀ v, IsG g As' T H' v d → Q v H') := h
  unfold ix2R0 at h
  cases e0 : own2? (gt ε i) with
  | none => rw [e0] at h; exact False.elim h
  | some l0 =>
    rw [e0] at h
    have h : Pst g W As T σ H ((Fa ε).bind _) _ := h
    have hi : i < ε.length := gt_lt (by rw [own2_eq e0]; exact fun z => by cases z)
    obtain ⟨p0, q0, g0, _⟩ := F.own2L (own2_eq e0)
    refine ⟨.ref p0, gs_some g0, ε, As, T, F, (Pst.bind h).mono fun xd ε1 As1 H1 F1 s1 k1 xv rx => ?_⟩
    cases e1 : own2? (gt ε1 i) with
    | none => rw [e1] at k1; exact False.elim k1
    | some l =>
      rw [e1] at k1
      cases xd with
      | int j =>
        cases rx
        cases e2 : L2.atI l j with
        | none => simp only [e2] at k1; exact False.elim k1
        | some r =>
          simp only [e2] at k1
          obtain ⟨p1, qs, g1, eA, hp, nd, rw1⟩ := F1.own2L (own2_eq e1)
          rw [g0] at g1; cases g1
          obtain ⟨q, m, xs, a1, a2, a3, a4, a5, a6⟩ := atI_rows rw1 e2
          refine ⟨p0, qs.map V.ref, j, .ref q, rfl, rfl, by rw [← hK]; exact .of hp, a1, ?_⟩
          have hi1 : i < ε1.length := gt_lt (by rw [own2_eq e1]; exact fun z => by cases z)
          have Fh := F1.hide hi1
          have k1 : Pst g W As1 T σ H1 ((Fb (ε1.set i .und)).bind _) _ := k1
          refine ⟨ε1.set i .und, setA As1 i [], As1 i ++ T, Fh, ?_⟩
          have back : ∀ {ε2 : En} {As2 : Ass} {H2 : Hp}, FI g ε2 As2 (As1 i ++ T) σ H2 → Stp (setA As1 i []) As2 H1 H2 → FI g (ε2.set i (.own2 l)) (setA As2 i (As1 i)) T σ H2 ∧ Stp As1 (setA As2 i (As1 i)) H1 H2 := fun {ε2 As2 H2} F2 s2 => by
            have hk : ∀ b ∈ As1 i, H2 b = H1 b := fun b hb => by
              obtain ⟨o, eo, _⟩ := (F1.sl i).mut b hb
              rw [eo]
              refine s2.keep b o eo fun j z => ?_
              by_cases e : j = i
              · subst e; rw [setA_same] at z; cases z
              · rw [setA_ne e] at z; exact e (F1.dis j i b z hb)
            have so : SlOk g.K g.fa H2 (Ow g As2 (As1 i ++ T)) (.own2 l) (As1 i) (gs σ i) := by
              have := (F1.sl i).kp F1.om (O' := Ow g (setA As1 i []) (As1 i ++ T)) fun b z => ow_hide.mp z
              rw [own2_eq e1] at this
              exact this.keep Fh.om s2.kp hk
            refine ⟨F2.unhide (by rw [F2.len, ← F1.len]; exact hi1) so ⟨_, g0⟩ (fun p e ei a z => F1.own0 p e a (by rw [ei] at z; exact z)), ⟨fun b o eo n => ?_, fun j b z => ?_⟩⟩
            · refine s2.keep b o eo fun j z => ?_
              by_cases e : j = i
              · subst e; rw [setA_same] at z; cases z
              · rw [setA_ne e] at z; exact n j z
            · by_cases e : j = i
              · subst e; rw [setA_same] at z; exact z
              · rw [setA_ne e] at z
                have := s2.less j b z
                rw [setA_ne e] at this; exact this
          cases eb : Fb (ε1.set i .und) with
          | bad => rw [eb] at k1; exact k1
          | exc c ε2 =>
            rw [eb] at k1
            exact fun As' H' F' s' => k1 As' H' F'.drop (Stp.unset s')
          | ok y ε2 =>
            rw [eb] at k1
            intro As2 H2 F2 s2 yv ry
            obtain ⟨F3, s3⟩ := back F2 s2
            cases y with
            | int k =>
              cases ry
              have k1 : Pst g W As1 T σ H1 (match L2.atI r k with | some d => R.ok d (ε2.set i (.own2 l)) | none => .bad) _ := k1
              cases e3 : L2.atI r k with
              | none => rw [e3] at k1; exact False.elim k1
              | some d =>
                rw [e3] at k1
                have hq : q ∈ As1 i := by rw [eA]; exact List.mem_cons_of_mem _ (List.mem_of_getElem? a3)
                have h2q : H2 q = some (.lst xs) := s2.keep q _ a4 fun j z => by
                  by_cases e : j = i
                  · subst e; rw [setA_same] at z; cases z
                  · rw [setA_ne e] at z; exact e (F1.dis j i q z hq)
                have r2 : Iss g.K g.fa H2 (Ow g (setA As2 i (As1 i)) T) xs r := a5.keep F1.om s3.kp
                obtain ⟨z, ez, rz⟩ := atI_is r2 e3
                exact ⟨q, xs, k, z, rfl, rfl, by rw [← hK]; exact .of h2q, ez, k1 _ _ F3 s3 z rz⟩
            | _ => exact False.elim k1
      | _ => exact False.elim k1
theorem sliceApplied_rev {sl : Addr} {vl vu vs : Value} {n : Nat} {prog : Program} {w : World} {A : Around} {E : Value → Shared → Prop} {s : Shared} {Q : Int × Int × Nat → Shared → Prop} (hs : s.heap.IsSliceOf sl vl vu vs) (pl : IsPart vl none) (pu : IsPart vu none) (ps : IsPart vs (some (-1)))
    (h : Q ((n : Int) - 1, -1, n) s) : wpAny (model prog w) A (Builtin.Slice.sliceApplied (.ref sl) (pure (n : Int))) Q E s := by
  obtain ⟨os, hos, hcs, hds⟩ := id hs
  unfold Builtin.Slice.sliceApplied Builtin.Slice.sliceFields
  refine wpAny_bind (wpAny_bind (wpAny_field hos hds (x := vl) rfl (wpAny_bind (wpAny_field hos hds (x := vu) rfl (wpAny_bind (wpAny_field hos hds (x := vs) rfl (wpAny_pure ?_)))))))
  refine wpAny_bind (HT.slicePart_ ps ?_)
  show wpAny _ _ (if ((-1 : Int) == 0) = true then _ else _) _ _ s
  rw [if_neg (by decide)]
  refine wpAny_bind (HT.slicePart_ pl (wpAny_bind (HT.slicePart_ pu (wpAny_bind (wpAny_pure ?_)))))
  show wpAny _ _ (pure ((n : Int) - 1, (-1 : Int), Builtin.Slice.slicePlaces ((n : Int) - 1) (-1) (-1))) _ _ s
  have e : Builtin.Slice.slicePlaces ((n : Int) - 1) (-1) (-1) = n := by
    unfold Builtin.Slice.slicePlaces
    rw [if_neg (by decide)]
    by_cases h : (n : Int) - 1 > -1
    · rw [if_pos h, show (-(-1 : Int)) = 1 by decide, Int.ediv_one]; omega
    · rw [if_neg h]; omega
  rw [e]
  exact wpAny_pure h
theorem pick_rev (xs : Array Value) : ((List.range xs.size).filterMap fun (m : Nat) => xs[((xs.size : Int) - 1 + (m : Int) * (-1)).toNat]?).toArray = xs.toList.reverse.toArray := by
  have e : ((List.range xs.size).filterMap fun (m : Nat) => xs[((xs.size : Int) - 1 + (m : Int) * (-1)).toNat]?) = ((List.range xs.size).map fun (m : Nat) => ((xs.size : Int) - 1 + (m : Int) * (-1)).toNat).filterMap (xs[·]?) := by
    rw [List.filterMap_map]; rfl
  have e2 : ((List.range xs.size).map fun (m : Nat) => ((xs.size : Int) - 1 + (m : Int) * (-1)).toNat) = (List.range xs.size).map fun k => xs.size - 1 - k := by
    apply List.map_congr_left
    intro k hk
    have := List.mem_range.mp hk
    omega
  rw [e, e2, PySem.W.krv_range, List.filterMap_reverse, PySem.W.krv_all]
theorem getItem_tuple_rev {prog : Program} {w : World} {A : Around} {E : Value → Shared → Prop} {s : Shared} {t sl : Addr} {items : Array Value} {vl vu vs : Value} {Q : Value → Shared → Prop} (ht : IsTup s.heap t items) (hs : s.heap.IsSliceOf sl vl vu vs) (pl : IsPart vl none) (pu : IsPart vu none) (ps : IsPart vs (some (-1)))
    (h : Q (.ref s.heap.objs.size) { s with heap := s.heap.push { cls := .type "tuple", data := .seq items.toList.reverse.toArray } })
    (hsz : items.size ≤ sizeLine) : wpAny (model prog w) A (getItem (.ref t) (.ref sl)) Q E s := by
  have htake : sizeOk (.seq items.toList.reverse.toArray) := by
    show items.toList.reverse.toArray.size ≤ sizeLine
    rw [List.size_toArray, List.length_reverse, Array.length_toList]
    exact hsz
  obtain ⟨os, hos, hcs, hds⟩ := id hs
  have hTs : s.TypeIs (.ref sl) "slice" := ⟨os, hos, hcs⟩
  unfold getItem
  try with_reducible refine wpAny_holding ?_
  first | refine wpAny_bind (wpAny_pure ?_) | skip
  refine wpAny_bind (wpAny_sequenceKey ht.typeIs (by decide) ?_)
  refine wpAny_bind (wpAny_callSpecial?_slot (name := Str.ofString "__getitem__") ht.typeIs PyProof.Rows.slot_tuple_getitem
    (wpAny_call_entry PyProof.Rows.slot_tuple_getitem ht.typeIs entry_tuple_getitem ?_ (args_tuple_getitem _ _)))
  show wpAny _ _ (Builtin.Tuple.tupleItemsOf (.ref t) >>= _) _ _ s
  refine wpAny_bind (tupleItemsOf_ ht ?_)
  refine wpAny_bind (wpAny_typeOf hTs ?_)
  rw [if_pos (by decide)]
  refine wpAny_bind (sliceApplied_rev hs pl pu ps ?_)
  show wpAny _ _ (if (((items.size : Int) - 1 == 0 && (-1 : Int) == 1 && items.size == items.size) = true) then _ else _) _ _ s
  rw [if_neg (by simp), pick_rev]
  first
    | exact wpAny_bind (m := Builtin.Tuple.tupleExact _) (wpAny_newObj_type (wpAny_pure ⟨_, rfl, wpAny_pure h⟩) htake)
    | exact wpAny_bind (m := Builtin.Tuple.tupleExact _) (wpAny_newObj_type (wpAny_bind (wpAny_pure (wpAny_pure ⟨_, rfl, wpAny_pure h⟩))) htake)
    | exact wpAny_bind (wpAny_bind (m := Builtin.Tuple.tupleExact _) (wpAny_newObj_type (wpAny_pure (wpAny_pure ⟨_, rfl, wpAny_pure h⟩)) htake))
    | exact wpAny_bind (wpAny_bind (m := Builtin.Tuple.tupleExact _) (wpAny_newObj_type (wpAny_pure ⟨_, rfl, wpAny_pure h⟩) htake))
theorem e_rev {k : Nat} {p1 p3 : Pos} (ha : PE X a (tG g W Ga)) (hK : g.K = X.K) : PE X (.Subscript a (.Slice none none (some (.UnaryOp .USub (.Constant (.int 1) k p1) p2)) p3) pos) (tE g W fun ε => opR .rev (args1 Ga ε)) := by
  refine ⟨fun pins s σ H Q I ⟨ε, As, T, F, h⟩ => ?_⟩
  have h : Pst g W As T σ H ((args1 Ga ε).bind _) _ := h
  refine Subscript_ (thn (ha.run pins s σ H (fun x H1 => ∃ (O : Addr → Prop) (z d : D), OMut H1 O ∧ Is1 X.K g.fa H1 O x z ∧ pr .rev [z] = some d ∧ ∀ v H', Same H1 H' → Is X.K g.fa H' O v d → Q v H') I
    ⟨ε, As, T, F, (Pst.bind (Pst.bind h)).mono fun a ε1 As1 H1 F1 s1 k x rx => ?_⟩) fun v s1 ⟨x, H1, I1, r1, O, z, d, om, rz, e, q⟩ => ?_)
  · obtain ⟨ds, d, e1, r, e2, q⟩ := sl_fin F1 (.cons rx .nil) (k.here F1)
    obtain ⟨z, rfl, rz⟩ := r.one'
    rw [← hK]
    exact ⟨Ow g As1 T, z, d, F1.om, rz, e2, q⟩
  have hst : PO X (some (.UnaryOp .USub (.Constant (.int 1) k p1) p2)) (tPart (tUn (rU fun i => .int (-i)) (tC (.int 1)))) := po_some (pe_un un_neg pe_int)
  refine wpAny_Slice (thn (po_none.run pins s1 σ H1 (fun o H2 => o = none ∧ H2 = H1) I1 ⟨rfl, rfl⟩) fun vl s2 ⟨l, H2, I2, pl, el, e2⟩ => ?_)
  subst el e2
  refine thn (po_none.run pins s2 σ H2 (fun o H3 => o = none ∧ H3 = H2) I2 ⟨rfl, rfl⟩) fun vu s3 ⟨u, H3, I3, pu, eu, e3⟩ => ?_
  subst eu e3
  refine thn (hst.run pins s3 σ H3 (fun o H4 => o = some (-1) ∧ H4 = H3) I3 ⟨1, rfl, -1, rfl, rfl, rfl⟩) fun vs s4 ⟨o, H4, I4, ps, eo, e4⟩ => ?_
  subst eo e4
  have I5 : Inv X pins σ H4 { s4 with heap := s4.heap.push { cls := .type "slice", data := .fields #[vl, vu, vs] } } := I4.kept (t' := s4.toks) fun b ob q => Heap.get?_push_of_some _ q
  have hn : H4 (s4.heap.objs.size + 1) = none := by
    have := I5.hok.fresh (a := s4.heap.objs.size + 1) (by show (s4.heap.push _).objs.size ≤ _; rw [Heap.size_push]; exact Nat.le_refl _)
    exact this
  show wpAny (model X.prog X.w) X.A (subscriptTail a (.Slice none none (some (.UnaryOp .USub (.Constant (.int 1) k p1) p2)) p3) v (.ref s4.heap.objs.size)) (EP X pins σ Q) X.xe { s4 with heap := s4.heap.push { cls := .type "slice", data := .fields #[vl, vu, vs] } }
  cases z with
  | lst l =>
    obtain ⟨al, xs, rfl, h1, rl⟩ := rz.lst'
    obtain rfl := Option.some.inj (show some (D.lst l.reverse) = some d from e)
    cases r1
    obtain ⟨its, r, ht, hz⟩ := I5.list (.of h1)
    have hlen := r.length
    refine tail_any (ops := [.ref al, .ref s4.heap.objs.size]) ht.isList.typeIs (PySem.slot_list_getitem.lookup) ?_ (by with_unfolding_all rfl)
    refine wpAny_getItem_list_slice ht.isList (Heap.IsSliceOf.new _ vl vu vs) pl pu ps (by decide) ?_ (by rw [List.size_toArray]; omega)
    rw [PySem.W.krv_pick]
    refine ⟨.ref _, _, I5.laid (t' := s4.toks) (o := .lst xs.reverse) (fun b ob q => Heap.get?_push_of_some _ q) (Nat.le_refl _) ?_, rfl, q _ _ (same_new (I5.hok.fresh (Nat.le_refl _))) (is_lst om (I5.hok.fresh (Nat.le_refl _)) rl.rev)⟩
    exact ⟨by rw [List.length_reverse]; exact hz, _, 0, r.reverse, Heap.get?_push_size _ rfl⟩
  | tup l =>
    obtain ⟨al, xs, rfl, h1, rl, _⟩ := rz.tup
    obtain rfl := Option.some.inj (show some (D.tup l.reverse) = some d from e)
    cases r1
    obtain ⟨its, r, ht, hz⟩ := I5.tuple (.of h1)
    have hlen := r.length
    refine tail_any (ops := [.ref al, .ref s4.heap.objs.size]) ht.typeIs (PyProof.Rows.slot_tuple_getitem.lookup) ?_ (by with_unfolding_all rfl)
    refine getItem_tuple_rev ht (Heap.IsSliceOf.new _ vl vu vs) pl pu ps ?_ (by rw [List.size_toArray, ← hlen]; exact hz)
    refine ⟨.ref _, _, I5.laid (t' := s4.toks) (o := .tup xs.reverse) (fun b ob q => Heap.get?_push_of_some _ q) (Nat.le_refl _) ?_, rfl, q _ _ (same_new (I5.hok.fresh (Nat.le_refl _))) (is_tup om (I5.hok.fresh (Nat.le_refl _)) rl.rev)⟩
    exact ⟨by rw [List.length_reverse]; exact hz, _, r.reverse, ⟨_, Heap.get?_push_size _ rfl, rfl, _, rfl⟩⟩
  | _ => exact bad1 e rfl
end
end Ev
set_option Elab.async false
set_option linter.all false
set_option maxRecDepth 100000
set_option maxHeartbeats 1000000
namespace Ev
open PySem PySem.Spec PyProof.Rows L2

def spP (K : PySem.W.Frag) (fa : FAd) (ex : Nat → Addr) (n : Nat) (f : List D → CR) : Sp := fun vs H Q E => vs.length = n ∧ ∃ (Oc : Addr → Prop) (ds : List D), OMut H Oc ∧ Iss K fa H Oc vs ds ∧
  match f ds with
  | .ok d => ∀ v H', Same H H' → Is K fa H' Oc v d → Q v H'
  | .exc c => ∀ H', Same H H' → E (.ref (ex c)) none H'
  | _ => False
def spI (K : PySem.W.Frag) (fa : FAd) (ex : Nat → Addr) (n : Nat) (f : List D → CR) : Sp := fun vs H Q E => vs.length = n ∧ ∃ (Oc : Addr → Prop) (p : Addr) (xs vs' : List V) (l ds : List D), vs = .ref p :: vs' ∧ H p = some (.lst xs) ∧ ¬ Oc p ∧ OMut H Oc ∧
  Iss K fa H (fun a => Oc a ∨ a = p) xs l ∧ Iss K fa H (fun a => Oc a ∨ a = p) vs' ds ∧
  match f (.lst l :: ds) with
  | .okio d l' => ∃ es, l' = .lst es ∧ ∀ v H' ys, (∀ b o, H b = some o → b ≠ p → H' b = some o) → H' p = some (.lst ys) → Iss K fa H' (fun a => Oc a ∨ a = p) ys es → Is K fa H' (fun a => Oc a ∨ a = p) v d → Q v H'
  | _ => False
section
variable {g : Gx} {W : WX} {X : Cx} {pos p p2 apos cpos : Pos} {a b c : Expr} {es : List Expr} {Ds : En → R (List D)} {x : Str}
def callR (cl : Cl) (f : Nat) (r : R (List D)) : R D := r.bind fun ds ε1 => match cl f ds with
  | .ok d => .ok d ε1
  | .exc c => .exc c ε1
  | _ => .bad
theorem call_fin {cl : Cl} {f : Nat} {n : Nat} {ε : En} {As : Ass} {T : List Addr} {σ : L2.St} {H : Hp} {ds : List D} {vs : List V} {Q : VK} (hn : ds.length = n) (F : FI g ε As T σ H) (hv : IssG g As T H vs ds)
    (h : Pst g W As T σ H (match cl f ds with | .ok d => R.ok d ε | .exc c => .exc c ε | _ => .bad) fun d _ As' H' => ∀ v, IsG g As' T H' v d → Q v H') : spP g.K g.fa g.ex n (cl f) vs H Q (WE W σ) := by
  refine ⟨by rw [iss_len hv]; exact hn, Ow g As T, ds, F.om, hv, ?_⟩
  cases e : cl f ds with
  | ok d => rw [e] at h; exact fun v H' s r => h As H' (F.grow s) (.of_same s) v r
  | exc c => rw [e] at h; exact fun H' s => h As H' (F.grow s) (.of_same s)
  | okio d l => rw [e] at h; exact h
  | okf l => rw [e] at h; exact h
  | bad => rw [e] at h; exact h
theorem e_call {cl : Cl} {f k : Nat} {fA : Addr} {fd : FuncData} {ps : List Str} (F : FnOk X.prog X.w X.K X.mg X.base (L2.CX X.prog X.w) k fA fd ps (spP g.K g.fa g.ex ps.length (cl f))) (hr : Room k X.A) (hg : Gl X x) (hm : X.mg x = some (.ref fA)) (hk : PySem.W.keepIn X.K (.ref fA) = true)
    (hb : Binds X.K fd ps []) (tk : Takes X W) (hl : ps.length = es.length + 1) (hlen : ∀ ε ds ε', Ds ε = .ok ds ε' → ds.length = es.length + 1) (ha : PA X (a :: es) (tD g W Ds)) (hdb : (x == ("__debug__" : Str)) = false) (he : starEach (a :: es) X.env = (false, eval a X.env) :: starEach es X.env) (hpl : (backTo pos (starEach es X.env)).any (·.1) = false) :
    PE X (.Call (.Name x p) (a :: es) [] pos) (tE g W fun ε => callR cl f (Ds ε)) :=
  PE.imp (pe_callS F hr hg hm hk hb (fun σ => passAt tk σ) ha hdb he hpl) fun σ H Q ⟨ε, As, T, F, h⟩ => by
    have h : Pst g W As T σ H ((Ds ε).bind _) _ := h
    refine ⟨ε, As, T, F, ?_⟩
    cases e : Ds ε with
    | bad => rw [e] at h; exact h
    | exc c ε1 => rw [e] at h; exact h
    | ok ds ε1 =>
      rw [e] at h
      intro As1 H1 F1 s1 vs rs
      refine call_fin (by rw [hlen _ _ _ e, hl]) F1 rs ?_
      have h : Pst g W As T σ H (match cl f ds with | .ok d => R.ok d ε1 | .exc c => .exc c ε1 | _ => .bad) _ := h
      generalize (match cl f ds with | .ok d => R.ok d ε1 | .exc c => .exc c ε1 | _ => .bad) = r at h
      cases r with
      | bad => exact h
      | exc c ε2 => exact fun As2 H2 F2 s2 => h As2 H2 F2 (s1.trans s2)
      | ok d ε2 => exact fun As2 H2 F2 s2 => h As2 H2 F2 (s1.trans s2)
theorem e_callv {cl : Cl} {i k : Nat} (hF : ∀ f fA, g.fa f = some fA → ∃ fd ps, FnOk X.prog X.w X.K X.mg X.base (L2.CX X.prog X.w) k fA fd ps (spP g.K g.fa g.ex ps.length (cl f)) ∧ PySem.W.keepIn X.K (.ref fA) = true ∧ Binds X.K fd ps [] ∧ ∀ ds, (∀ d, cl f ds = .ok d → ds.length = ps.length) ∧ ∀ c, cl f ds = .exc c → ds.length = ps.length)
    (hr : Room k X.A) (hN : X.N[i]? = some x) (hv : Vis X.env.scope x) (tk : Takes X W) (ha : PA X (a :: es) (tD g W Ds)) (hdb : (x == ("__debug__" : Str)) = false) (hcd : (x == ("__classdict__" : Str)) = false) (he : starEach (a :: es) X.env = (false, eval a X.env) :: starEach es X.env) (hpl : (backTo pos (starEach es X.env)).any (·.1) = false) :
    PE X (.Call (.Name x p) (a :: es) [] pos) (tE g W fun ε => match gt ε i with | .val (.fn f) => callR cl f (Ds ε) | _ => .bad) := by
  refine ⟨fun pins s σ H Q I ⟨ε, As, T, F, h⟩ => ?_⟩
  have h : Pst g W As T σ H (match gt ε i with | .val (.fn f) => callR cl f (Ds ε) | _ => .bad) (fun d _ As' H' => ∀ v, IsG g As' T H' v d → Q v H') := h
  cases e0 : gt ε i with
  | val d =>
    cases d with
    | fn f =>
      rw [e0] at h
      obtain ⟨v, ev, rv⟩ := F.getVal e0
      cases rv with
      | @fn _ fA hfa =>
      have h : Pst g W As T σ H ((Ds ε).bind _) (fun d _ As' H' => ∀ v, IsG g As' T H' v d → Q v H') := h
      obtain ⟨fd, ps, Fo, hk, hb, hlen⟩ := hF f fA hfa
      refine wpAny_Call_Name_kw (thn ((pe_var (pos := p) hN hv hdb hcd).run pins s σ H (fun v H1 => v = .ref fA ∧ H1 = H) I ⟨.ref fA, gs_some ev, rfl, rfl⟩) fun u s1 ⟨v, H1, I1, r1, q1⟩ => ?_)
      obtain ⟨rfl, rfl⟩ := q1
      cases r1
      refine PySem.W.callWith_K (h₀ := X.base) I.ok.mod.kin hk (thn (ha.run pos pins s1 σ _ (fun vs H2 => spP g.K g.fa g.ex ps.length (cl f) vs H2 Q (WE W σ)) I1 ⟨ε, As, T, F, ?_⟩) fun us s2 ⟨vs, H2, I2, r, q⟩ => ⟨I2.kIn, run_fnS Fo hr hb (passAt tk σ) I2 r q⟩) he hpl
      exact (Pst.bind h).mono fun ds ε1 As1 H1 F1 s1 k vs rs => by
        refine call_fin ?_ F1 rs k
        cases e : cl f ds with
        | ok d => exact (hlen ds).1 d e
        | exc c => exact (hlen ds).2 c e
        | okio d l => rw [e] at k; exact False.elim k
        | okf l => rw [e] at k; exact False.elim k
        | bad => rw [e] at k; exact False.elim k
    | _ => rw [e0] at h; exact False.elim h
  | _ => rw [e0] at h; exact False.elim h
def callioR (cl : Cl) (f i : Nat) (r : R (List D)) : R D := r.bind fun ds ε1 => match gt ε1 i with
  | .own1 (.lst l) => (match cl f (.lst l :: ds) with
    | .okio d (.lst l') => .ok d (ε1.set i (.own1 (.lst l')))
    | _ => .bad)
  | _ => .bad
theorem e_callio {cl : Cl} {f k i : Nat} {fA : Addr} {fd : FuncData} {ps : List Str} {z : Str} {pz : Pos} (F : FnOk X.prog X.w X.K X.mg X.base (L2.CX X.prog X.w) k fA fd ps (spI g.K g.fa g.ex ps.length (cl f))) (hr : Room k X.A) (hg : Gl X x) (hm : X.mg x = some (.ref fA)) (hk : PySem.W.keepIn X.K (.ref fA) = true)
    (hb : Binds X.K fd ps []) (tk : Takes X W) (hl : ps.length = es.length + 1) (hlen : ∀ ε ds ε', Ds ε = .ok ds ε' → ds.length = es.length) (hN : X.N[i]? = some z) (hv : Vis X.env.scope z) (hd : (z == ("__debug__" : Str)) = false) (hcd : (z == ("__classdict__" : Str)) = false)
    (ha : PA X es (tD g W Ds)) (hdb : (x == ("__debug__" : Str)) = false) (he : starEach (.Name z pz :: es) X.env = (false, eval (.Name z pz) X.env) :: starEach es X.env) (hpl : (backTo pos (starEach es X.env)).any (·.1) = false) :
    PE X (.Call (.Name x p) (.Name z pz :: es) [] pos) (tE g W fun ε => match gt ε i with | .own1 (.lst _) => callioR cl f i (Ds ε) | _ => .bad) :=
  PE.imp (pe_callS F hr hg hm hk hb (fun σ => passAt tk σ) (pa_cons (pe_var hN hv hd hcd) ha he) hdb he hpl) fun σ H Q ⟨ε, As, T, F, h⟩ => by
    have h : Pst g W As T σ H (match gt ε i with | .own1 (.lst _) => callioR cl f i (Ds ε) | _ => .bad) (fun d _ As' H' => ∀ v, IsG g As' T H' v d → Q v H') := h
    cases e0 : gt ε i with
    | own1 d =>
      cases d with
      | lst l0 =>
        rw [e0] at h
        obtain ⟨p0, xs0, g0, _, _, _⟩ := F.own1L e0
        have h : Pst g W As T σ H ((Ds ε).bind _) (fun d _ As' H' => ∀ v, IsG g As' T H' v d → Q v H') := h
        refine ⟨.ref p0, gs_some g0, ε, As, T, F, ?_⟩
        cases e : Ds ε with
        | bad => rw [e] at h; exact h
        | exc c ε1 => rw [e] at h; exact h
        | ok ds ε1 =>
          rw [e] at h
          intro As1 H1 F1 s1 vs rs
          have h : Pst g W As T σ H (match gt ε1 i with
            | .own1 (.lst l) => (match cl f (.lst l :: ds) with
              | .okio d (.lst l') => R.ok d (ε1.set i (.own1 (.lst l')))
              | _ => .bad)
            | _ => .bad) (fun d _ As' H' => ∀ v, IsG g As' T H' v d → Q v H') := h
          cases e1 : gt ε1 i with
          | own1 d1 =>
            cases d1 with
            | lst l =>
              rw [e1] at h
              obtain ⟨p1, xs, g1, eA, hp, r⟩ := F1.own1L e1
              rw [g0] at g1; cases g1
              have hpA : p0 ∈ As1 i := by rw [eA]; exact List.mem_singleton.mpr rfl
              have iff : ∀ b, (Ow g (setA As1 i []) T b ∨ b = p0) ↔ Ow g As1 T b := fun b => by
                constructor
                · rintro ((z | ⟨j, z⟩ | z) | z)
                  · exact .inl z
                  · exact .inr (.inl ⟨j, setA_sub z⟩)
                  · exact .inr (.inr z)
                  · rw [z]; exact .inr (.inl ⟨i, hpA⟩)
                · rintro (z | ⟨j, z⟩ | z)
                  · exact .inl (.inl z)
                  · by_cases e : j = i
                    · subst e; rw [eA] at z; exact .inr (List.mem_singleton.mp z)
                    · exact .inl (.inr (.inl ⟨j, by rw [setA_ne e]; exact z⟩))
                  · exact .inl (.inr (.inr z))
              have k1 : Kp (Ow g As1 T) (fun b => Ow g (setA As1 i []) T b ∨ b = p0) H1 H1 := ⟨fun _ _ e _ => e, fun b _ _ z => (iff b).mp z⟩
              have om1 : OMut H1 (Ow g (setA As1 i []) T) := fun b z => F1.om b ((iff b).mp (.inl z))
              refine ⟨by rw [List.length_cons, iss_len rs, hlen _ _ _ e, hl], Ow g (setA As1 i []) T, p0, xs, vs, l, ds, rfl, hp, F1.notOw hpA, om1, r.keep F1.om k1, rs.keep F1.om k1, ?_⟩
              cases e2 : cl f (.lst l :: ds) with
              | okio d l' =>
                cases l' with
                | lst l' =>
                  simp only [e2] at h
                  refine ⟨l', rfl, fun v H' ys kk hp' r1 r2 => ?_⟩
                  have hi : i < ε1.length := gt_lt (by rw [e1]; exact fun z => by cases z)
                  have om2 : OMut H' (fun b => Ow g (setA As1 i []) T b ∨ b = p0) := fun b z => by
                    by_cases e : b = p0
                    · rw [e]; exact ⟨_, hp', rfl⟩
                    · obtain ⟨o, eo, m⟩ := F1.om b ((iff b).mp z)
                      exact ⟨o, kk b o eo e, m⟩
                  have k2 : Kp (fun b => Ow g (setA As1 i []) T b ∨ b = p0) (Ow g As1 T) H' H' := ⟨fun _ _ e _ => e, fun b _ _ z => (iff b).mpr z⟩
                  have F2 : FI g (ε1.set i (.own1 (.lst l'))) As1 T σ H' := F1.change hi hpA kk ⟨_, hp'⟩ (by rw [g0, eA]; exact .lst hp' (r1.keep om2 k2))
                  exact h As1 H' F2 (s1.trans (.change hpA kk)) v (r2.keep om2 k2)
                | _ => simp only [e2] at h; exact False.elim h
              | _ => simp only [e2] at h; exact False.elim h
            | _ => rw [e1] at h; exact False.elim h
          | _ => rw [e1] at h; exact False.elim h
      | _ => rw [e0] at h; exact False.elim h
    | _ => rw [e0] at h; exact False.elim h
end
end Ev
set_option Elab.async false
set_option linter.all false
set_option maxRecDepth 100000
set_option maxHeartbeats 1000000
namespace Ev
open PySem PySem.Spec PyProof.Rows L2

theorem Kp.trans {O O' O'' : Addr → Prop} {H H' H'' : Hp} (a : Kp O O' H H') (b : Kp O' O'' H' H'') : Kp O O'' H H'' :=
  ⟨fun c o e n => b.keep c o (a.keep c o e n) fun z => n (a.less c o e z), fun c o e z => Classical.byContradiction fun n => n (a.less c o e (b.less c o (a.keep c o e n) z))⟩
theorem Kp.of_same {O : Addr → Prop} {H H' : Hp} (s : Same H H') : Kp O O H H' := ⟨fun b o h _ => s b o h, fun _ _ _ h => h⟩
structure Wk (g : Gx) (J : It) (ds : List D) (M : (Addr → Prop) → Hp → Prop) : Prop where
  keep : ∀ O H O' H', OMut H O → Kp O O' H H' → M O H → M O' H'
  go : ∀ O H i, M O H → i < ds.length → J.go i H
  stop : ∀ O H, M O H → J.stop ds.length H
  yld : ∀ O H i d x H', OMut H O → M O H → ds[i]? = some d → J.yld i H x H' → Same H H' ∧ Is g.K g.fa H' O x d
def tI (g : Gx) (W : WX) (F : En → R (List D)) : TI := fun σ H R => Run g W F σ H fun ds _ As T H' => ∀ J M, Wk g J ds M → M (Ow g As T) H' → R J H'
theorem PI.imp {X : Cx} {tg e : Expr} {t t' : TI} (h : PI X tg e t) (i : ∀ σ H R, t' σ H R → t σ H R) : PI X tg e t' := ⟨fun pins s σ H R I q => h.run pins s σ H R I (i σ H R q)⟩
section
variable {g : Gx} {W : WX} {ε : En} {As As' : Ass} {T : List Addr} {σ : L2.St} {H H' : Hp}
theorem wk_list {a : Addr} {vs : List V} {ds : List D} (hl : vs.length = ds.length) : Wk g (Itl g.K a) ds fun O H => H a = some (.lst vs) ∧ ¬ O a ∧ Iss g.K g.fa H O vs ds where
  keep := fun O H O' H' om k ⟨e, n, r⟩ => ⟨k.keep _ _ e n, fun z => n (k.less _ _ e z), r.keep om k⟩
  go := fun O H i ⟨e, n, r⟩ h => ⟨vs, vs[i]'(by rw [hl]; exact h), .inl (.inl e), List.getElem?_eq_getElem _⟩
  stop := fun O H ⟨e, n, r⟩ => ⟨vs, .inl (.inl e), by rw [hl]; exact Nat.le_refl _⟩
  yld := fun O H i d x H' om ⟨e, n, r⟩ hd ⟨e1, y⟩ => by
    subst e1
    refine ⟨fun _ _ h => h, ?_⟩
    obtain ⟨v, ev, rv⟩ := r.get hd
    have := y vs (.inl (.inl e))
    rw [ev] at this; cases this
    exact rv
theorem wk_tup {a : Addr} {vs : List V} {ds : List D} (hl : vs.length = ds.length) : Wk g (Itt g.K a) ds fun O H => H a = some (.tup vs) ∧ Iss g.K g.fa H O vs ds where
  keep := fun O H O' H' om k ⟨e, r⟩ => ⟨tup_keep om k e, r.keep om k⟩
  go := fun O H i ⟨e, r⟩ h => ⟨vs, vs[i]'(by rw [hl]; exact h), .inl (.inl e), List.getElem?_eq_getElem _⟩
  stop := fun O H ⟨e, r⟩ => ⟨vs, .inl (.inl e), by rw [hl]; exact Nat.le_refl _⟩
  yld := fun O H i d x H' om ⟨e, r⟩ hd ⟨e1, y⟩ => by
    subst e1
    refine ⟨fun _ _ h => h, ?_⟩
    obtain ⟨v, ev, rv⟩ := r.get hd
    have := y vs (.inl (.inl e))
    rw [ev] at this; cases this
    exact rv
theorem rngD_get {lo c : Int} {n i : Nat} {d : D} (h : (rngD lo c n)[i]? = some d) : d = .int (lo + (i : Int) * c) := by
  unfold rngD at h
  rw [List.getElem?_map] at h
  cases e : (List.range n)[i]? with
  | none => rw [e] at h; cases h
  | some k =>
    rw [e] at h; cases h
    have := (List.getElem?_eq_some_iff.mp e).2
    rw [List.getElem_range] at this
    rw [← this]
theorem rngD_len {lo c : Int} {n : Nat} : (rngD lo c n).length = n := by unfold rngD; rw [List.length_map, List.length_range]
theorem wk_rng {lo : Int} {n : Nat} : Wk g (Itr lo n) (rngD lo 1 n) fun _ _ => True where
  keep := fun _ _ _ _ _ _ h => h
  go := fun _ _ i _ h => by rw [rngD_len] at h; exact h
  stop := fun _ _ _ => by rw [rngD_len]; exact Nat.le_refl _
  yld := fun O H i d x H' om _ hd ⟨e1, y⟩ => by
    subst e1
    refine ⟨fun _ _ h => h, ?_⟩
    rw [rngD_get hd, y, Int.mul_one]
    exact .int _
theorem wk_rngC {lo c : Int} {n : Nat} : Wk g (Itc lo c n) (rngD lo c n) fun _ _ => True where
  keep := fun _ _ _ _ _ _ h => h
  go := fun _ _ i _ h => by rw [rngD_len] at h; exact h
  stop := fun _ _ _ => by rw [rngD_len]; exact Nat.le_refl _
  yld := fun O H i d x H' om _ hd ⟨e1, y⟩ => by
    subst e1
    refine ⟨fun _ _ h => h, ?_⟩
    rw [rngD_get hd, y]
    exact .int _

variable {X : Cx} {tg a b c : Expr} {p pos : Pos} {Fa : En → R D} {Ds : En → R (List D)}
theorem it_fin {k : IK} {α : Type} {r : R α} {f : α → List D} {K : List D → En → Ass → Hp → Prop} (h : Pst g W As T σ H (itR k (r.bind fun a ε => .ok (f a) ε)) K) :
    Pst g W As T σ H r fun a ε1 As1 H1 => ∃ l, items k (f a) = some l ∧ K l ε1 As1 H1 := by
  cases r with
  | bad => exact h
  | exc c ε' => exact h
  | ok a ε1 =>
    have h : Pst g W As T σ H (match items k (f a) with | some l => R.ok l ε1 | none => .bad) K := h
    cases e : items k (f a) with
    | none => rw [e] at h; exact False.elim h
    | some l =>
      rw [e] at h
      exact fun As1 H1 F1 s1 => ⟨l, e, h As1 H1 F1 s1⟩
theorem it_fin' {k : IK} {r : R (List D)} {K : List D → En → Ass → Hp → Prop} (h : Pst g W As T σ H (itR k r) K) :
    Pst g W As T σ H r fun ds ε1 As1 H1 => ∃ l, items k ds = some l ∧ K l ε1 As1 H1 := by
  cases r with
  | bad => exact h
  | exc c ε' => exact h
  | ok a ε1 =>
    have h : Pst g W As T σ H (match items k a with | some l => R.ok l ε1 | none => .bad) K := h
    cases e : items k a with
    | none => rw [e] at h; exact False.elim h
    | some l =>
      rw [e] at h
      exact fun As1 H1 F1 s1 => ⟨l, e, h As1 H1 F1 s1⟩
def d10 (Fa : En → R D) (ε : En) : R (List D) := (Fa ε).bind fun d ε1 => .ok [d] ε1
theorem seq_cases {d : D} {l : List D} (h : items .seq [d] = some l) : d = .tup l ∨ d = .lst l := by
  cases d <;> (try cases h)
  · exact .inl rfl
  · exact .inr rfl
theorem i_seq (ha : PE X a (tE g W Fa)) (hK : g.K = X.K) : PI X tg a (tI g W fun ε => itR .seq (d10 Fa ε)) := by
  have key : PI X tg a (fun σ H R => iList X.K (fun σ H Q => Run g W (fun ε => itR .seq (d10 Fa ε)) σ H (fun ds _ As T H' => ∀ J M, Wk g J ds M → M (Ow g As T) H' → R J H') ∧ False) σ H R ∨ tI g W (fun ε => itR .seq (d10 Fa ε)) σ H R) := by
    refine ⟨fun pins s σ H R I h => ?_⟩
    rcases h with h | h
    · exact h.2.elim
    · obtain ⟨ε, As, T, F, h⟩ := h
      refine thn (ha.run pins s σ H (fun v H1 => (∃ a xs, v = .ref a ∧ H1 a = some (.lst xs) ∧ R (Itl X.K a) H1) ∨ (∃ a xs, v = .ref a ∧ H1 a = some (.tup xs) ∧ R (Itt X.K a) H1)) I ⟨ε, As, T, F, (it_fin h).mono fun d ε1 As1 H1 F1 s1 ⟨l, e, k⟩ v r => ?_⟩) fun u s1 ⟨v, H1, I1, r1, q1⟩ => ?_
      · rcases seq_cases e with e | e
        · subst e
          cases r with
          | @tup a xs _ h1 r =>
            refine .inr ⟨a, xs, rfl, h1, ?_⟩
            rw [← hK]
            exact k _ _ (wk_tup (iss_len r)) ⟨h1, r⟩
        · subst e
          cases r with
          | @lst a xs _ h1 n r =>
            refine .inl ⟨a, xs, rfl, h1, ?_⟩
            rw [← hK]
            exact k _ _ (wk_list (iss_len r)) ⟨h1, n, r⟩
      · rcases q1 with ⟨a, xs, e, h1, q⟩ | ⟨a, xs, e, h1, q⟩
        · subst e
          cases r1
          obtain ⟨its, rv, p, hz⟩ := I1.list (.inl (.inl h1))
          refine wpAny_pyIter_list p.isList ?_
          refine ⟨s1.heap.objs.size, [s1.heap.objs.size], _, _, H1, rfl, I1.kept (t' := s1.toks) fun b o e => Heap.get?_push_of_some _ e, turn_list a _, ⟨_, Heap.get?_push_size _ rfl, rfl, rfl⟩, fun b hb => ?_, q⟩
          have e : b = s1.heap.objs.size := by simpa using hb
          subst e
          exact I1.fpOk (Nat.le_refl _) (I1.hok.fresh (Nat.le_refl _))
        · subst e
          cases r1
          obtain ⟨its, rv, p, hz⟩ := I1.tuple (.inl (.inl h1))
          refine wpAny_pyIter_tuple (show s1.heap.IsTuple a its.toArray from p) ?_
          refine ⟨s1.heap.objs.size, [s1.heap.objs.size], _, _, H1, rfl, I1.kept (t' := s1.toks) fun b o e => Heap.get?_push_of_some _ e, turn_tuple a _, ⟨_, Heap.get?_push_size _ rfl, rfl, rfl⟩, fun b hb => ?_, q⟩
          have e : b = s1.heap.objs.size := by simpa using hb
          subst e
          exact I1.fpOk (Nat.le_refl _) (I1.hok.fresh (Nat.le_refl _))
  exact PI.imp key fun σ H R h => .inr h
theorem bnd_iff {i : Int} (h : bnd i = true) : -(2 ^ 62) ≤ i ∧ i < 2 ^ 62 := of_decide_eq_true h
theorem rng1_cases {ds l : List D} (h : items .rng1 ds = some l) : ∃ j, ds = [.int j] ∧ bnd j = true ∧ l = rngD 0 1 j.toNat := by
  match ds, h with
  | [.int j], h =>
    have h : (if bnd j then some (rngD 0 1 j.toNat) else none) = some l := h
    cases e : bnd j with
    | true => rw [e] at h; cases h; exact ⟨j, rfl, e, rfl⟩
    | false => rw [e] at h; cases h
theorem rng2_cases {ds l : List D} (h : items .rng2 ds = some l) : ∃ i j, ds = [.int i, .int j] ∧ bnd i = true ∧ bnd j = true ∧ l = rngD i 1 (j - i).toNat := by
  match ds, h with
  | [.int i, .int j], h =>
    have h : (if bnd i && bnd j then some (rngD i 1 (j - i).toNat) else none) = some l := h
    cases e : bnd i with
    | true =>
      cases e2 : bnd j with
      | true => rw [e, e2] at h; cases h; exact ⟨i, j, rfl, e, e2, rfl⟩
      | false => rw [e, e2] at h; cases h
    | false => rw [e] at h; cases h
theorem rng3_cases {ds l : List D} (h : items .rng3 ds = some l) : ∃ i j, ds = [.int i, .int j, .int (-1)] ∧ bnd i = true ∧ bnd j = true ∧ l = rngD i (-1) (i - j).toNat := by
  match ds, h with
  | [.int i, .int j, .int (-1)], h =>
    have h : (if bnd i && bnd j then some (rngD i (-1) (i - j).toNat) else none) = some l := h
    cases e : bnd i with
    | true =>
      cases e2 : bnd j with
      | true => rw [e, e2] at h; cases h; exact ⟨i, j, rfl, e, e2, rfl⟩
      | false => rw [e, e2] at h; cases h
    | false => rw [e] at h; cases h
theorem i_rng1 (hg : Gl X "range") (hm : X.mg "range" = none) (ha : PA X [a] (tD g W Ds)) (hs : starEach [a] X.env = [(false, eval a X.env)] := by rfl) : PI X tg (.Call (.Name "range" p) [a] [] pos) (tI g W fun ε => itR .rng1 (Ds ε)) :=
  PI.imp (pi_range1 hg hm ha hs) fun σ H R ⟨ε, As, T, F, h⟩ => ⟨ε, As, T, F, (it_fin' h).mono fun ds ε1 As1 H1 F1 s1 ⟨l, e, k⟩ vs rs => by
    obtain ⟨j, e1, b1, e2⟩ := rng1_cases e
    subst e1 e2
    cases rs with
    | cons r rr =>
      cases rr; cases r
      exact ⟨j, rfl, (bnd_iff b1).1, (bnd_iff b1).2, k _ _ wk_rng trivial⟩⟩
theorem i_rng2 (hg : Gl X "range") (hm : X.mg "range" = none) (ha : PA X [a, b] (tD g W Ds)) (hs : starEach [a, b] X.env = [(false, eval a X.env), (false, eval b X.env)] := by rfl) (hs2 : starEach [b] X.env = [(false, eval b X.env)] := by rfl) : PI X tg (.Call (.Name "range" p) [a, b] [] pos) (tI g W fun ε => itR .rng2 (Ds ε)) :=
  PI.imp (pi_range2 hg hm ha hs hs2) fun σ H R ⟨ε, As, T, F, h⟩ => ⟨ε, As, T, F, (it_fin' h).mono fun ds ε1 As1 H1 F1 s1 ⟨l, e, k⟩ vs rs => by
    obtain ⟨i, j, e1, b1, b2, e2⟩ := rng2_cases e
    subst e1 e2
    cases rs with
    | cons r rr =>
      cases rr with
      | cons r' rr =>
        cases rr; cases r; cases r'
        exact ⟨i, j, rfl, ⟨(bnd_iff b1).1, (bnd_iff b1).2, (bnd_iff b2).1, (bnd_iff b2).2⟩, k _ _ wk_rng trivial⟩⟩
theorem i_rng3 (hg : Gl X "range") (hm : X.mg "range" = none) (ha : PA X [a, b, c] (tD g W Ds)) (hs : starEach [a, b, c] X.env = (false, eval a X.env) :: starEach [b, c] X.env := by rfl) (hpl : (backTo pos (starEach [b, c] X.env)).any (·.1) = false := by rfl) : PI X tg (.Call (.Name "range" p) [a, b, c] [] pos) (tI g W fun ε => itR .rng3 (Ds ε)) :=
  PI.imp (pi_range3 hg hm ha hs hpl) fun σ H R ⟨ε, As, T, F, h⟩ => ⟨ε, As, T, F, (it_fin' h).mono fun ds ε1 As1 H1 F1 s1 ⟨l, e, k⟩ vs rs => by
    obtain ⟨i, j, e1, b1, b2, e2⟩ := rng3_cases e
    subst e1 e2
    cases rs with
    | cons r rr =>
      cases rr with
      | cons r' rr =>
        cases rr with
        | cons r'' rr =>
          cases rr; cases r; cases r'; cases r''
          exact ⟨i, j, -1, _, rfl, RgC.neg (bnd_iff b1).1 (bnd_iff b1).2 (bnd_iff b2).1 (bnd_iff b2).2, k _ _ wk_rngC trivial⟩⟩
end

def tTg (g : Gx) (t : Tg) : TG := fun x σ H Q => ∃ ε As T d ε1, FI g ε As T σ H ∧ IsG g As T H x d ∧ t.put d ε = some ε1 ∧ ∀ σ1 As1, FI g ε1 As1 T σ1 H → Stp As As1 H H → (∀ j, j ∉ t.own → σ1[j]? = σ[j]?) → Q σ1 H
def tTgs (g : Gx) (is : List Nat) : TGs := fun xs σ H Q => ∃ ε As T ds ε1, FI g ε As T σ H ∧ IssG g As T H xs ds ∧ puts is ds ε = some ε1 ∧ ∀ σ1 As1, FI g ε1 As1 T σ1 H → Stp As As1 H H → (∀ j, j ∉ is → σ1[j]? = σ[j]?) → Q σ1 H
section
variable {g : Gx} {X : Cx} {pos : Pos}
theorem tg_nm {i : Nat} {x : Str} (hN : X.N.Nodup) (hi : X.N[i]? = some x) (hx : Loc X.env.scope x) (hf : X.fn x = true ∨ X.env.scope.names.lookup x = some .local) : PG X (.Name x pos) (tTg g (.nm i)) := by
  refine ⟨fun pins s σ H v u Q I r ⟨ε, As, T, d, ε1, F, rd, e, h⟩ => (pg_name hN hi hx hf).run pins s σ H v u Q I r ?_⟩
  cases e
  have hl : i < ε.length := by rw [F.len, I.len]; exact (List.getElem?_eq_some_iff.mp hi).1
  exact h _ _ (F.setVal hl rd) (Stp.setA fun _ z => by cases z) fun j hj => List.getElem?_set_ne fun z => hj (by rw [z]; exact List.mem_singleton.mpr rfl)
theorem tgs_nil : PGs X [] (tTgs g []) := by
  refine ⟨fun pins s σ H vs us Q I r ⟨ε, As, T, ds, ε1, F, rd, e, h⟩ => pgs_nil.run pins s σ H vs us Q I r ?_⟩
  match ds, rd, e with
  | [], .nil, e =>
    have e : some ε = some ε1 := e
    cases e
    exact ⟨rfl, h _ _ F .refl fun _ _ => rfl⟩
  | d :: ds, _, e => cases e
theorem tgs_cons {i : Nat} {is : List Nat} {e : Expr} {es : List Expr} (h1 : PG X e (tTg g (.nm i))) (h2 : PGs X es (tTgs g is)) (hs : (assignEach (e :: es) X.env).map (·.2) = assign e X.env :: (assignEach es X.env).map (·.2) := by rfl) : PGs X (e :: es) (tTgs g (i :: is)) := by
  refine ⟨fun pins s σ H vs us Q I r ⟨ε, As, T, ds, ε1, F, rd, e, h⟩ => (pgs_cons h1 h2 hs).run pins s σ H vs us Q I r ?_⟩
  match ds, rd, e with
  | [], _, e => cases e
  | d :: ds, .cons (v := v) (vs := vs) rd rds, e =>
    refine ⟨v, vs, rfl, ε, As, T, d, ε.set i (.val d), F, rd, rfl, fun σ1 As1 F1 s1 a1 => ⟨_, As1, T, ds, ε1, F1, IssG.step F s1 rds, e, fun σ2 As2 F2 s2 a2 => h σ2 As2 F2 (s1.trans s2) fun j hj => ?_⟩⟩
    rw [a2 j fun z => hj (List.mem_cons_of_mem _ z)]
    exact a1 j fun z => hj (by rw [List.mem_singleton.mp z]; exact List.mem_cons_self)
theorem tg_tp {is : List Nat} {es : List Expr} {k n : Nat} (hc : X.calm = true) (h : PGs X es (tTgs g is)) (hK : g.K = X.K) (hl : is.length = n) (hn : (assignEach es X.env).length = n := by rfl) (hst : (assignEach es X.env).findIdx? (·.1) = none := by rfl) : PG X (.Tuple es k pos) (tTg g (.tp is)) := by
  refine ⟨fun pins s σ H v u Q I r ⟨ε, As, T, d, ε1, F, rd, e, h1⟩ => (pg_tup hc h hn hst).run pins s σ H v u Q I r ?_⟩
  have pl : ∀ {is : List Nat} {ds : List D} {ε ε1 : En}, puts is ds ε = some ε1 → ds.length = is.length := fun {is} => by
    induction is with
    | nil => intro ds ε ε1 e; cases ds with
      | nil => rfl
      | cons => cases e
    | cons i is ih => intro ds ε ε1 e; cases ds with
      | nil => cases e
      | cons d ds => show _ + 1 = _ + 1; rw [ih (ds := ds) e]
  cases rd with
  | @tup a xs ds h2 r2 => exact ⟨a, xs, rfl, .inl (.inl h2), by rw [iss_len r2, pl e, hl], ε, As, T, ds, ε1, F, r2, e, h1⟩
  | _ => cases e
end
end Ev
set_option Elab.async false
set_option linter.all false
set_option maxRecDepth 100000
set_option maxHeartbeats 1000000
namespace Ev
open PySem PySem.Spec PyProof.Rows L2

theorem gt_setU {ε : En} {i j : Nat} : gt (ε.set i .und) j = if j = i then .und else gt ε j := by
  by_cases h : i < ε.length
  · exact gt_set h
  · have e : ε.set i .und = ε := List.set_eq_of_length_le (by omega)
    rw [e]
    by_cases q : j = i
    · rw [if_pos q, q]
      unfold gt
      rw [List.getElem?_eq_none (by omega)]; rfl
    · rw [if_neg q]
theorem gt_und {ε : En} {j : Nat} : ∀ {own : List Nat}, gt (und ε own) j = if j ∈ own then .und else gt ε j
  | [] => by rw [if_neg (by simp)]; rfl
  | i :: is => by
    show gt ((und ε is).set i .und) j = _
    rw [gt_setU, gt_und (own := is)]
    by_cases h : j = i
    · rw [if_pos h, if_pos (by rw [h]; exact List.mem_cons_self)]
    · rw [if_neg h]
      by_cases h2 : j ∈ is
      · rw [if_pos h2, if_pos (List.mem_cons_of_mem _ h2)]
      · rw [if_neg h2, if_neg (by simp [h, h2])]
theorem und_len {ε : En} : ∀ {own : List Nat}, (und ε own).length = ε.length
  | [] => rfl
  | i :: is => by show ((und ε is).set i .und).length = _; rw [List.length_set]; exact und_len
theorem back_len {old ε : En} : ∀ {own : List Nat}, (back old ε own).length = ε.length
  | [] => rfl
  | i :: is => by show ((back old ε is).set i _).length = _; rw [List.length_set]; exact back_len
theorem gt_back {old ε : En} (hl : old.length = ε.length) {j : Nat} : ∀ {own : List Nat}, gt (back old ε own) j = if j ∈ own then gt old j else gt ε j
  | [] => by rw [if_neg (by simp)]; rfl
  | i :: is => by
    show gt ((back old ε is).set i (gt old i)) j = _
    by_cases hi : i < ε.length
    · rw [gt_set (by rw [back_len]; exact hi), gt_back hl (own := is)]
      by_cases h : j = i
      · rw [if_pos h, if_pos (by rw [h]; exact List.mem_cons_self), h]
      · rw [if_neg h]
        by_cases h2 : j ∈ is
        · rw [if_pos h2, if_pos (List.mem_cons_of_mem _ h2)]
        · rw [if_neg h2, if_neg (by simp [h, h2])]
    · have e : gt old i = .und := by unfold gt; rw [List.getElem?_eq_none (by omega)]; rfl
      have e3 : gt ε i = .und := by unfold gt; rw [List.getElem?_eq_none (by omega)]; rfl
      rw [e, gt_setU, gt_back hl (own := is)]
      by_cases h : j = i
      · rw [if_pos h, if_pos (by rw [h]; exact List.mem_cons_self), h, e]
      · rw [if_neg h]
        by_cases h2 : j ∈ is
        · rw [if_pos h2, if_pos (List.mem_cons_of_mem _ h2)]
        · rw [if_neg h2, if_neg (by simp [h, h2])]
theorem gs_wipe {σ : L2.St} {j : Nat} {vs : List Nat} (h : j ∉ vs) : gs (wipe σ vs) j = gs σ j := by
  unfold gs; rw [wipe_out h]
theorem wipe_in {σ : L2.St} {j : Nat} : ∀ {vs : List Nat}, j ∈ vs → j < σ.length → (wipe σ vs)[j]? = some none
  | v :: vs, h, hl => by
    unfold wipe
    by_cases e : v = j
    · rw [e, List.getElem?_set_self (by rw [wipe_length]; exact hl)]
    · rw [List.getElem?_set_ne e]
      rcases List.mem_cons.mp h with h | h
      · exact absurd h.symm e
      · exact wipe_in h hl
theorem wipe_eq {σ τ : L2.St} {vs : List Nat} (hl : σ.length = τ.length) (h : ∀ j, j ∉ vs → σ[j]? = τ[j]?) : wipe σ vs = wipe τ vs := by
  apply List.ext_getElem?
  intro j
  by_cases hj : j ∈ vs
  · by_cases hlt : j < σ.length
    · rw [wipe_in hj hlt, wipe_in hj (by rw [← hl]; exact hlt)]
    · rw [List.getElem?_eq_none (by rw [wipe_length]; omega), List.getElem?_eq_none (by rw [wipe_length]; omega)]
  · rw [wipe_out hj, wipe_out hj, h j hj]
section
variable {g : Gx} {W : WX} {ε ε' ε0 : En} {As As' As0 : Ass} {T : List Addr} {σ σ' σ0 : L2.St} {H H' H0 : Hp}
def clr (As : Ass) (own : List Nat) : Ass := fun j => if j ∈ own then [] else As j
theorem clr_sub {own : List Nat} {j : Nat} {a : Addr} (z : a ∈ clr As own j) : a ∈ As j := by
  unfold clr at z
  by_cases e : j ∈ own
  · rw [if_pos e] at z; cases z
  · rw [if_neg e] at z; exact z
theorem FI.clr {own : List Nat} (F : FI g ε As T σ H) (hl : ε'.length = ε.length) (hσ : σ'.length = σ.length) (h1 : ∀ j, j ∈ own → gt ε' j = .und) (h2 : ∀ j, j ∉ own → gt ε' j = gt ε j) (h3 : ∀ j, j ∉ own → gs σ' j = gs σ j) : FI g ε' (clr As own) T σ' H := by
  have lt : ∀ b, Ow g (Ev.clr As own) T b → Ow g As T b := fun b z => by
    rcases z with z | ⟨j, z⟩ | z
    · exact .inl z
    · exact .inr (.inl ⟨j, clr_sub z⟩)
    · exact .inr (.inr z)
  refine ⟨by rw [hl, hσ]; exact F.len, fun j => ?_, fun j l a z1 z2 => F.dis j l a (clr_sub z1) (clr_sub z2), fun j a z => F.noc j a (clr_sub z), fun j a z => F.new j a (clr_sub z), F.same, F.ocm, F.tm, fun a h => ⟨(F.tn a h).1, fun j z => (F.tn a h).2 j (clr_sub z)⟩, F.ioh, F.tnd, fun p e a z => F.own0 p e a (clr_sub z)⟩
  by_cases e : j ∈ own
  · rw [h1 j e]
    unfold Ev.clr
    rw [if_pos e]
    exact .und _
  · rw [h2 j e, h3 j e]
    have : Ev.clr As own j = As j := by unfold Ev.clr; rw [if_neg e]
    rw [this]
    exact (F.sl j).kp F.om lt
theorem FI.restore {own : List Nat} (F0 : FI g ε0 As0 T σ0 H0) (F : FI g ε As' (T' ++ T) σ H) (hl : ε'.length = σ0.length) (hp : ∀ j, j ∈ own → plain (gt ε0 j) = true) (k : Kp (Ow g As0 T) (Ow g As' (T' ++ T)) H0 H) (hu : ∀ j, j ∈ own → gt ε j = .und)
    (hg : ∀ j, gt ε' j = if j ∈ own then gt ε0 j else gt ε j) (hs : ∀ j, j ∉ own → gs σ j = gs σ0 j) : FI g ε' As' (T' ++ T) σ0 H := by
  refine ⟨hl, fun j => ?_, F.dis, F.noc, F.new, F.same, F.ocm, F.tm, F.tn, F.ioh, F.tnd, F.own0⟩
  rw [hg j]
  by_cases e : j ∈ own
  · rw [if_pos e]
    have ea : As' j = [] := by
      have q := F.sl j
      rw [hu j e] at q
      generalize As' j = A at q
      generalize gs σ j = v at q
      cases q; rfl
    rw [ea]
    have q := hp j e
    cases e2 : gt ε0 j with
    | und => exact .und _
    | val d =>
      obtain ⟨v, ev, r⟩ := F0.getVal e2
      rw [ev]
      exact .val (r.keep F0.om k)
    | own1 d => rw [e2] at q; cases q
    | own2 d => rw [e2] at q; cases q
  · rw [if_neg e, ← hs j e]
    exact F.sl j
end

structure StD (D : Addr) (As As' : Ass) (H H' : Hp) : Prop where
  keep : ∀ b o, H b = some o → b ≠ D → (∀ i, b ∉ As i) → H' b = some o
  less : ∀ i b, b ∈ As' i → b ∈ As i
section
variable {g : Gx} {W W0 : WX} {ε ε1 ε2 : En} {As As' As'' : Ass} {T : List Addr} {σ σ0 : L2.St} {H H' H'' : Hp} {D : Addr}
theorem StD.refl : StD D As As H H := ⟨fun _ _ h _ _ => h, fun _ _ h => h⟩
theorem StD.trans (a : StD D As As' H H') (b : StD D As' As'' H' H'') : StD D As As'' H H'' :=
  ⟨fun c o h n m => b.keep c o (a.keep c o h n m) n fun i z => m i (a.less i c z), fun i c z => a.less i c (b.less i c z)⟩
theorem StD.of (s : Stp As As' H H') : StD D As As' H H' := ⟨fun b o h _ m => s.keep b o h m, s.less⟩
theorem StD.kp (s : StD D As As' H H') : Kp (Ow g As (D :: T)) (Ow g As' (D :: T)) H H' :=
  ⟨fun b o h n => s.keep b o h (fun z => n (.inr (.inr (by rw [z]; exact List.mem_cons_self)))) fun i z => n (.inr (.inl ⟨i, z⟩)), fun b _ _ z => by
    rcases z with z | ⟨i, z⟩ | z
    · exact .inl z
    · exact .inr (.inl ⟨i, s.less i b z⟩)
    · exact .inr (.inr z)⟩
theorem StD.kp0 (s : StD D As As' H H') (hD : H D = none) : Kp (Ow g As T) (Ow g As' (D :: T)) H H' :=
  ⟨fun b o h n => s.keep b o h (ne_of_none h hD) fun i z => n (.inr (.inl ⟨i, z⟩)), fun b o h z => by
    rcases z with z | ⟨i, z⟩ | z
    · exact .inl z
    · exact .inr (.inl ⟨i, s.less i b z⟩)
    · rcases List.mem_cons.mp z with z | z
      · exact absurd z (ne_of_none h hD)
      · exact .inr (.inr z)⟩
theorem StD.upd {o : HO} : StD D As As H (upd H D o) := ⟨fun b u h n _ => by rw [upd_ne n]; exact h, fun _ _ z => z⟩
theorem StD.stp (s : StD D As As' H H') (hD : H D = none) : Stp As As' H H' := ⟨fun b o h m => s.keep b o h (ne_of_none h hD) m, s.less⟩
theorem tk_keep {o : HO} (F : FI g ε As (D :: T) σ H) (s : Stp As As' H H') (h : H D = some o) : H' D = some o := s.keep D o h (F.tn D List.mem_cons_self).2
theorem put_len {tg : Tg} {d : Ev.D} {ε ε1 : En} (h : tg.put d ε = some ε1) : ε1.length = ε.length := by
  have pl : ∀ {is : List Nat} {ds : List Ev.D} {ε ε1 : En}, puts is ds ε = some ε1 → ε1.length = ε.length := fun {is} => by
    induction is with
    | nil => intro ds ε ε1 e; cases ds with
      | nil => cases e; rfl
      | cons => cases e
    | cons i is ih => intro ds ε ε1 e; cases ds with
      | nil => cases e
      | cons d ds =>
        have := ih (ds := ds) e
        rw [List.length_set] at this
        exact this
  cases tg with
  | nm i => cases h; rw [List.length_set]
  | tp is => cases d <;> (try cases h) <;> exact pl h
theorem lc_turn {own : List Nat} {tg : Tg} {t : En → R Bool} {e : En → R Ev.D} {x : V} {d : Ev.D} {acc : List Ev.D} {accV : List V} {b : Bool} {N : Hp → Prop} (F : FI g ε As (D :: T) (wipe σ0 own) H) (hD : H D = some (.lst accV)) (ra : IssG g As (D :: T) H accV acc) (hx : IsG g As (D :: T) H x d)
    (sub : ∀ j, j ∈ tg.own → j ∈ own) (hput : tg.put d ε = some ε1) (ht : t ε1 = .ok b ε2) (he : b = true → ∃ y ε3, e ε2 = .ok y ε3 ∧ acc.length < line ∧ ∀ As' accV' H', FI g (und ε3 own) As' (D :: T) (wipe σ0 own) H' → H' D = some (.lst accV') → IssG g As' (D :: T) H' accV' (acc ++ [y]) → StD D As As' H H' → N H')
    (hN0 : b = false → ∀ As' H', FI g (und ε2 own) As' (D :: T) (wipe σ0 own) H' → H' D = some (.lst accV) → IssG g As' (D :: T) H' accV acc → StD D As As' H H' → N H') :
    tTg g tg x (wipe σ0 own) H fun σ2 H2 => wipe σ2 own = wipe σ0 own ∧ tT g W t σ2 H2 fun b H3 => if b = true then tE g W0 e σ2 H3 fun y H4 => ∃ acc, H4 D = some (.lst acc) ∧ acc.length < sizeLine ∧ N (upd H4 D (.lst (acc ++ [y]))) else N H3 := by
  refine ⟨ε, As, D :: T, d, ε1, F, hx, hput, fun σ1 As1 F1 s1 a1 => ?_⟩
  have hl1 : σ1.length = (wipe σ0 own).length := by rw [← F1.len, put_len hput, F.len]
  have hw : wipe σ1 own = wipe σ0 own := by
    refine wipe_eq (by rw [hl1, wipe_length]) fun j hj => ?_
    rw [a1 j fun z => hj (sub j z), wipe_out hj]
  have hws : ∀ j, j ∉ own → gs (wipe σ0 own) j = gs σ1 j := fun j hj => by rw [← hw, gs_wipe hj]
  refine ⟨hw, ε1, As1, D :: T, F1, ?_⟩
  show Pst g W As1 (D :: T) σ1 H (t ε1) _
  rw [ht]
  intro As2 H2 F2 s2
  have hD2 := tk_keep F1 s2 hD
  have ra2 : IssG g As2 (D :: T) H2 accV acc := (ra.step F s1).step F1 s2
  have s02 : StD D As As2 H H2 := (StD.of s1).trans (.of s2)
  cases b with
  | false =>
    show N H2
    exact hN0 rfl (clr As2 own) H2 (F2.clr und_len hl1.symm (fun j hj => by rw [gt_und, if_pos hj]) (fun j hj => by rw [gt_und, if_neg hj]) hws) hD2 (ra2.keep F2.om ⟨fun _ _ z _ => z, fun b _ _ z => by
      rcases z with z | ⟨j, z⟩ | z
      · exact .inl z
      · exact .inr (.inl ⟨j, clr_sub z⟩)
      · exact .inr (.inr z)⟩) (s02.trans ⟨fun _ _ z _ _ => z, fun j b z => clr_sub z⟩)
  | true =>
    show tE g W0 e σ1 H2 fun y H4 => ∃ acc, H4 D = some (.lst acc) ∧ acc.length < sizeLine ∧ N (upd H4 D (.lst (acc ++ [y])))
    obtain ⟨y, ε3, ee, hlt, hN⟩ := he rfl
    refine ⟨ε2, As2, D :: T, F2, ?_⟩
    rw [ee]
    intro As3 H3 F3 s3 v rv
    have hD3 := tk_keep F2 s3 hD2
    have ra3 : IssG g As3 (D :: T) H3 accV acc := ra2.step F2 s3
    refine ⟨accV, hD3, ?_, ?_⟩
    · rw [iss_len ra3]; exact hlt
    · have F4 := F3.writeT (p := D) (o := .lst (accV ++ [v])) List.mem_cons_self rfl
      have su : StD D As3 As3 H3 (upd H3 D (.lst (accV ++ [v]))) := .upd
      have r4 : IssG g As3 (D :: T) (upd H3 D (.lst (accV ++ [v]))) (accV ++ [v]) (acc ++ [y]) := (Iss.app ra3 (.cons rv .nil)).keep F3.om su.kp
      refine hN (clr As3 own) (accV ++ [v]) _ (F4.clr und_len hl1.symm (fun j hj => by rw [gt_und, if_pos hj]) (fun j hj => by rw [gt_und, if_neg hj]) hws) upd_same (r4.keep F4.om ⟨fun _ _ z _ => z, fun b _ _ z => ?_⟩) ((s02.trans (.of s3)).trans (su.trans ⟨fun _ _ z _ _ => z, fun j b z => clr_sub z⟩))
      rcases z with z | ⟨j, z⟩ | z
      · exact .inl z
      · exact .inr (.inl ⟨j, clr_sub z⟩)
      · exact .inr (.inr z)
theorem lcGo_cons {own : List Nat} {tg : Tg} {t : En → R Bool} {e : En → R Ev.D} {d : Ev.D} {xs acc l : List Ev.D} {ε ε' : En} (h : lcGo own tg t e (d :: xs) acc ε = .ok l ε') :
    ∃ ε1 b ε2, tg.put d ε = some ε1 ∧ t ε1 = .ok b ε2 ∧ (b = true → ∃ y ε3, e ε2 = .ok y ε3 ∧ acc.length < line ∧ lcGo own tg t e xs (acc ++ [y]) (und ε3 own) = .ok l ε') ∧ (b = false → lcGo own tg t e xs acc (und ε2 own) = .ok l ε') := by
  have h : (match tg.put d ε with
    | none => R.bad
    | some ε1 => match t ε1 with
      | .ok true ε2 => (match e ε2 with
        | .ok d ε3 => if acc.length < line then lcGo own tg t e xs (acc ++ [d]) (und ε3 own) else .bad
        | _ => .bad)
      | .ok false ε2 => lcGo own tg t e xs acc (und ε2 own)
      | _ => .bad) = .ok l ε' := h
  cases e1 : tg.put d ε with
  | none => rw [e1] at h; cases h
  | some ε1 =>
    rw [e1] at h
    cases e2 : t ε1 with
    | bad => simp only [e2] at h; cases h
    | exc c ε2 => simp only [e2] at h; cases h
    | ok b ε2 =>
      cases b with
      | false =>
        simp only [e2] at h
        exact ⟨ε1, false, ε2, rfl, e2, ⟨fun z => Bool.noConfusion z, fun _ => h⟩⟩
      | true =>
        simp only [e2] at h
        cases e3 : e ε2 with
        | bad => simp only [e3] at h; cases h
        | exc c ε3 => simp only [e3] at h; cases h
        | ok y ε3 =>
          simp only [e3] at h
          by_cases hl : acc.length < line
          · rw [if_pos hl] at h
            exact ⟨ε1, true, ε2, rfl, e2, ⟨fun _ => ⟨y, ε3, e3, hl, h⟩, fun z => Bool.noConfusion z⟩⟩
          · rw [if_neg hl] at h; cases h
structure LcS (g : Gx) (D : Addr) (T : List Addr) (σ : L2.St) (As1 : Ass) (H1 : Hp) (M : (Addr → Prop) → Hp → Prop) (acc : List Ev.D) (ε : En) (H : Hp) (As : Ass) (accV : List V) : Prop where
  fi : FI g ε As (D :: T) σ H
  hd : H D = some (.lst accV)
  ra : IssG g As (D :: T) H accV acc
  m : M (Ow g As (D :: T)) H
  st : StD D As1 As H1 H
theorem drop_cons {α : Type} {l : List α} {i : Nat} (h : i < l.length) : l.drop i = l[i] :: l.drop (i + 1) := List.drop_eq_getElem_cons h
theorem lc_loop {own : List Nat} {tg : Tg} {t : En → R Bool} {e : En → R Ev.D} {xs acc0 l : List Ev.D} {J : It} {M : (Addr → Prop) → Hp → Prop} {ε0 εf : En} {As1 As0 : Ass} {H1 H0 : Hp} {accV0 : List V} {Q : Hp → Prop} (wk : Wk g J xs M) (sub : ∀ j, j ∈ tg.own → j ∈ own)
    (s0 : LcS g D T (wipe σ0 own) As1 H1 M acc0 ε0 H0 As0 accV0) (h : lcGo own tg t e xs acc0 ε0 = .ok l εf)
    (fin : ∀ H' As' accV', LcS g D T (wipe σ0 own) As1 H1 M l εf H' As' accV' → Q H') :
    ∃ V' : Nat → Nat → Hp → Prop, (∃ m, V' 0 m H0) ∧ ∀ i m H, V' i m H → (J.stop i H ∧ Q H) ∨ (J.go i H ∧ ∃ Nx : Hp → Prop, (∀ H', Nx H' → ∃ m', m' < m ∧ V' (i + 1) m' H') ∧ ∀ x H', J.yld i H x H' → tTg g tg x (wipe σ0 own) H' fun σ2 H2 => wipe σ2 own = wipe σ0 own ∧ tT g W t σ2 H2 fun b H3 =>
      if b = true then tE g W0 e σ2 H3 fun y H4 => ∃ acc, H4 D = some (.lst acc) ∧ acc.length < sizeLine ∧ Nx (upd H4 D (.lst (acc ++ [y]))) else Nx H3) := by
  let V' : Nat → Nat → Hp → Prop := fun i m H => m = xs.length - i ∧ i ≤ xs.length ∧ ∃ acc ε As accV, LcS g D T (wipe σ0 own) As1 H1 M acc ε H As accV ∧ lcGo own tg t e (xs.drop i) acc ε = .ok l εf
  refine ⟨V', ⟨xs.length, rfl, Nat.zero_le _, acc0, ε0, As0, accV0, s0, h⟩, ?_⟩
  rintro i m H ⟨rfl, hi, acc, ε, As, accV, s, hgo⟩
  by_cases hlt : i < xs.length
  · refine .inr ⟨wk.go _ _ i s.m hlt, V' (i + 1) (xs.length - (i + 1)), fun H' v => ⟨_, by omega, v⟩, fun x H' y => ?_⟩
    rw [drop_cons hlt] at hgo
    obtain ⟨sm, rx⟩ := wk.yld _ _ i _ x H' s.fi.om s.m (List.getElem?_eq_getElem hlt) y
    have F' := s.fi.grow sm
    have hD' := sm D _ s.hd
    have ra' := s.ra.keepRd s.fi.om sm
    have st' : StD D As1 As H1 H' := s.st.trans (.of (.of_same sm))
    have m' := wk.keep _ _ _ _ s.fi.om (Kp.of_same sm) s.m
    obtain ⟨ε1, b, ε2, hput, ht, he, hf⟩ := lcGo_cons hgo
    refine lc_turn F' hD' ra' rx sub hput ht (fun hb => ?_) fun hb As2 H2 F2 hD2 r2 s2 => ?_
    · obtain ⟨y', ε3, e3, hl, go⟩ := he hb
      exact ⟨y', ε3, e3, hl, fun As2 accV2 H2 F2 hD2 r2 s2 => ⟨rfl, hlt, acc ++ [y'], _, As2, accV2, ⟨F2, hD2, r2, wk.keep _ _ _ _ F'.om s2.kp m', st'.trans s2⟩, go⟩⟩
    · exact ⟨rfl, hlt, acc, _, As2, accV, ⟨F2, hD2, r2, wk.keep _ _ _ _ F'.om s2.kp m', st'.trans s2⟩, hf hb⟩
  · have ei : i = xs.length := by omega
    subst ei
    rw [List.drop_length] at hgo
    cases hgo
    exact .inl ⟨wk.stop _ _ s.m, fin H As accV s⟩
def lcR {α : Type} (own : List Nat) (r : List Ev.D → En → R (List Ev.D)) (k : List Ev.D → En → R α) (Fi : R (List Ev.D)) : R α := Fi.bind fun xs ε1 =>
    if own.all (fun i => plain (gt ε1 i)) then (match r xs ε1 with
      | .ok l ε2 => k l (back ε1 ε2 own)
      | _ => .bad) else .bad
def LcQ (g : Gx) (own : List Nat) (σ : L2.St) (r : List Ev.D → En → R (List Ev.D)) (Q : VK) : List Ev.D → En → Ass → List Addr → Hp → Prop := fun xs ε1 As1 T H1 => own.all (fun i => plain (gt ε1 i)) = true ∧ ∃ l ε2, r xs ε1 = .ok l ε2 ∧
  ∀ D As' accV H', H1 D = none → FI g (back ε1 ε2 own) As' (D :: T) σ H' → H' D = some (.lst accV) → IssG g As' (D :: T) H' accV l → StD D As1 As' H1 H' → Q (.ref D) H'
theorem lc_start {own : List Nat} {xs : List Ev.D} {J : It} {M : (Addr → Prop) → Hp → Prop} {As1 : Ass} {H1 : Hp} (wk : Wk g J xs M) (m : M (Ow g As1 T) H1) (F1 : FI g ε1 As1 T σ H1) (pl : own.all (fun i => plain (gt ε1 i)) = true) (hDn : H1 D = none) :
    LcS g D T (wipe σ own) As1 H1 M [] (und ε1 own) (upd H1 D (.lst [])) (clr As1 own) [] := by
  have F2 := F1.temp (o := .lst []) hDn rfl
  have F3 : FI g (und ε1 own) (clr As1 own) (D :: T) (wipe σ own) (upd H1 D (.lst [])) := F2.clr und_len (wipe_length _ _) (fun j hj => by rw [gt_und, if_pos hj]) (fun j hj => by rw [gt_und, if_neg hj]) fun j hj => gs_wipe hj
  have st : StD D As1 (clr As1 own) H1 (upd H1 D (.lst [])) := StD.trans .upd ⟨fun _ _ z _ _ => z, fun j b z => clr_sub z⟩
  exact ⟨F3, upd_same, .nil, wk.keep _ _ _ _ F1.om (st.kp0 hDn) m, st⟩
theorem lc_end {own : List Nat} {l : List Ev.D} {M : (Addr → Prop) → Hp → Prop} {As1 : Ass} {H1 : Hp} {accV : List V} (F1 : FI g ε1 As1 T σ H1) (pl : own.all (fun i => plain (gt ε1 i)) = true) (hDn : H1 D = none) (hu : ∀ j, j ∈ own → gt ε2 j = .und) (s : LcS g D T (wipe σ own) As1 H1 M l ε2 H As accV) :
    FI g (back ε1 ε2 own) As (D :: T) σ H := by
  have l2 : ε2.length = σ.length := by rw [s.fi.len, wipe_length]
  exact F1.restore (T' := [D]) (own := own) s.fi (by rw [back_len, l2]) (fun j hj => List.all_eq_true.mp pl j hj) (s.st.kp0 hDn) hu (fun j => gt_back (by rw [l2, F1.len])) fun j hj => gs_wipe hj
theorem lcGo_und {own : List Nat} {tg : Tg} {t : En → R Bool} {e : En → R Ev.D} : ∀ {xs acc l : List Ev.D} {ε ε' : En}, (∀ j, j ∈ own → gt ε j = .und) → lcGo own tg t e xs acc ε = .ok l ε' → ∀ j, j ∈ own → gt ε' j = .und
  | [], acc, l, ε, ε', h, e => by cases e; exact h
  | x :: xs, acc, l, ε, ε', h, e => by
    obtain ⟨ε1, b, ε2, hput, ht, he, hf⟩ := lcGo_cons e
    cases b with
    | true =>
      obtain ⟨y, ε3, _, _, go⟩ := he rfl
      exact lcGo_und (fun j hj => by rw [gt_und, if_pos hj]) go
    | false => exact lcGo_und (fun j hj => by rw [gt_und, if_pos hj]) (hf rfl)
theorem lc_main {own : List Nat} {tg : Tg} {t : En → R Bool} {e : En → R Ev.D} {Fi : En → R (List Ev.D)} {Q : VK} (sub : ∀ j, j ∈ tg.own → j ∈ own)
    (h : Run g W Fi σ H (LcQ g own σ (fun xs ε1 => lcGo own tg t e xs [] (und ε1 own)) Q)) : tLc (tI g W Fi) (tTg g tg) (tT g W0 t) (tE g W0 e) own σ H Q := by
  obtain ⟨ε, As, T, F, h⟩ := h
  refine ⟨ε, As, T, F, h.mono fun xs ε1 As1 H1 F1 s1 ⟨pl, l, ε2, e2, k⟩ J M wk m D hDn => ?_⟩
  exact lc_loop wk sub (lc_start wk m F1 pl hDn) e2 fun H' As' accV' s => k D As' accV' H' hDn (lc_end F1 pl hDn (lcGo_und (fun j hj => by rw [gt_und, if_pos hj]) e2) s) s.hd s.ra s.st
theorem lcQ_of {α : Type} {own : List Nat} {r : List Ev.D → En → R (List Ev.D)} {k : List Ev.D → En → R α} {Fi : R (List Ev.D)} {Kk : α → En → Ass → Hp → Prop} {Q : VK} (h : Pst g W As T σ H (lcR own r k Fi) Kk)
    (q : ∀ l ε' D As1 As' accV H1 H', H1 D = none → FI g ε' As' (D :: T) σ H' → H' D = some (.lst accV) → IssG g As' (D :: T) H' accV l → StD D As1 As' H1 H' → FI g ε' As' T σ H' → Pst g W As1 T σ H1 (k l ε') Kk → Q (.ref D) H') : Pst g W As T σ H Fi fun xs ε1 As1 H1 => LcQ g own σ r Q xs ε1 As1 T H1 :=
  (Pst.bind h).mono fun xs ε1 As1 H1 F1 s1 h1 => by
    cases pl : own.all (fun i => plain (gt ε1 i)) with
    | false => rw [pl] at h1; exact False.elim h1
    | true =>
      rw [pl, if_pos rfl] at h1
      cases e : r xs ε1 with
      | bad => rw [e] at h1; exact False.elim h1
      | exc c ε2 => rw [e] at h1; exact False.elim h1
      | ok l ε2 =>
        rw [e] at h1
        exact ⟨pl, l, ε2, e, fun D As' accV H' hDn F2 hD ra st => q l _ D As1 As' accV H1 H' hDn F2 hD ra st (F2.drop (U := [D])) h1⟩
variable {X : Cx} {elt tgE iter : Expr} {ifs : List Expr} {scope : Scope} {pos : Pos}
theorem ts_nil : PTs X [] (tT g W fun ε => .ok true ε) := ⟨fun pins s σ H Q I ⟨ε, As, T, F, h⟩ => pts_nil.run pins s σ H Q I (h.here F)⟩
theorem ts_one {c : Expr} {G : En → R Bool} (h : PT X c (tT g W G)) : PTs X [c] (tT g W G) := pts_one h
theorem lc_val {l : List Ev.D} {ε' : En} {As1 : Ass} {H1 : Hp} {accV : List V} {Q : VK} (hDn : H1 D = none) (F2 : FI g ε' As' (D :: T) σ H') (hD : H' D = some (.lst accV)) (ra : IssG g As' (D :: T) H' accV l) (st : StD D As1 As' H1 H')
    (h : Pst g W As1 T σ H1 (.ok (.lst l) ε') fun d _ As2 H2 => ∀ v, IsG g As2 T H2 v d → Q v H2) : Q (.ref D) H' := by
  have F3 := F2.drop (U := [D])
  refine h As' H' F3 (st.stp hDn) _ (.lst hD ?_ (ra.keep F2.om (FI.kp_drop (U := [D]))))
  exact not_own_T F2
theorem e_lc {own : List (Str × Nat)} {tg : Tg} {t : En → R Bool} {e : En → R Ev.D} {Fi : En → R (List Ev.D)} (hc : X.calm = true) (hN : X.N.Nodup) (hi : PI X tgE iter (tI g W Fi)) (ok : BlkOk X.N X.env.scope scope own) (sub : ∀ j, j ∈ tg.own → j ∈ own.map (·.2))
    (hg : ∀ (s : Shared) (H : Hp) (C : Addr) (cl : List (Str × Addr)) (fp : List Addr), PG (X.blk s H scope (compEnvC scope cl C X.env) fp) tgE (tTg g tg)) (ht : ∀ (s : Shared) (H : Hp) (C : Addr) (cl : List (Str × Addr)) (fp : List Addr), PTs (X.blk s H scope (compEnvC scope cl C X.env) fp) ifs (tT g W0 t))
    (he : ∀ (s : Shared) (H : Hp) (C : Addr) (cl : List (Str × Addr)) (fp : List Addr), PE (X.blk s H scope (compEnvC scope cl C X.env) fp) elt (tE g W0 e)) (hs : ∀ x, foldedSetIterable iter X.env x = pure x := by intro _; rfl) :
    PE X (.ListComp elt [⟨tgE, iter, ifs, 0⟩] scope pos) (tE g W fun ε => lcR (own.map (·.2)) (fun xs ε1 => lcGo (own.map (·.2)) tg t e xs [] (und ε1 (own.map (·.2)))) (fun l ε' => .ok (.lst l) ε') (Fi ε)) :=
  PE.imp (pe_lc hc hN hi ok hg ht he hs) fun σ H Q ⟨ε, As, T, F, h⟩ => lc_main sub ⟨ε, As, T, F, lcQ_of h fun l ε' D As1 As' accV H1 H' hDn F2 hD ra st F3 h1 => lc_val hDn F2 hD ra st h1⟩
end
end Ev
set_option Elab.async false
set_option linter.all false
set_option maxRecDepth 100000
set_option maxHeartbeats 1000000
namespace Ev
open PySem PySem.Spec PyProof.Rows L2

section
variable {g : Gx} {W W0 W1 : WX} {ε ε1 ε2 : En} {As As' As'' : Ass} {T : List Addr} {σ σ0 : L2.St} {H H' H'' : Hp} {D : Addr}
theorem clr_kp {As : Ass} {own : List Nat} {T : List Addr} : Kp (Ow g As T) (Ow g (clr As own) T) H H := ⟨fun _ _ z _ => z, fun b _ _ z => by
  rcases z with z | ⟨j, z⟩ | z
  · exact .inl z
  · exact .inr (.inl ⟨j, clr_sub z⟩)
  · exact .inr (.inr z)⟩
theorem StD.clr {own : List Nat} : StD D As (Ev.clr As own) H H := ⟨fun _ _ z _ _ => z, fun j b z => clr_sub z⟩
theorem lc2Go_cons {own own2 : List Nat} {tg tg2 : Tg} {t t2 : En → R Bool} {it : En → R (List Ev.D)} {e : En → R Ev.D} {d : Ev.D} {xs acc l : List Ev.D} {ε ε' : En} (h : lc2Go own own2 tg t it tg2 t2 e (d :: xs) acc ε = .ok l ε') :
    ∃ ε1 b ε2, tg.put d ε = some ε1 ∧ t ε1 = .ok b ε2 ∧ (b = true → ∃ ys ε3 acc' ε4, it ε2 = .ok ys ε3 ∧ lcGo own2 tg2 t2 e ys acc (und ε3 own2) = .ok acc' ε4 ∧ lc2Go own own2 tg t it tg2 t2 e xs acc' (und ε4 own) = .ok l ε') ∧ (b = false → lc2Go own own2 tg t it tg2 t2 e xs acc (und ε2 own) = .ok l ε') := by
  have h : (match tg.put d ε with
    | none => R.bad
    | some ε1 => match t ε1 with
      | .ok true ε2 => (match it ε2 with
        | .ok ys ε3 => (match lcGo own2 tg2 t2 e ys acc (und ε3 own2) with
          | .ok acc' ε4 => lc2Go own own2 tg t it tg2 t2 e xs acc' (und ε4 own)
          | _ => .bad)
        | _ => .bad)
      | .ok false ε2 => lc2Go own own2 tg t it tg2 t2 e xs acc (und ε2 own)
      | _ => .bad) = .ok l ε' := h
  cases e1 : tg.put d ε with
  | none => rw [e1] at h; cases h
  | some ε1 =>
    rw [e1] at h
    cases e2 : t ε1 with
    | bad => simp only [e2] at h; cases h
    | exc c ε2 => simp only [e2] at h; cases h
    | ok b ε2 =>
      cases b with
      | false =>
        simp only [e2] at h
        exact ⟨ε1, false, ε2, rfl, e2, ⟨fun z => Bool.noConfusion z, fun _ => h⟩⟩
      | true =>
        simp only [e2] at h
        cases e3 : it ε2 with
        | bad => simp only [e3] at h; cases h
        | exc c ε3 => simp only [e3] at h; cases h
        | ok ys ε3 =>
          simp only [e3] at h
          cases e4 : lcGo own2 tg2 t2 e ys acc (und ε3 own2) with
          | bad => simp only [e4] at h; cases h
          | exc c ε4 => simp only [e4] at h; cases h
          | ok acc' ε4 =>
            simp only [e4] at h
            exact ⟨ε1, true, ε2, rfl, e2, ⟨fun _ => ⟨ys, ε3, acc', ε4, e3, e4, h⟩, fun z => Bool.noConfusion z⟩⟩
theorem lc2_turn {own own2 : List Nat} {tg tg2 : Tg} {t t2 : En → R Bool} {it : En → R (List Ev.D)} {e : En → R Ev.D} {x : V} {d : Ev.D} {acc : List Ev.D} {accV : List V} {b : Bool} {N : Hp → Prop} (F : FI g ε As (D :: T) (wipe σ0 own) H) (hD : H D = some (.lst accV)) (ra : IssG g As (D :: T) H accV acc) (hx : IsG g As (D :: T) H x d)
    (sub : ∀ j, j ∈ tg.own → j ∈ own) (sub2 : ∀ j, j ∈ tg2.own → j ∈ own2) (sub3 : ∀ j, j ∈ own2 → j ∈ own) (hput : tg.put d ε = some ε1) (ht : t ε1 = .ok b ε2)
    (he : b = true → ∃ ys ε3 acc' ε4, it ε2 = .ok ys ε3 ∧ lcGo own2 tg2 t2 e ys acc (und ε3 own2) = .ok acc' ε4 ∧ ∀ As' accV' H', FI g (und ε4 own) As' (D :: T) (wipe σ0 own) H' → H' D = some (.lst accV') → IssG g As' (D :: T) H' accV' acc' → StD D As As' H H' → N H')
    (hN0 : b = false → ∀ As' H', FI g (und ε2 own) As' (D :: T) (wipe σ0 own) H' → H' D = some (.lst accV) → IssG g As' (D :: T) H' accV acc → StD D As As' H H' → N H') :
    tTg g tg x (wipe σ0 own) H fun σ2 H2 => wipe σ2 own = wipe σ0 own ∧ tT g W t σ2 H2 fun b H3 => if b = true then tI g W1 it σ2 H3 fun J1 H4 => ∃ V1 : Nat → Nat → Hp → Prop, (∃ m, V1 0 m H4) ∧ ∀ j k H, V1 j k H →
      (J1.stop j H ∧ N H) ∨ (J1.go j H ∧ ∃ Nx1 : Hp → Prop, (∀ H', Nx1 H' → ∃ k', k' < k ∧ V1 (j + 1) k' H') ∧ ∀ x H', J1.yld j H x H' → tTg g tg2 x (wipe σ2 own2) H' fun σ3 H5 => wipe σ3 own2 = wipe σ2 own2 ∧ tT g W t2 σ3 H5 fun b H6 =>
        if b = true then tE g W0 e σ3 H6 fun y H7 => ∃ acc, H7 D = some (.lst acc) ∧ acc.length < sizeLine ∧ Nx1 (upd H7 D (.lst (acc ++ [y]))) else Nx1 H6) else N H3 := by
  refine ⟨ε, As, D :: T, d, ε1, F, hx, hput, fun σ1 As1 F1 s1 a1 => ?_⟩
  have hl1 : σ1.length = (wipe σ0 own).length := by rw [← F1.len, put_len hput, F.len]
  have hw : wipe σ1 own = wipe σ0 own := by
    refine wipe_eq (by rw [hl1, wipe_length]) fun j hj => ?_
    rw [a1 j fun z => hj (sub j z), wipe_out hj]
  have hws : ∀ j, j ∉ own → gs (wipe σ0 own) j = gs σ1 j := fun j hj => by rw [← hw, gs_wipe hj]
  refine ⟨hw, ε1, As1, D :: T, F1, ?_⟩
  show Pst g W As1 (D :: T) σ1 H (t ε1) _
  rw [ht]
  intro As2 H2 F2 s2
  have hD2 := tk_keep F1 s2 hD
  have ra2 : IssG g As2 (D :: T) H2 accV acc := (ra.step F s1).step F1 s2
  have s02 : StD D As As2 H H2 := (StD.of s1).trans (.of s2)
  cases b with
  | false =>
    show N H2
    exact hN0 rfl (clr As2 own) H2 (F2.clr und_len hl1.symm (fun j hj => by rw [gt_und, if_pos hj]) (fun j hj => by rw [gt_und, if_neg hj]) hws) hD2 (ra2.keep F2.om clr_kp) (s02.trans .clr)
  | true =>
    show tI g W1 it σ1 H2 _
    obtain ⟨ys, ε3, acc', ε4, e3, e4, hN⟩ := he rfl
    refine ⟨ε2, As2, D :: T, F2, ?_⟩
    rw [e3]
    intro As3 H3 F3 s3 J M wk m
    have hD3 := tk_keep F2 s3 hD2
    have ra3 : IssG g As3 (D :: T) H3 accV acc := ra2.step F2 s3
    have F4 : FI g (und ε3 own2) (clr As3 own2) (D :: T) (wipe σ1 own2) H3 := F3.clr und_len (wipe_length _ _) (fun j hj => by rw [gt_und, if_pos hj]) (fun j hj => by rw [gt_und, if_neg hj]) fun j hj => gs_wipe hj
    refine lc_loop (σ0 := σ1) (own := own2) (As1 := As) (H1 := H) wk sub2 ⟨F4, hD3, ra3.keep F3.om clr_kp, wk.keep _ _ _ _ F3.om clr_kp m, (s02.trans (.of s3)).trans .clr⟩ e4 fun H' As' accV' s => ?_
    refine hN (clr As' own) accV' H' (s.fi.clr und_len (by rw [wipe_length, wipe_length, hl1, wipe_length]) (fun j hj => by rw [gt_und, if_pos hj]) (fun j hj => by rw [gt_und, if_neg hj]) fun j hj => ?_) s.hd (s.ra.keep s.fi.om clr_kp) (s.st.trans .clr)
    rw [gs_wipe fun z => hj (sub3 j z)]
    exact hws j hj
theorem lc2_loop {own own2 : List Nat} {tg tg2 : Tg} {t t2 : En → R Bool} {it : En → R (List Ev.D)} {e : En → R Ev.D} {xs acc0 l : List Ev.D} {J : It} {M : (Addr → Prop) → Hp → Prop} {ε0 εf : En} {As1 As0 : Ass} {H1 H0 : Hp} {accV0 : List V} {Q : Hp → Prop} (wk : Wk g J xs M) (sub : ∀ j, j ∈ tg.own → j ∈ own) (sub2 : ∀ j, j ∈ tg2.own → j ∈ own2) (sub3 : ∀ j, j ∈ own2 → j ∈ own)
    (s0 : LcS g D T (wipe σ0 own) As1 H1 M acc0 ε0 H0 As0 accV0) (h : lc2Go own own2 tg t it tg2 t2 e xs acc0 ε0 = .ok l εf)
    (fin : ∀ H' As' accV', LcS g D T (wipe σ0 own) As1 H1 M l εf H' As' accV' → Q H') :
    ∃ V' : Nat → Nat → Hp → Prop, (∃ m, V' 0 m H0) ∧ ∀ i m H, V' i m H → (J.stop i H ∧ Q H) ∨ (J.go i H ∧ ∃ Nx : Hp → Prop, (∀ H', Nx H' → ∃ m', m' < m ∧ V' (i + 1) m' H') ∧ ∀ x H', J.yld i H x H' → tTg g tg x (wipe σ0 own) H' fun σ2 H2 => wipe σ2 own = wipe σ0 own ∧ tT g W t σ2 H2 fun b H3 =>
      if b = true then tI g W1 it σ2 H3 fun J1 H4 => ∃ V1 : Nat → Nat → Hp → Prop, (∃ m, V1 0 m H4) ∧ ∀ j k H, V1 j k H →
      (J1.stop j H ∧ Nx H) ∨ (J1.go j H ∧ ∃ Nx1 : Hp → Prop, (∀ H', Nx1 H' → ∃ k', k' < k ∧ V1 (j + 1) k' H') ∧ ∀ x H', J1.yld j H x H' → tTg g tg2 x (wipe σ2 own2) H' fun σ3 H5 => wipe σ3 own2 = wipe σ2 own2 ∧ tT g W t2 σ3 H5 fun b H6 =>
        if b = true then tE g W0 e σ3 H6 fun y H7 => ∃ acc, H7 D = some (.lst acc) ∧ acc.length < sizeLine ∧ Nx1 (upd H7 D (.lst (acc ++ [y]))) else Nx1 H6) else Nx H3) := by
  let V' : Nat → Nat → Hp → Prop := fun i m H => m = xs.length - i ∧ i ≤ xs.length ∧ ∃ acc ε As accV, LcS g D T (wipe σ0 own) As1 H1 M acc ε H As accV ∧ lc2Go own own2 tg t it tg2 t2 e (xs.drop i) acc ε = .ok l εf
  refine ⟨V', ⟨xs.length, rfl, Nat.zero_le _, acc0, ε0, As0, accV0, s0, h⟩, ?_⟩
  rintro i m H ⟨rfl, hi, acc, ε, As, accV, s, hgo⟩
  by_cases hlt : i < xs.length
  · refine .inr ⟨wk.go _ _ i s.m hlt, V' (i + 1) (xs.length - (i + 1)), fun H' v => ⟨_, by omega, v⟩, fun x H' y => ?_⟩
    rw [drop_cons hlt] at hgo
    obtain ⟨sm, rx⟩ := wk.yld _ _ i _ x H' s.fi.om s.m (List.getElem?_eq_getElem hlt) y
    have F' := s.fi.grow sm
    have hD' := sm D _ s.hd
    have ra' := s.ra.keepRd s.fi.om sm
    have st' : StD D As1 As H1 H' := s.st.trans (.of (.of_same sm))
    have m' := wk.keep _ _ _ _ s.fi.om (Kp.of_same sm) s.m
    obtain ⟨ε1, b, ε2, hput, ht, he, hf⟩ := lc2Go_cons hgo
    refine lc2_turn F' hD' ra' rx sub sub2 sub3 hput ht (fun hb => ?_) fun hb As2 H2 F2 hD2 r2 s2 => ?_
    · obtain ⟨ys, ε3, acc', ε4, e3, e4, go⟩ := he hb
      exact ⟨ys, ε3, acc', ε4, e3, e4, fun As2 accV2 H2 F2 hD2 r2 s2 => ⟨rfl, hlt, acc', _, As2, accV2, ⟨F2, hD2, r2, wk.keep _ _ _ _ F'.om s2.kp m', st'.trans s2⟩, go⟩⟩
    · exact ⟨rfl, hlt, acc, _, As2, accV, ⟨F2, hD2, r2, wk.keep _ _ _ _ F'.om s2.kp m', st'.trans s2⟩, hf hb⟩
  · have ei : i = xs.length := by omega
    subst ei
    rw [List.drop_length] at hgo
    cases hgo
    exact .inl ⟨wk.stop _ _ s.m, fin H As accV s⟩
theorem lc2Go_und {own own2 : List Nat} {tg tg2 : Tg} {t t2 : En → R Bool} {it : En → R (List Ev.D)} {e : En → R Ev.D} : ∀ {xs acc l : List Ev.D} {ε ε' : En}, (∀ j, j ∈ own → gt ε j = .und) → lc2Go own own2 tg t it tg2 t2 e xs acc ε = .ok l ε' → ∀ j, j ∈ own → gt ε' j = .und
  | [], acc, l, ε, ε', h, e => by cases e; exact h
  | x :: xs, acc, l, ε, ε', h, e => by
    obtain ⟨ε1, b, ε2, hput, ht, he, hf⟩ := lc2Go_cons e
    cases b with
    | true =>
      obtain ⟨ys, ε3, acc', ε4, _, _, go⟩ := he rfl
      exact lc2Go_und (fun j hj => by rw [gt_und, if_pos hj]) go
    | false => exact lc2Go_und (fun j hj => by rw [gt_und, if_pos hj]) (hf rfl)
theorem lc2_main {own own2 : List Nat} {tg tg2 : Tg} {t t2 : En → R Bool} {it : En → R (List Ev.D)} {e : En → R Ev.D} {Fi : En → R (List Ev.D)} {Q : VK} (sub : ∀ j, j ∈ tg.own → j ∈ own) (sub2 : ∀ j, j ∈ tg2.own → j ∈ own2) (sub3 : ∀ j, j ∈ own2 → j ∈ own)
    (h : Run g W Fi σ H (LcQ g own σ (fun xs ε1 => lc2Go own own2 tg t it tg2 t2 e xs [] (und ε1 own)) Q)) : tLc2 (tI g W Fi) (tTg g tg) (tT g W0 t) (tI g W0 it) (tTg g tg2) (tT g W0 t2) (tE g W0 e) own own2 σ H Q := by
  obtain ⟨ε, As, T, F, h⟩ := h
  refine ⟨ε, As, T, F, h.mono fun xs ε1 As1 H1 F1 s1 ⟨pl, l, ε2, e2, k⟩ J M wk m D hDn => ?_⟩
  exact lc2_loop wk sub sub2 sub3 (lc_start wk m F1 pl hDn) e2 fun H' As' accV' s => k D As' accV' H' hDn (lc_end F1 pl hDn (lc2Go_und (fun j hj => by rw [gt_und, if_pos hj]) e2) s) s.hd s.ra s.st
variable {X : Cx} {elt tgE iter tgE1 iter1 : Expr} {ifs ifs1 : List Expr} {scope : Scope} {pos : Pos}
theorem e_lc2 {own : List (Str × Nat)} {tg tg2 : Tg} {t t2 : En → R Bool} {it : En → R (List Ev.D)} {e : En → R Ev.D} {Fi : En → R (List Ev.D)} (hc : X.calm = true) (hN : X.N.Nodup) (hi : PI X tgE iter (tI g W Fi)) (ok : BlkOk X.N X.env.scope scope own) (sub : ∀ j, j ∈ tg.own → j ∈ own.map (·.2)) (sub3 : ∀ j, j ∈ tg2.own → j ∈ own.map (·.2))
    (hg : ∀ (s : Shared) (H : Hp) (C : Addr) (cl : List (Str × Addr)) (fp : List Addr), PG (X.blk s H scope (compEnvC scope cl C X.env) fp) tgE (tTg g tg)) (ht : ∀ (s : Shared) (H : Hp) (C : Addr) (cl : List (Str × Addr)) (fp : List Addr), PTs (X.blk s H scope (compEnvC scope cl C X.env) fp) ifs (tT g W0 t))
    (hi1 : ∀ (s : Shared) (H : Hp) (C : Addr) (cl : List (Str × Addr)) (fp : List Addr), PI (X.blk s H scope (compEnvC scope cl C X.env) fp) tgE1 iter1 (tI g W0 it))
    (hg1 : ∀ (s : Shared) (H : Hp) (C : Addr) (cl : List (Str × Addr)) (fp : List Addr), PG (X.blk s H scope (compEnvC scope cl C X.env) fp) tgE1 (tTg g tg2)) (ht1 : ∀ (s : Shared) (H : Hp) (C : Addr) (cl : List (Str × Addr)) (fp : List Addr), PTs (X.blk s H scope (compEnvC scope cl C X.env) fp) ifs1 (tT g W0 t2))
    (he : ∀ (s : Shared) (H : Hp) (C : Addr) (cl : List (Str × Addr)) (fp : List Addr), PE (X.blk s H scope (compEnvC scope cl C X.env) fp) elt (tE g W0 e)) (hs : ∀ x, foldedSetIterable iter X.env x = pure x := by intro _; rfl) (hs1 : ∀ env x, foldedSetIterable iter1 env x = pure x := by intro _ _; rfl) :
    PE X (.ListComp elt [⟨tgE, iter, ifs, 0⟩, ⟨tgE1, iter1, ifs1, 0⟩] scope pos) (tE g W fun ε => lcR (own.map (·.2)) (fun xs ε1 => lc2Go (own.map (·.2)) tg2.own tg t it tg2 t2 e xs [] (und ε1 (own.map (·.2)))) (fun l ε' => .ok (.lst l) ε') (Fi ε)) :=
  PE.imp (pe_lc2 hc hN hi ok sub3 hg ht hi1 hg1 ht1 he hs hs1) fun σ H Q ⟨ε, As, T, F, h⟩ => lc2_main sub (fun _ h => h) sub3 ⟨ε, As, T, F, lcQ_of h fun l ε' D As1 As' accV H1 H' hDn F2 hD ra st F3 h1 => lc_val hDn F2 hD ra st h1⟩
end
end Ev
set_option Elab.async false
set_option linter.all false
set_option maxRecDepth 100000
set_option maxHeartbeats 1000000
namespace Ev
open PySem PySem.Spec PyProof.Rows L2

inductive EO where
  | v (e : E)
  | o (p : P) (as : List E)
  | dct1 (t : Bool) (k v : E)
  | lc (own : List Nat) (tg : Tg) (ik : IK) (ia : List E) (ifs : List E) (e : E)
  | rows (own : List Nat) (tg : Tg) (ik : IK) (ia : List E) (p : P) (as : List E)
  | call (f : Nat) (as : List E)
def own? : D → Option Sl
  | .lst l => some (.own1 (.lst l))
  | .dct t l => some (.own1 (.dct t l))
  | _ => none
def owR (r : R D) : R Sl := r.bind fun d ε => match own? d with
  | some s => .ok s ε
  | none => .bad
def vlR (r : R D) : R Sl := r.bind fun d ε => .ok (.val d) ε
def callfR (cl : Cl) (f : Nat) (r : R (List D)) : R Sl := r.bind fun ds ε1 => match cl f ds with
  | .okf l => .ok (.own1 (.lst l)) ε1
  | .exc c => .exc c ε1
  | _ => .bad
def rowGo (own : List Nat) (tg : Tg) (e : En → R D) : List D → List (List D) → En → R (List (List D))
  | [], acc, ε => .ok acc ε
  | x :: xs, acc, ε => match tg.put x ε with
    | none => .bad
    | some ε1 => (match e ε1 with
      | .ok (.lst l) ε3 => if acc.length < line then rowGo own tg e xs (acc ++ [l]) (und ε3 own) else .bad
      | _ => .bad)
def rowsR (own : List Nat) (r : List D → En → R (List (List D))) (Fi : R (List D)) : R Sl := Fi.bind fun xs ε1 =>
    if own.all (fun i => plain (gt ε1 i)) then (match r xs ε1 with
      | .ok l ε2 => .ok (.own2 l) (back ε1 ε2 own)
      | _ => .bad) else .bad
def evo (cl : Cl) : EO → En → R Sl
  | .v e, ε => vlR (ev cl e ε)
  | .o p as, ε => owR (ev cl (.op p as) ε)
  | .dct1 t k v, ε => owR (ev cl (.dct1 t k v) ε)
  | .lc own tg ik ia ifs e, ε => lcR own (fun xs ε1 => lcGo own tg (evt cl ifs) (ev cl e) xs [] (und ε1 own)) (fun l ε' => .ok (.own1 (.lst l)) ε') (itR ik (evd cl ia ε))
  | .rows own tg ik ia p as, ε => rowsR own (fun xs ε1 => rowGo own tg (ev cl (.op p as)) xs [] (und ε1 own)) (itR ik (evd cl ia ε))
  | .call f as, ε => callfR cl f (evd cl as ε)

def Fr (As : Ass) (H : Hp) (U : List Addr) : Prop := ∀ a ∈ U, ∀ o, H a = some o → ∃ i, a ∈ As i
def PstO (g : Gx) (W : WX) (As : Ass) (T : List Addr) (σ : L2.St) (H : Hp) (r : R Sl) (Q : VK) : Prop := match r with
  | .bad => False
  | .exc c ε' => ∀ As' H', FI g ε' As' T σ H' → Stp As As' H H' → W (.ref (g.ex c)) none σ H'
  | .ok s ε' => ∀ As' H' v U, FI g ε' As' (U ++ T) σ H' → Stp As As' H H' → Fr As H U → SlOk g.K g.fa H' (Ow g As' (U ++ T)) s U (some v) → Q v H'
def tO (g : Gx) (W : WX) (F : En → R Sl) : TE := fun σ H Q => ∃ ε As T, FI g ε As T σ H ∧ PstO g W As T σ H (F ε) Q
section
variable {g : Gx} {W W0 : WX} {ε : En} {As As' : Ass} {T : List Addr} {σ : L2.St} {H H' : Hp}
variable {X : Cx} {pos : Pos} {a b c : Expr} {es : List Expr} {Fa Fb : En → R D} {Ga Gb : En → R Arg} {Ds : En → R (List D)}
theorem Fr.step {U : List Addr} {As1 : Ass} {H1 : Hp} (s : Stp As As1 H H1) (f : Fr As1 H1 U) : Fr As H U := fun a ha o e => Classical.byContradiction fun n => by
  obtain ⟨i, z⟩ := f a ha o (s.keep a o e fun i z => n ⟨i, z⟩)
  exact n ⟨i, s.less i a z⟩
theorem PstO.bind {α : Type} {r : R α} {f : α → En → R Sl} {Q : VK} (h : PstO g W As T σ H (r.bind f) Q) : Pst g W As T σ H r fun a ε1 As1 H1 => PstO g W As1 T σ H1 (f a ε1) Q := by
  cases r with
  | bad => exact h
  | exc c ε' => exact h
  | ok a ε1 =>
    intro As1 H1 F1 s1
    have h' : PstO g W As T σ H (f a ε1) Q := h
    generalize f a ε1 = r2 at h'
    cases r2 with
    | bad => exact h'
    | exc c ε' => exact fun As2 H2 F2 s2 => h' As2 H2 F2 (s1.trans s2)
    | ok b ε' => exact fun As2 H2 v U F2 s2 fr => h' As2 H2 v U F2 (s1.trans s2) (fr.step s1)
theorem eo_v {e : Expr} (h : PE X e (tE g W Fa)) : PE X e (tO g W fun ε => vlR (Fa ε)) :=
  PE.imp h fun σ H Q ⟨ε, As, T, F, h⟩ => ⟨ε, As, T, F, (PstO.bind h).mono fun d ε1 As1 H1 F1 s1 k v r => k As1 H1 v [] F1 .refl (fun _ z => by cases z) (.val r)⟩
theorem same_upd {p : Addr} {o : HO} (hp : H p = none) : Same H (upd H p o) := fun b u e => by rw [upd_ne (ne_of_none e hp)]; exact e
theorem fr_new {p : Addr} (hp : H p = none) : Fr As H [p] := fun a z o e => by
  rw [List.mem_singleton.mp z, hp] at e; cases e
theorem tO_lst {ε1 : En} {xs : List V} {l : List D} {p : Addr} {Q : VK} (F1 : FI g ε1 As T σ H) (r : IssG g As T H xs l) (hp : H p = none) (k : PstO g W As T σ H (.ok (.own1 (.lst l)) ε1) Q) : Q (.ref p) (upd H p (.lst xs)) := by
  have F2 := F1.temp (o := .lst xs) hp rfl
  refine k As _ (.ref p) [p] F2 (.of_same (same_upd hp)) (fr_new hp) (.lst upd_same (r.keep F1.om ?_))
  exact ⟨fun b o e n => same_upd hp b o e, fun b o e z => by
    rcases z with z | z | z
    · exact .inl z
    · exact .inr (.inl z)
    · rcases List.mem_cons.mp z with z | z
      · exact absurd z (ne_of_none e hp)
      · exact .inr (.inr z)⟩
theorem owR_inv {r : R D} {Q : VK} (h : PstO g W As T σ H (owR r) Q) : Pst g W As T σ H r fun d ε1 As1 H1 => ∃ s, own? d = some s ∧ PstO g W As1 T σ H1 (.ok s ε1) Q := by
  refine (PstO.bind h).mono fun d ε1 As1 H1 F1 s1 k => ?_
  cases e : own? d with
  | none => rw [e] at k; exact False.elim k
  | some s => rw [e] at k; exact ⟨s, rfl, k⟩
theorem opdR_inv {p : P} {r : R (List D)} {K : D → En → Ass → Hp → Prop} (h : Pst g W As T σ H (opdR p r) K) : Pst g W As T σ H r fun ds ε1 As1 H1 => ∃ d, pr p ds = some d ∧ K d ε1 As1 H1 := by
  refine (Pst.bind h).mono fun ds ε1 As1 H1 F1 s1 k => ?_
  cases e : pr p ds with
  | none => rw [e] at k; exact False.elim k
  | some s => rw [e] at k; exact ⟨s, rfl, k.here F1⟩
theorem opR_inv {p : P} {r : R (List Arg)} {K : D → En → Ass → Hp → Prop} (h : Pst g W As T σ H (opR p r) K) : Pst g W As T σ H r fun as ε1 As1 H1 => ∃ ds d, Args.ds ε1 as = some ds ∧ pr p ds = some d ∧ K d ε1 As1 H1 := by
  refine (Pst.bind h).mono fun as ε1 As1 H1 F1 s1 k => ?_
  cases e1 : Args.ds ε1 as with
  | none => rw [e1] at k; exact False.elim k
  | some ds =>
    rw [e1] at k
    cases e : pr p ds with
    | none => simp only [e] at k; exact False.elim k
    | some s => simp only [e] at k; exact ⟨ds, s, rfl, e, k.here F1⟩
theorem eo_lst (ha : PA X es (tD g W Ds)) : PE X (.List es pos) (tO g W fun ε => owR (opdR .lst (Ds ε))) :=
  PE.imp (pe_lst ha) fun σ H Q ⟨ε, As, T, F, h⟩ => ⟨ε, As, T, F, (opdR_inv (owR_inv h)).mono fun ds ε1 As1 H1 F1 s1 ⟨d, e, s, e2, k⟩ vs rs => by
    have e' : (if ds.length ≤ line then some (D.lst ds) else none) = some d := e
    obtain ⟨hl, rfl⟩ := ite_some e'
    cases e2
    exact ⟨by rw [iss_len rs, line_eq]; exact hl, fun p hp => tO_lst F1 rs hp k⟩⟩
theorem eo_mul (ha : PE X a (tG g W Ga)) (hb : PE X b (tG g W Gb)) : PE X (.BinOp a .Mult b pos) (tO g W fun ε => owR (opR .mul (args2 Ga Gb ε))) :=
  PE.imp (pe_op op_rep ha hb) fun σ H Q ⟨ε, As, T, F, h⟩ => ⟨ε, As, T, F, by
    have h := opR_inv (owR_inv h)
    refine (Pst.bind h).mono fun x ε1 As1 H1 F1 s1 k v r => ⟨ε1, As1, T, F1, (Pst.bind k).mono fun y ε2 As2 H2 F2 s2 k2 u r2 => ?_⟩
    obtain ⟨ds, d, e1, e2, s, e3, k2⟩ := k2.here F2
    have hv : ArgsOk g As2 T σ H2 [v, u] [x, y] := .cons (r.step F1 s2) (.cons r2 .nil)
    obtain ⟨da, db, rfl, ra, rb⟩ := (hv.iss1 F2 e1).two
    cases da with
    | lst l =>
      cases db with
      | int j =>
        have e' : (if (decide (-(2 ^ 62) ≤ j ∧ j < 2 ^ 62) && decide (l.length * j.toNat ≤ line)) = true then some (D.lst (List.replicate j.toNat l).flatten) else none) = some d := e2
        obtain ⟨hl, rfl⟩ := ite_some e'
        cases e3
        obtain ⟨h1, h2⟩ := Bool.and_eq_true_iff.mp hl
        have h1 := of_decide_eq_true h1
        have h2 := of_decide_eq_true h2
        obtain ⟨p1, xs, rfl, h3, r1⟩ := ra.lst'
        obtain rfl := rb.int
        exact ⟨p1, j, xs, rfl, rfl, h3, by omega, by omega, by rw [iss_len r1, line_eq]; exact h2, fun p hp => tO_lst F2 (r1.rep _) hp k2⟩
      | _ => exact bad2 e2 rfl
    | tup l =>
      exfalso
      cases db with
      | int j =>
        have e' : (if (decide (1 ≤ j ∧ j ≤ 1000) && (decide (l.length ≤ 1000) && !l.isEmpty)) = true then some (D.tup (List.replicate j.toNat l).flatten) else none) = some d := e2
        obtain ⟨hl, rfl⟩ := ite_some e'
        cases e3
      | _ => exact bad2 e2 rfl
    | int i =>
      exfalso
      cases db with
      | int j =>
        have e' : (if (small i || small j) = true then some (D.int (i * j)) else none) = some d := e2
        obtain ⟨hl, rfl⟩ := ite_some e'
        cases e3
      | _ => exact bad2 e2 rfl
    | _ => exact bad2 e2 (by cases db <;> rfl)⟩
theorem eo_dnew : PE X (.Dict [] [] pos) (tO g W fun ε => owR (opdR .dnew (.ok [] ε))) :=
  PE.imp pe_dnewK fun σ H Q ⟨ε, As, T, F, h⟩ p hp => by
    obtain ⟨s, e, k⟩ := (owR_inv (r := .ok (.dct false []) ε) h).here F
    cases e
    exact k As _ (.ref p) [p] (F.temp (o := .dK []) hp rfl) (.of_same (same_upd hp)) (fr_new hp) (.dK upd_same .nil)
theorem eo_dnewT : PE X (.Dict [] [] pos) (tO g W fun ε => owR (opdR .dnewT (.ok [] ε))) :=
  PE.imp pe_dnewT fun σ H Q ⟨ε, As, T, F, h⟩ p hp => by
    obtain ⟨s, e, k⟩ := (owR_inv (r := .ok (.dct true []) ε) h).here F
    cases e
    exact k As _ (.ref p) [p] (F.temp (o := .dT []) hp rfl) (.of_same (same_upd hp)) (fr_new hp) (.dT upd_same .nil)
theorem eo_lc {elt tgE iter : Expr} {ifs : List Expr} {scope : Scope} {own : List (Str × Nat)} {tg : Tg} {t : En → R Bool} {e : En → R D} {Fi : En → R (List D)} (hc : X.calm = true) (hN : X.N.Nodup) (hi : PI X tgE iter (tI g W Fi)) (ok : BlkOk X.N X.env.scope scope own) (sub : ∀ j, j ∈ tg.own → j ∈ own.map (·.2))
    (hg : ∀ (s : Shared) (H : Hp) (C : Addr) (cl : List (Str × Addr)) (fp : List Addr), PG (X.blk s H scope (compEnvC scope cl C X.env) fp) tgE (tTg g tg)) (ht : ∀ (s : Shared) (H : Hp) (C : Addr) (cl : List (Str × Addr)) (fp : List Addr), PTs (X.blk s H scope (compEnvC scope cl C X.env) fp) ifs (tT g W0 t))
    (he : ∀ (s : Shared) (H : Hp) (C : Addr) (cl : List (Str × Addr)) (fp : List Addr), PE (X.blk s H scope (compEnvC scope cl C X.env) fp) elt (tE g W0 e)) (hs : ∀ x, foldedSetIterable iter X.env x = pure x := by intro _; rfl) :
    PE X (.ListComp elt [⟨tgE, iter, ifs, 0⟩] scope pos) (tO g W fun ε => lcR (own.map (·.2)) (fun xs ε1 => lcGo (own.map (·.2)) tg t e xs [] (und ε1 (own.map (·.2)))) (fun l ε' => .ok (.own1 (.lst l)) ε') (Fi ε)) :=
  PE.imp (pe_lc hc hN hi ok hg ht he hs) fun σ H Q ⟨ε, As, T, F, h⟩ => lc_main sub ⟨ε, As, T, F, (PstO.bind h).mono fun xs ε1 As1 H1 F1 s1 h1 => by
    cases pl : (own.map (·.2)).all (fun i => plain (gt ε1 i)) with
    | false => rw [pl] at h1; exact False.elim h1
    | true =>
      rw [pl, if_pos rfl] at h1
      simp only [] at h1
      generalize hr : lcGo (own.map (·.2)) tg t e xs [] (und ε1 (own.map (·.2))) = r at h1
      cases r with
      | bad => exact False.elim h1
      | exc c ε2 => exact False.elim h1
      | ok l ε2 => exact ⟨pl, l, ε2, hr, fun D As' accV H' hDn F2 hD ra st => h1 As' H' (.ref D) [D] F2 (st.stp hDn) (fr_new hDn) (.lst hD ra)⟩⟩
def spF (K : PySem.W.Frag) (fa : FAd) (ex : Nat → Addr) (n : Nat) (f : List D → CR) : Sp := fun vs H Q E => vs.length = n ∧ ∃ (Oc : Addr → Prop) (ds : List D), OMut H Oc ∧ Iss K fa H Oc vs ds ∧
  match f ds with
  | .okf l => ∀ p xs H', Same H H' → H p = none → H' p = some (.lst xs) → Iss K fa H' (fun a => Oc a ∨ a = p) xs l → Q (.ref p) H'
  | .exc c => ∀ H', Same H H' → E (.ref (ex c)) none H'
  | _ => False
theorem eo_call {cl : Cl} {f k : Nat} {fA : Addr} {fd : FuncData} {ps : List Str} {x : Str} {p : Pos} (F : FnOk X.prog X.w X.K X.mg X.base (L2.CX X.prog X.w) k fA fd ps (spF g.K g.fa g.ex ps.length (cl f))) (hr : Room k X.A) (hg : Gl X x) (hm : X.mg x = some (.ref fA)) (hk : PySem.W.keepIn X.K (.ref fA) = true)
    (hb : Binds X.K fd ps []) (tk : Takes X W) (hl : ps.length = es.length + 1) (hlen : ∀ ε ds ε', Ds ε = .ok ds ε' → ds.length = es.length + 1) (ha : PA X (a :: es) (tD g W Ds)) (hdb : (x == ("__debug__" : Str)) = false) (he : starEach (a :: es) X.env = (false, eval a X.env) :: starEach es X.env) (hpl : (backTo pos (starEach es X.env)).any (·.1) = false) :
    PE X (.Call (.Name x p) (a :: es) [] pos) (tO g W fun ε => callfR cl f (Ds ε)) :=
  PE.imp (pe_callS F hr hg hm hk hb (fun σ => passAt tk σ) ha hdb he hpl) fun σ H Q ⟨ε, As, T, F, h⟩ => by
    have h : PstO g W As T σ H ((Ds ε).bind _) _ := h
    refine ⟨ε, As, T, F, ?_⟩
    cases e : Ds ε with
    | bad => rw [e] at h; exact h
    | exc c ε1 => rw [e] at h; exact h
    | ok ds ε1 =>
      rw [e] at h
      intro As1 H1 F1 s1 vs rs
      refine ⟨by rw [iss_len rs, hlen _ _ _ e, hl], Ow g As1 T, ds, F1.om, rs, ?_⟩
      have h : PstO g W As T σ H (match cl f ds with | .okf l => R.ok (.own1 (.lst l)) ε1 | .exc c => .exc c ε1 | _ => .bad) _ := h
      cases e2 : cl f ds with
      | okf l =>
        rw [e2] at h
        intro p xs H2 sm hp hp2 r
        have F2 : FI g ε1 As1 ([p] ++ T) σ H2 := by
          have F3 := (F1.temp (o := .lst xs) hp rfl)
          have sm2 : Same (upd H1 p (.lst xs)) H2 := fun b o e => by
            by_cases eb : b = p
            · rw [eb] at e ⊢; rw [upd_same] at e; cases e; exact hp2
            · rw [upd_ne eb] at e; exact sm b o e
          exact F3.grow sm2
        have om2 : OMut H2 (fun a => Ow g As1 T a ∨ a = p) := fun a z => by
          rcases z with z | z
          · obtain ⟨o, eo, m⟩ := F1.om a z
            exact ⟨o, sm a o eo, m⟩
          · rw [z]; exact ⟨_, hp2, rfl⟩
        refine h As1 H2 (.ref p) [p] F2 (s1.trans (.of_same sm)) (Fr.step s1 (fr_new hp)) (.lst hp2 (r.keep om2 ⟨fun _ _ e _ => e, fun b _ _ z => ?_⟩))
        rcases z with z | z | z
        · exact .inl (.inl z)
        · exact .inl (.inr (.inl z))
        · rcases List.mem_cons.mp z with z | z
          · exact .inr z
          · exact .inl (.inr (.inr z))
      | exc c => rw [e2] at h; exact fun H2 sm => h As1 H2 (F1.grow sm) (s1.trans (.of_same sm))
      | _ => rw [e2] at h; exact h
end
end Ev
set_option Elab.async false
set_option linter.all false
set_option maxRecDepth 100000
set_option maxHeartbeats 1000000
namespace Ev
open PySem PySem.Spec PyProof.Rows L2

inductive Fl where
  | nx | bk | ct | rt (d : D) | rtf (l : List D)
inductive S where
  | set (i : Nat) (e : EO)
  | unp (tg : Tg) (e : E)
  | par (i j : Nat) (a b : EO)
  | put (i : Nat) (k v : E)
  | aug (i : Nat) (p : P) (e : E)
  | app (i : Nat) (e : E)
  | exp (e : E)
  | ret (e : E) | retf (e : EO) | ret0 | pass | brk | cnt
  | ifs (c : E) (a b : List S)
  | for_ (tg : Tg) (ik : IK) (ia : List E) (b : List S)
  | wh (c : E) (b : List S)
  | raise (c : Nat)
def okS (i : Nat) (s : Sl) : Bool := i != 0 || plain s
def setR (i : Nat) (r : R Sl) : R Fl := r.bind fun s ε => if okS i s then .ok .nx (ε.set i s) else .bad
def unpR (tg : Tg) (r : R D) : R Fl := r.bind fun d ε => match tg.put d ε with
  | some ε1 => .ok .nx ε1
  | none => .bad
def parR (i j : Nat) (ra : R Sl) (Fb : En → R Sl) : R Fl := ra.bind fun s ε1 => (Fb ε1).bind fun t ε2 => if okS i s && okS j t then .ok .nx ((ε2.set j t).set i s) else .bad
def isOwn1 : Sl → Bool
  | .own1 _ => true
  | _ => false
def putS (s : Sl) (k v : D) : Option Sl := match s with
  | .own1 (.lst l) => (match k with
    | .int j => (ixN l.length j).map fun m => .own1 (.lst (l.set m v))
    | _ => none)
  | .own1 (.dct t es) => if hkey t k && decide (es.length < line) then some (.own1 (.dct t (dput es k v))) else none
  | _ => none
def putR (i : Nat) (Fk : En → R D) (rv : R D) : R Fl := rv.bind fun v ε1 => if isOwn1 (gt ε1 i) then (Fk ε1).bind fun k ε2 => (match putS (gt ε2 i) k v with
  | some s => .ok .nx (ε2.set i s)
  | none => .bad) else .bad
def augR0 (i : Nat) (p : P) (Fe : En → R D) (ε : En) : R Fl := match gt ε i with
  | .val (.int a) => (Fe ε).bind fun d ε1 => (match pr p [.int a, d] with
    | some z => .ok .nx (ε1.set i (.val z))
    | none => .bad)
  | _ => .bad
def appR0 (i : Nat) (Fe : En → R D) (ε : En) : R Fl := match gt ε i with
  | .own1 (.lst _) => (Fe ε).bind fun d ε1 => (match gt ε1 i with
    | .own1 (.lst l) => if l.length < line then .ok .nx (ε1.set i (.own1 (.lst (l ++ [d])))) else .bad
    | _ => .bad)
  | _ => .bad
def expR (r : R D) : R Fl := r.bind fun _ ε => .ok .nx ε
def retR (r : R D) : R Fl := r.bind fun d ε => .ok (.rt d) ε
def retfR (r : R Sl) : R Fl := r.bind fun s ε => match s with
  | .own1 (.lst l) => .ok (.rtf l) ε
  | _ => .bad
def ifR (r : R Bool) (a b : En → R Fl) : R Fl := r.bind fun c ε => if c then a ε else b ε
def seqR (r : R Fl) (f : En → R Fl) : R Fl := match r with
  | .ok .nx ε => f ε
  | r => r
def forGo (tg : Tg) (b : En → R Fl) : List D → En → R Fl
  | [], ε => .ok .nx ε
  | x :: xs, ε => match tg.put x ε with
    | none => .bad
    | some ε1 => (match b ε1 with
      | .ok .nx ε2 => forGo tg b xs ε2
      | .ok .ct ε2 => forGo tg b xs ε2
      | .ok .bk ε2 => .ok .nx ε2
      | r => r)
def forR (tg : Tg) (b : En → R Fl) (r : R (List D)) : R Fl := r.bind fun xs ε => forGo tg b xs ε
def whGo (c : En → R Bool) (b : En → R Fl) : Nat → En → R Fl
  | 0, _ => .bad
  | n + 1, ε => match c ε with
    | .ok true ε1 => (match b ε1 with
      | .ok .nx ε2 => whGo c b n ε2
      | .ok .ct ε2 => whGo c b n ε2
      | .ok .bk ε2 => .ok .nx ε2
      | r => r)
    | .ok false ε1 => .ok .nx ε1
    | .exc k ε1 => .exc k ε1
    | .bad => .bad
abbrev fuel : Nat := 2 ^ 200
mutual
def ex (cl : Cl) : S → En → R Fl
  | .set i e, ε => setR i (evo cl e ε)
  | .unp tg e, ε => unpR tg (ev cl e ε)
  | .par i j a b, ε => parR i j (evo cl a ε) (evo cl b)
  | .put i k v, ε => putR i (ev cl k) (ev cl v ε)
  | .aug i p e, ε => augR0 i p (ev cl e) ε
  | .app i e, ε => appR0 i (ev cl e) ε
  | .exp e, ε => expR (ev cl e ε)
  | .ret e, ε => retR (ev cl e ε)
  | .retf e, ε => retfR (evo cl e ε)
  | .ret0, ε => .ok (.rt .non) ε
  | .pass, ε => .ok .nx ε
  | .brk, ε => .ok .bk ε
  | .cnt, ε => .ok .ct ε
  | .ifs c a b, ε => ifR (asB (ev cl c ε)) (exs cl a) (exs cl b)
  | .for_ tg ik ia b, ε => forR tg (exs cl b) (itR ik (evd cl ia ε))
  | .wh c b, ε => whGo (fun ε => asB (ev cl c ε)) (exs cl b) fuel ε
  | .raise c, ε => .exc c ε
def exs (cl : Cl) : List S → En → R Fl
  | [], ε => .ok .nx ε
  | s :: ss, ε => seqR (ex cl s ε) (exs cl ss)
end

def EndOk (g : Gx) (D : Ends) (f : Fl) (As' : Ass) (σ' : L2.St) (H' : Hp) : Prop := match f with
  | .nx => D.nx σ' H'
  | .bk => D.bk σ' H'
  | .ct => D.ct σ' H'
  | .rt d => ∀ v, IsG g As' [] H' v d → D.rt v H'
  | .rtf l => ∀ p xs, g.G p = none ∨ g.io = some p → H' p = some (.lst xs) → IssG g As' [p] H' xs l → (∀ b o, g.G b = some o → g.io ≠ some b → H' b = some o) → D.rt (.ref p) H'
def PstS (g : Gx) (W : WX) (D : Ends) (As : Ass) (H : Hp) (r : R Fl) : Prop := match r with
  | .bad => False
  | .exc c ε' => ∀ As' σ' H', FI g ε' As' [] σ' H' → Kp (Ow g As []) (Ow g As' []) H H' → W (.ref (g.ex c)) none σ' H'
  | .ok f ε' => ∀ As' σ' H', FI g ε' As' [] σ' H' → Kp (Ow g As []) (Ow g As' []) H H' → EndOk g D f As' σ' H'
def tS (g : Gx) (W : WX) (F : En → R Fl) : TS := fun D σ H => ∃ ε As, FI g ε As [] σ H ∧ PstS g W D As H (F ε)
section
variable {g : Gx} {W W0 : WX} {D : Ends} {ε : En} {As As' As0 : Ass} {σ : L2.St} {H H' H0 : Hp}
theorem PstS.rebase {r : R Fl} (k : Kp (Ow g As0 []) (Ow g As []) H0 H) (h : PstS g W D As0 H0 r) : PstS g W D As H r := by
  cases r with
  | bad => exact h
  | exc c ε' => exact fun As' σ' H' F k2 => h As' σ' H' F (k.trans k2)
  | ok f ε' => exact fun As' σ' H' F k2 => h As' σ' H' F (k.trans k2)
theorem PstS.bind {α : Type} {r : R α} {f : α → En → R Fl} (h : PstS g W D As H (r.bind f)) : Pst g W As [] σ H r fun a ε1 As1 H1 => PstS g W D As1 H1 (f a ε1) := by
  cases r with
  | bad => exact h
  | exc c ε' => exact fun As' H' F s => h As' σ H' F s.kp
  | ok a ε1 =>
    have h : PstS g W D As H (f a ε1) := h
    exact fun As1 H1 F1 s1 => h.rebase s1.kp
theorem store_kp {i : Nat} {U : List Addr} (s : Stp As As' H H') (fr : Fr As H U) : Kp (Ow g As []) (Ow g (setA As' i U) []) H H' :=
  ⟨fun b o e n => s.keep b o e fun i z => n (.inr (.inl ⟨i, z⟩)), fun b o e z => by
    rcases z with z | ⟨j, z⟩ | z
    · exact .inl z
    · by_cases q : j = i
      · subst q; rw [setA_same] at z
        obtain ⟨i2, z2⟩ := fr b z o e
        exact .inr (.inl ⟨i2, z2⟩)
      · rw [setA_ne q] at z
        exact .inr (.inl ⟨j, s.less j b z⟩)
    · exact .inr (.inr z)⟩
variable {X : Cx} {pos pos' : Pos} {st : Stmt} {e : Expr} {Fa Fb Fk Fv : En → R Ev.D} {Fo Fo2 : En → R Sl} {G : En → R Bool} {x y : Str} {i j : Nat}
theorem PS.impI {t t' : TS} (h : PS X st t) (i : ∀ D σ H, σ.length = X.N.length → t' D σ H → t D σ H) : PS X st t' := ⟨fun pins s σ H D I q => h.run pins s σ H D I (i D σ H I.len q)⟩
theorem PSs.imp {st : List Stmt} {t t' : TS} (h : PSs X st t) (i : ∀ D σ H, t' D σ H → t D σ H) : PSs X st t' := ⟨fun pins s σ H D I q => h.run pins s σ H D I (i D σ H q)⟩
theorem okS_io {K : PySem.W.Frag} {fa : FAd} {O : Addr → Prop} {s : Sl} {U : List Addr} {v : Option V} (r : SlOk K fa H O s U v) (h : okS i s = true) : ∀ p, g.io = some p → i = 0 → ∀ a ∈ U, a = p := fun p _ e a z => by
  subst e
  cases r with
  | und => cases z
  | val _ => cases z
  | _ => cases h
theorem set_fin {r : R Sl} {ε' : En} (hi : i < σ.length) (h : PstS g W D As H (setR i r)) : PstO g W As [] σ H r fun x H1 => D.nx (σ.set i (some x)) H1 := by
  cases r with
  | bad => exact h
  | exc c ε' => exact fun As' H' F s => h As' σ H' F s.kp
  | ok s ε1 =>
    intro As' H' v U F st fr sl
    have h : PstS g W D As H (if okS i s then .ok .nx (ε1.set i s) else .bad) := h
    cases ho : okS i s with
    | false => rw [ho] at h; exact False.elim h
    | true =>
      rw [ho, if_pos rfl] at h
      exact h (setA As' i U) _ H' (F.store (by rw [F.len]; exact hi) sl (fun _ _ z => by cases z) (okS_io sl ho)) (store_kp st fr)
theorem s_set (hN : X.N.Nodup) (hi : X.N[i]? = some x) (hx : Loc X.env.scope x) (he : PE X e (tO g W Fo)) (hs : swapsWith e (some (.Name x pos')) pos.line X.env = pure false := by rfl) (hf : X.fn x = true ∨ X.env.scope.names.lookup x = some .local := by first | exact .inl rfl | exact .inr rfl | assumption) :
    PS X (.Assign [.Name x pos'] e pos) (tS g W fun ε => setR i (Fo ε)) :=
  PS.impI (ps_set hN hi hx he hs hf) fun D σ H hl ⟨ε, As, F, h⟩ => ⟨ε, As, [], F, set_fin (ε' := ε) (by rw [hl]; exact (List.getElem?_eq_some_iff.mp hi).1) h⟩
theorem s_set' {te : TE} (hi : X.N[i]? = some x) (h : PS X st (tAsg te (gName i))) (ht : ∀ σ H Q, tO g W Fo σ H Q → te σ H Q) : PS X st (tS g W fun ε => setR i (Fo ε)) :=
  PS.impI h fun D σ H hl ⟨ε, As, F, h⟩ => ht _ _ _ ⟨ε, As, [], F, set_fin (ε' := ε) (by rw [hl]; exact (List.getElem?_eq_some_iff.mp hi).1) h⟩
theorem s_unp {tg : Expr} {t : Tg} (he : PE X e (tE g W Fa)) (hg : PG X tg (tTg g t)) (hs : swapsWithSole [tg] e pos.line X.env = pure false := by rfl) (hw : swappedStores [tg] e X.env = pure none := by rfl)
    (h1 : (assignEach [tg] X.env).map (·.2) = [assign tg X.env] := by rfl) : PS X (.Assign [tg] e pos) (tS g W fun ε => unpR t (Fa ε)) :=
  PS.impI (ps_asg he hg hs hw h1) fun D σ H hl ⟨ε, As, F, h⟩ => ⟨ε, As, [], F, (PstS.bind h).mono fun d ε1 As1 H1 F1 s1 k v r => by
    cases e1 : t.put d ε1 with
    | none => rw [e1] at k; exact False.elim k
    | some ε2 =>
      rw [e1] at k
      exact ⟨ε1, As1, [], d, ε2, F1, r, e1, fun σ2 As2 F2 s2 a2 => k As2 σ2 H1 F2 s2.kp⟩⟩
theorem s_par {a b : Expr} {px py pt : Pos} {kt k2 pt2} (hc : X.calm = true) (hN : X.N.Nodup) (hi : X.N[i]? = some x) (hj : X.N[j]? = some y) (hij : i ≠ j)
    (hx : X.env.scope.names.lookup x = some .local) (hy : X.env.scope.names.lookup y = some .local) (ha : PE X a (tO g W Fo)) (hb : PE X b (tO g W Fo2)) (hse : starEach [a, b] X.env = (false, eval a X.env) :: starEach [b] X.env := by rfl) (hse2 : starEach [b] X.env = (false, eval b X.env) :: starEach [] X.env := by rfl)
    (hw : swappedStores [.Tuple [.Name x px, .Name y py] kt pt] (.Tuple [a, b] k2 pt2) X.env = pure (some [x, y]))
    (hs : swapsWithSole [.Tuple [.Name x px, .Name y py] kt pt] (.Tuple [a, b] k2 pt2) pos.line X.env = pure false := by rfl) :
    PS X (.Assign [.Tuple [.Name x px, .Name y py] kt pt] (.Tuple [a, b] k2 pt2) pos) (tS g W fun ε => parR i j (Fo ε) Fo2) :=
  PS.impI (ps_par hc hN hi hj hij hx hy (pa_cons ha (pa_cons hb pa_nil hse2) hse) hw hs) fun D σ H hl ⟨ε, As, F, h⟩ => by
    have li : i < σ.length := by rw [hl]; exact (List.getElem?_eq_some_iff.mp hi).1
    have lj : j < σ.length := by rw [hl]; exact (List.getElem?_eq_some_iff.mp hj).1
    show tO g W Fo σ H fun x H1 => tO g W Fo2 σ H1 fun y H2 => ∃ v w, [x, y] = [v, w] ∧ D.nx ((σ.set i (some v)).set j (some w)) H2
    refine ⟨ε, As, [], F, ?_⟩
    have h : PstS g W D As H (parR i j (Fo ε) Fo2) := h
    cases e1 : Fo ε with
    | bad => rw [e1] at h; exact h
    | exc c ε' => rw [e1] at h; exact fun As' H' F s => h As' σ H' F s.kp
    | ok s ε1 =>
      rw [e1] at h
      have h : PstS g W D As H ((Fo2 ε1).bind fun t ε2 => if okS i s && okS j t then .ok .nx ((ε2.set j t).set i s) else .bad) := h
      intro As1 H1 v U F1 s1 fr sl
      refine ⟨ε1, As1, U ++ [], F1, ?_⟩
      cases e2 : Fo2 ε1 with
      | bad => rw [e2] at h; exact h
      | exc c ε' => rw [e2] at h; exact fun As' H' F s => h As' σ H' F.drop (s1.trans s).kp
      | ok t ε2 =>
        rw [e2] at h
        intro As2 H2 w U2 F2 s2 fr2 sl2
        have h : PstS g W D As H (if okS i s && okS j t then .ok .nx ((ε2.set j t).set i s) else .bad) := h
        cases ho : okS i s && okS j t with
        | false => rw [ho] at h; exact False.elim h
        | true =>
        rw [ho, if_pos rfl] at h
        obtain ⟨ho1, ho2⟩ := Bool.and_eq_true_iff.mp ho
        have nd := List.nodup_append.mp F2.tnd
        have G1 := F2.store (i := j) (by rw [F2.len]; exact lj) sl2 (fun a ha hb => nd.2.2 a ha a hb rfl) (okS_io sl2 ho2)
        have kp2 : Kp (Ow g As1 (U ++ [])) (Ow g (setA As2 j U2) (U ++ [])) H1 H2 := ⟨fun b o e n => s2.keep b o e fun i z => n (.inr (.inl ⟨i, z⟩)), fun b o e z => by
          rcases z with z | ⟨l, z⟩ | z
          · exact .inl z
          · by_cases q : l = j
            · subst q; rw [setA_same] at z
              obtain ⟨i2, z2⟩ := fr2 b z o e
              exact .inr (.inl ⟨i2, z2⟩)
            · rw [setA_ne q] at z
              exact .inr (.inl ⟨l, s2.less l b z⟩)
          · exact .inr (.inr z)⟩
        have sl' := sl.keep F1.om kp2 fun a ha => by
          obtain ⟨o, e, _⟩ := sl.mut a ha
          rw [e, s2.keep a o e (F1.tn a (List.mem_append_left _ ha)).2]
        have es : gs (σ.set j (some w)) i = gs σ i := by rw [gs_set lj, if_neg hij]
        have G2 := G1.store (i := i) (by rw [G1.len, List.length_set]; exact li) sl' (fun _ _ z => by cases z) (okS_io sl' ho1)
        refine ⟨v, w, rfl, ?_⟩
        rw [List.set_comm _ _ hij]
        refine h _ _ H2 G2 ⟨fun b o e n => (s1.trans s2).keep b o e fun i z => n (.inr (.inl ⟨i, z⟩)), fun b o e z => ?_⟩
        rcases z with z | ⟨l, z⟩ | z
        · exact .inl z
        · by_cases q : l = i
          · subst q; rw [setA_same] at z
            obtain ⟨i2, z2⟩ := fr b z o e
            exact .inr (.inl ⟨i2, z2⟩)
          · rw [setA_ne q] at z
            by_cases q : l = j
            · subst q; rw [setA_same] at z
              obtain ⟨i2, z2⟩ := fr2.step s1 b z o e
              exact .inr (.inl ⟨i2, z2⟩)
            · rw [setA_ne q] at z
              exact .inr (.inl ⟨l, (s1.trans s2).less l b z⟩)
        · exact .inr (.inr z)
theorem s_exp (he : PE X e (tE g W Fa)) (hs : swapsWith e none pos.line X.env = pure false := by rfl) : PS X (.Expr e pos) (tS g W fun ε => expR (Fa ε)) :=
  PS.impI (ps_expr he hs) fun D σ H hl ⟨ε, As, F, h⟩ => ⟨ε, As, [], F, (PstS.bind h).mono fun d ε1 As1 H1 F1 s1 k v r => k As1 σ H1 F1 (.of_same (.refl H1))⟩
theorem s_ret (he : PE X e (tE g W Fa)) : PS X (.Return (some e) pos) (tS g W fun ε => retR (Fa ε)) :=
  PS.impI (ps_ret he) fun D σ H hl ⟨ε, As, F, h⟩ => ⟨ε, As, [], F, (PstS.bind h).mono fun d ε1 As1 H1 F1 s1 k v r => k As1 σ H1 F1 (.of_same (.refl H1)) v r⟩
theorem s_retf (he : PE X e (tO g W Fo)) : PS X (.Return (some e) pos) (tS g W fun ε => retfR (Fo ε)) :=
  PS.impI (ps_ret he) fun D σ H hl ⟨ε, As, F, h⟩ => ⟨ε, As, [], F, by
    have h : PstS g W D As H (retfR (Fo ε)) := h
    cases e1 : Fo ε with
    | bad => rw [e1] at h; exact h
    | exc c ε' => rw [e1] at h; exact fun As' H' F s => h As' σ H' F s.kp
    | ok s ε1 =>
      rw [e1] at h
      intro As1 H1 v U F1 s1 fr sl
      clear e1
      cases sl with
      | @lst p xs ds e2 r =>
        have h : PstS g W D As H (.ok (.rtf ds) ε1) := h
        exact h As1 σ H1 F1.drop s1.kp p xs (F1.tn p (List.mem_singleton.mpr rfl)).1 e2 r F1.same
      | _ => exact False.elim h⟩
theorem s_ret0 : PS X (.Return none pos) (tS g W fun ε => .ok (.rt .non) ε) :=
  PS.impI ps_retN fun D σ H hl ⟨ε, As, F, h⟩ => h As σ H F (.of_same (.refl H)) .non .non
theorem s_pass : PS X (.Pass pos) (tS g W fun ε => .ok .nx ε) := PS.impI ps_pass fun D σ H hl ⟨ε, As, F, h⟩ => h As σ H F (.of_same (.refl H))
theorem s_doc {k : Nat} {pos2 : Pos} : PS X (.Expr (.Constant (.str x) k pos2) pos) (tS g W fun ε => .ok .nx ε) := PS.impI ps_doc fun D σ H hl ⟨ε, As, F, h⟩ => h As σ H F (.of_same (.refl H))
theorem s_brk : PS X (.Break pos) (tS g W fun ε => .ok .bk ε) := PS.impI ps_break fun D σ H hl ⟨ε, As, F, h⟩ => h As σ H F (.of_same (.refl H))
theorem s_cnt : PS X (.Continue pos) (tS g W fun ε => .ok .ct ε) := PS.impI ps_continue fun D σ H hl ⟨ε, As, F, h⟩ => h As σ H F (.of_same (.refl H))
variable {Sa Sb : En → R Fl} {a b : List Stmt} {c : Expr}
theorem s_if (hc : PT X c (tT g W G)) (ha : PSs X a (tS g W Sa)) (hb : PSs X b (tS g W Sb)) : PS X (.If c a b pos) (tS g W fun ε => ifR (G ε) Sa Sb) :=
  PS.impI (ps_if hc ha hb) fun D σ H hl ⟨ε, As, F, h⟩ => ⟨ε, As, [], F, (PstS.bind h).mono fun c ε1 As1 H1 F1 s1 k => by
    cases c with
    | true => exact ⟨ε1, As1, F1, k⟩
    | false => exact ⟨ε1, As1, F1, k⟩⟩
theorem ss_nil : PSs X [] (tS g W fun ε => .ok .nx ε) := PSs.imp pss_nil fun D σ H ⟨ε, As, F, h⟩ => h As σ H F (.of_same (.refl H))
theorem seq_fin {r : R Fl} (h : PstS g W D As H (seqR r Sb)) : PstS g W { D with nx := tS g W Sb D } As H r := by
  cases r with
  | bad => exact h
  | exc c ε' => exact h
  | ok f ε1 =>
    cases f with
    | nx =>
      have h : PstS g W D As H (Sb ε1) := h
      exact fun As' σ' H' F k => ⟨ε1, As', F, h.rebase k⟩
    | bk => exact h
    | ct => exact h
    | rt d => exact h
    | rtf d => exact h
theorem ss_cons (h1 : PS X st (tS g W Sa)) (h2 : PSs X b (tS g W Sb)) : PSs X (st :: b) (tS g W fun ε => seqR (Sa ε) Sb) :=
  PSs.imp (pss_cons h1 h2) fun D σ H ⟨ε, As, F, h⟩ => ⟨ε, As, F, seq_fin h⟩
end
end Ev
set_option Elab.async false
set_option linter.all false
set_option maxRecDepth 100000
set_option maxHeartbeats 1000000
namespace Ev
open PySem PySem.Spec PyProof.Rows L2

section
variable {K : PySem.W.Frag} {fa : FAd} {H : Hp} {O : Addr → Prop}
theorem Iss.set : ∀ {xs : List V} {ds : List D} {v : V} {d : D} {m : Nat}, Iss K fa H O xs ds → Is K fa H O v d → Iss K fa H O (xs.set m v) (ds.set m d)
  | _, _, _, _, _, .nil, _ => .nil
  | _, _, _, _, 0, .cons _ t, r => .cons r t
  | _, _, _, _, _ + 1, .cons a t, r => .cons a (Iss.set t r)
theorem isk_any (q : Key) : ∀ {kvs : List (Key × V)} {es : List (D × D)}, Isk K fa H O kvs es → (kvs.any fun kv => decide (kv.1 = q)) = (dlook es (kD q)).isSome
  | _, _, .nil => rfl
  | _, _, .cons (k := k) (v := v) (vs := vs) (d := d) (ds := ds) a t => by
    have ih := isk_any q t
    by_cases e : k = q
    · have : dlook ((kD k, d) :: ds) (kD q) = some d := by
        unfold dlook
        rw [List.find?_cons, show eqv (kD k, d).1 (kD q) = true from (eqv_kD k q).trans (decide_eq_true e)]; rfl
      rw [this, List.any_cons]
      simp [e]
    · have : dlook ((kD k, d) :: ds) (kD q) = dlook ds (kD q) := by
        unfold dlook
        rw [List.find?_cons, show eqv (kD k, d).1 (kD q) = false from (eqv_kD k q).trans (decide_eq_false e)]
      rw [this, List.any_cons, ih]
      simp [e]
theorem isk_map (q : Key) {w : V} {d : D} (r : Is K fa H O w d) : ∀ {kvs : List (Key × V)} {es : List (D × D)}, Isk K fa H O kvs es → Isk K fa H O (kvs.map fun kv => if kv.1 = q then (kv.1, w) else kv) (es.map fun e => if eqv e.1 (kD q) then (e.1, d) else e)
  | _, _, .nil => .nil
  | _, _, .cons (k := k) (v := v) (vs := vs) (d := d') (ds := ds) a t => by
    have ih := isk_map q r t
    rw [List.map_cons, List.map_cons]
    have e0 : eqv (kD k) (kD q) = decide (k = q) := eqv_kD k q
    by_cases e : k = q
    · rw [if_pos e, show eqv (kD k, d').1 (kD q) = true from e0.trans (decide_eq_true e), if_pos rfl]
      exact .cons r ih
    · rw [if_neg e, show eqv (kD k, d').1 (kD q) = false from e0.trans (decide_eq_false e), if_neg Bool.false_ne_true]
      exact .cons a ih
theorem isk_app {q : Key} {w : V} {d : D} (r : Is K fa H O w d) : ∀ {kvs : List (Key × V)} {es : List (D × D)}, Isk K fa H O kvs es → Isk K fa H O (kvs ++ [(q, w)]) (es ++ [(kD q, d)])
  | _, _, .nil => .cons r .nil
  | _, _, .cons a t => .cons a (isk_app r t)
theorem isk_put (q : Key) {w : V} {d : D} (r : Is K fa H O w d) {kvs : List (Key × V)} {es : List (D × D)} (h : Isk K fa H O kvs es) : Isk K fa H O (putK kvs q w) (dput es (kD q) d) := by
  unfold putK dput
  rw [isk_any q h]
  cases e : dlook es (kD q) with
  | some x => exact isk_map q r h
  | none => exact isk_app r h
theorem ist_any (q : List Key) : ∀ {kvs : List (List Key × V)} {es : List (D × D)}, Ist K fa H O kvs es → (kvs.any fun kv => decide (kv.1 = q)) = (dlook es (.tup (q.map kD))).isSome
  | _, _, .nil => rfl
  | _, _, .cons (k := k) (v := v) (vs := vs) (d := d) (ds := ds) a t => by
    have ih := ist_any q t
    by_cases e : k = q
    · have : dlook ((.tup (k.map kD), d) :: ds) (.tup (q.map kD)) = some d := by
        unfold dlook
        rw [List.find?_cons, show eqv (D.tup (k.map kD), d).1 (.tup (q.map kD)) = true from (eqvs_kD k q).trans (decide_eq_true e)]; rfl
      rw [this, List.any_cons]
      simp [e]
    · have : dlook ((.tup (k.map kD), d) :: ds) (.tup (q.map kD)) = dlook ds (.tup (q.map kD)) := by
        unfold dlook
        rw [List.find?_cons, show eqv (D.tup (k.map kD), d).1 (.tup (q.map kD)) = false from (eqvs_kD k q).trans (decide_eq_false e)]
      rw [this, List.any_cons, ih]
      simp [e]
theorem ist_map (q : List Key) {w : V} {d : D} (r : Is K fa H O w d) : ∀ {kvs : List (List Key × V)} {es : List (D × D)}, Ist K fa H O kvs es → Ist K fa H O (kvs.map fun kv => if kv.1 = q then (kv.1, w) else kv) (es.map fun e => if eqv e.1 (.tup (q.map kD)) then (e.1, d) else e)
  | _, _, .nil => .nil
  | _, _, .cons (k := k) (v := v) (vs := vs) (d := d') (ds := ds) a t => by
    have ih := ist_map q r t
    rw [List.map_cons, List.map_cons]
    have e0 : eqv (.tup (k.map kD)) (.tup (q.map kD)) = decide (k = q) := eqvs_kD k q
    by_cases e : k = q
    · rw [if_pos e, show eqv (D.tup (k.map kD), d').1 (.tup (q.map kD)) = true from e0.trans (decide_eq_true e), if_pos rfl]
      exact .cons r ih
    · rw [if_neg e, show eqv (D.tup (k.map kD), d').1 (.tup (q.map kD)) = false from e0.trans (decide_eq_false e), if_neg Bool.false_ne_true]
      exact .cons a ih
theorem ist_app {q : List Key} {w : V} {d : D} (r : Is K fa H O w d) : ∀ {kvs : List (List Key × V)} {es : List (D × D)}, Ist K fa H O kvs es → Ist K fa H O (kvs ++ [(q, w)]) (es ++ [(.tup (q.map kD), d)])
  | _, _, .nil => .cons r .nil
  | _, _, .cons a t => .cons a (ist_app r t)
theorem ist_put (q : List Key) {w : V} {d : D} (r : Is K fa H O w d) {kvs : List (List Key × V)} {es : List (D × D)} (h : Ist K fa H O kvs es) : Ist K fa H O (putK kvs q w) (dput es (.tup (q.map kD)) d) := by
  unfold putK dput
  rw [ist_any q h]
  cases e : dlook es (.tup (q.map kD)) with
  | some x => exact ist_map q r h
  | none => exact ist_app r h
end
section
variable {g : Gx} {W W0 : WX} {D : Ends} {ε : En} {As As' As0 : Ass} {T : List Addr} {σ : L2.St} {H H' H0 : Hp}
theorem FI.own1P {i : Nat} {d : Ev.D} (F : FI g ε As T σ H) (h : gt ε i = .own1 d) : ∃ p, gs σ i = some (.ref p) := by
  have q := F.sl i
  rw [h] at q
  generalize As i = A at q
  generalize gs σ i = o at q
  cases q <;> exact ⟨_, rfl⟩
theorem FI.own1K {i : Nat} {l : List (Ev.D × Ev.D)} (F : FI g ε As T σ H) (h : gt ε i = .own1 (.dct false l)) : ∃ p xs, gs σ i = some (.ref p) ∧ As i = [p] ∧ H p = some (.dK xs) ∧ Isk g.K g.fa H (Ow g As T) xs l := by
  have q := F.sl i
  rw [h] at q
  generalize As i = A at q
  generalize gs σ i = o at q
  cases q with
  | dK e r => exact ⟨_, _, rfl, rfl, e, r⟩
theorem FI.own1T {i : Nat} {l : List (Ev.D × Ev.D)} (F : FI g ε As T σ H) (h : gt ε i = .own1 (.dct true l)) : ∃ p xs, gs σ i = some (.ref p) ∧ As i = [p] ∧ H p = some (.dT xs) ∧ Ist g.K g.fa H (Ow g As T) xs l := by
  have q := F.sl i
  rw [h] at q
  generalize As i = A at q
  generalize gs σ i = o at q
  cases q with
  | dT e r => exact ⟨_, _, rfl, rfl, e, r⟩
variable {X : Cx} {pos pos' : Pos} {st : Stmt} {e : Expr} {Fa Fb Fk Fv : En → R Ev.D} {Fo Fo2 : En → R Sl} {G : En → R Bool} {x y : Str} {i j : Nat}
def rSet : TSet := fun o i v H Q => rSetL o i v H Q ∨ rSetD o i v H Q
theorem set_any (hu : X.A.units + 1 < cLine) : PSet X rSet := fun pins s σ H o i v ov iv u Q I ro ri rv h => by
  rcases h with h | h
  · exact set_list pins s σ H o i v ov iv u Q I ro ri rv h
  · exact set_dict hu pins s σ H o i v ov iv u Q I ro ri rv h
theorem key_is {O : Addr → Prop} {y : V} {k : Ev.D} (r : Is g.K g.fa H O y k) (hk : hkey false k = true) : ∃ q : Key, y = kV q ∧ k = kD q :=
  key_of_D r (by cases k <;> first | rfl | exact hk)
theorem isOwn1_eq {s : Sl} (h : isOwn1 s = true) : ∃ d, s = .own1 d := by
  cases s <;> first | exact ⟨_, rfl⟩ | cases h
theorem put_fin {s : Sl} {v k : V} {dv dk : Ev.D} {p0 : Addr} {Q : Hp → Prop} (F : FI g ε As T σ H) (rv : IsG g As T H v dv) (rk : IsG g As T H k dk) (h0 : gs σ i = some (.ref p0)) (e : putS (gt ε i) dk dv = some s)
    (q : ∀ H', FI g (ε.set i s) As T σ H' → Stp As As H H' → Q H') : rSet (.ref p0) k v H Q := by
  have hi : i < ε.length := gt_lt fun z => by rw [z] at e; cases e
  cases e1 : gt ε i with
  | own1 d =>
    rw [e1] at e
    cases d with
    | lst l =>
      cases dk with
      | int j =>
        have e : (ixN l.length j).map (fun m => Sl.own1 (.lst (l.set m dv))) = some s := e
        obtain ⟨m, e2, e3⟩ := map_some e
        subst e3
        obtain ⟨p, xs, g1, eA, hp, r⟩ := F.own1L e1
        rw [h0] at g1; cases g1
        cases rk
        have hA : p0 ∈ As i := by rw [eA]; exact List.mem_singleton.mpr rfl
        refine .inl ⟨p0, xs, j, m, rfl, rfl, hp, by rw [iss_len r]; exact e2, q _ (F.write hi hA rfl ?_) (.write hA)⟩
        rw [h0, eA]
        exact .lst upd_same ((r.set rv).keep F.om (F.kpW hA))
      | _ => cases e
    | dct t es =>
      have e : (if (hkey t dk && decide (es.length < line)) = true then some (Sl.own1 (.dct t (dput es dk dv))) else none) = some s := by cases dk <;> exact e
      obtain ⟨hh, rfl⟩ := ite_some e
      obtain ⟨hk, hl⟩ := Bool.and_eq_true_iff.mp hh
      have hl := of_decide_eq_true hl
      cases t with
      | false =>
        obtain ⟨p, xs, g1, eA, hp, r⟩ := F.own1K e1
        rw [h0] at g1; cases g1
        obtain ⟨kq, rfl, rfl⟩ := key_is rk hk
        have hA : p0 ∈ As i := by rw [eA]; exact List.mem_singleton.mpr rfl
        refine .inr ⟨p0, _, rfl, .k hp (by rw [isk_len r, line_eq]; exact hl), q _ (F.write hi hA rfl ?_) (.write hA)⟩
        rw [h0, eA]
        exact .dK upd_same ((isk_put kq rv r).keep F.om (F.kpW hA))
      | true =>
        obtain ⟨p, xs, g1, eA, hp, r⟩ := F.own1T e1
        rw [h0] at g1; cases g1
        cases rk with
        | @tup b ys l h2 r2 =>
          obtain ⟨kq, rfl, rfl⟩ := keys_of_D r2 hk
          have hA : p0 ∈ As i := by rw [eA]; exact List.mem_singleton.mpr rfl
          refine .inr ⟨p0, _, rfl, .t hp h2 (by rw [ist_len r, line_eq]; exact hl), q _ (F.write hi hA rfl ?_) (.write hA)⟩
          rw [h0, eA]
          exact .dT upd_same ((ist_put kq rv r).keep F.om (F.kpW hA))
        | _ => exact absurd hk Bool.false_ne_true
    | _ => cases e
  | _ => rw [e1] at e; cases e
theorem s_put {k : Expr} {px : Pos} (hu : X.A.units + 1 < cLine) (hN : X.N[i]? = some x) (hv : Vis X.env.scope x) (hd : (x == ("__debug__" : Str)) = false) (hcd : (x == ("__classdict__" : Str)) = false) (hk : PE X k (tE g W Fk)) (he : PE X e (tE g W Fv))
    (ha : ∀ v, assign (.Subscript (.Name x px) k pos') X.env v = (do
      let ov ← holding [v] (eval (.Name x px) X.env)
      let iv ← holding [v, ov] (eval k X.env)
      standAt pos'
      holding [v, ov, iv] (setItem ov iv v)
      release [v, ov, iv] []) := by intro _; rfl)
    (hs : swapsWithSole [.Subscript (.Name x px) k pos'] e pos.line X.env = pure false := by rfl) (hw : swappedStores [.Subscript (.Name x px) k pos'] e X.env = pure none := by rfl)
    (h1 : (assignEach [.Subscript (.Name x px) k pos'] X.env).map (·.2) = [assign (.Subscript (.Name x px) k pos') X.env] := by rfl) :
    PS X (.Assign [.Subscript (.Name x px) k pos'] e pos) (tS g W fun ε => putR i Fk (Fv ε)) :=
  PS.impI (ps_asg he (pg_sub (pe_var hN hv hd hcd) hk (set_any hu) ha) hs hw h1) fun D σ H hl ⟨ε, As, F, h⟩ => ⟨ε, As, [], F, (PstS.bind h).mono fun d ε1 As1 H1 F1 s1 k v r => by
    cases io : isOwn1 (gt ε1 i) with
    | false => rw [io] at k; exact False.elim k
    | true =>
      rw [io, if_pos rfl] at k
      obtain ⟨d0, e0⟩ := isOwn1_eq io
      obtain ⟨p0, h0⟩ := F1.own1P e0
      refine ⟨.ref p0, gs_some h0, ε1, As1, [], F1, (PstS.bind k).mono fun dk ε2 As2 H2 F2 s2 k2 kv rk => ?_⟩
      cases ep : putS (gt ε2 i) dk d with
      | none => rw [ep] at k2; exact False.elim k2
      | some s =>
        rw [ep] at k2
        exact put_fin F2 (r.step F1 s2) rk h0 ep fun H' F' st => k2 As2 σ H' F' st.kp⟩
theorem val_int {s : Sl} {K : Int → R Fl} (h : PstS g W D As H (match s with | .val (.int a) => K a | _ => .bad)) : ∃ a, s = .val (.int a) ∧ PstS g W D As H (K a) := by
  cases s with
  | val d =>
    cases d with
    | int a => exact ⟨a, rfl, h⟩
    | _ => exact False.elim h
  | _ => exact False.elim h
theorem s_aug {op : Operator} {p : P} {f : Int → Int → Int} (ip : PIp X op (ipI f)) (hp : ∀ a d z, pr p [.int a, d] = some z → ∃ b, d = .int b ∧ z = .int (f a b)) (hN : X.N.Nodup) (hi : X.N[i]? = some x) (hx : Loc X.env.scope x) (he : PE X e (tE g W Fa))
    (hf : X.fn x = true ∨ X.env.scope.names.lookup x = some .local) : PS X (.AugAssign (.Name x pos') op e pos) (tS g W (augR0 i p Fa)) :=
  PS.impI (ps_aug hN hi hx he ip hf) fun D σ H hl ⟨ε, As, F, h⟩ => by
    have li : i < σ.length := by rw [hl]; exact (List.getElem?_eq_some_iff.mp hi).1
    obtain ⟨a, e0, h⟩ := val_int h
    obtain ⟨v, ev, rv⟩ := F.getVal e0
    cases rv
    refine ⟨.int a, gs_some ev, ε, As, [], F, (PstS.bind h).mono fun d ε1 As1 H1 F1 s1 k v r => ?_⟩
    cases e1 : pr p [.int a, d] with
    | none => rw [e1] at k; exact False.elim k
    | some z =>
      rw [e1] at k
      obtain ⟨b, rfl, rfl⟩ := hp a d z e1
      cases r
      exact ⟨a, b, rfl, rfl, k _ _ H1 (F1.setVal (by rw [F1.len]; exact li) (.int _)) (Stp.setA fun _ z => by cases z).kp⟩
theorem aug_add {a : Int} {d z : Ev.D} (h : pr .add [.int a, d] = some z) : ∃ b, d = .int b ∧ z = .int (a + b) := by
  cases d <;> first | (cases h; exact ⟨_, rfl, rfl⟩) | cases h
theorem aug_sub {a : Int} {d z : Ev.D} (h : pr .sub [.int a, d] = some z) : ∃ b, d = .int b ∧ z = .int (a - b) := by
  cases d <;> first | (cases h; exact ⟨_, rfl, rfl⟩) | cases h
theorem own_lst {s : Sl} {K : List Ev.D → R Fl} (h : PstS g W D As H (match s with | .own1 (.lst l) => K l | _ => .bad)) : ∃ l, s = .own1 (.lst l) ∧ PstS g W D As H (K l) := by
  cases s with
  | own1 d =>
    cases d with
    | lst l => exact ⟨l, rfl, h⟩
    | _ => exact False.elim h
  | _ => exact False.elim h
theorem s_app {px apos : Pos} (hN : X.N[i]? = some x) (hv : Vis X.env.scope x) (hd : (x == ("__debug__" : Str)) = false) (hcd : (x == ("__classdict__" : Str)) = false) (he : PE X e (tE g W Fa))
    (hbase : attributeBase (.Name x px) "append" X.env (eval (.Name x px) X.env) = eval (.Name x px) X.env := by rfl)
    (hfew : ((backTo pos' (starEach [e] X.env)).all (fun x => !x.1) && (backToKw pos' (keywordEach [] X.env)).all (fun x => x.1.isSome)
      && decide ([e].length + ([] : List Keyword).length + (if ([] : List Keyword).isEmpty then 0 else 1) < 30)) = true := by rfl)
    (hline : (apos.endLine == pos'.line) = true := by rfl) (hs : starEach [e] X.env = (false, eval e X.env) :: starEach [] X.env := by rfl) (hplain : (backTo pos' (starEach [] X.env)).any (·.1) = false := by rfl)
    (hsw : swapsWith (.Call (.Attribute (.Name x px) "append" apos) [e] [] pos') none pos.line X.env = pure false := by rfl) :
    PS X (.Expr (.Call (.Attribute (.Name x px) "append" apos) [e] [] pos') pos) (tS g W (appR0 i Fa)) :=
  PS.impI (ps_expr (pe_bm PySem.F.plainAttrs_list PySem.F.slot_list_append PySem.F.type_list_append (r := rAppend) mt_append (pe_var hN hv hd hcd) (pa_cons he pa_nil hs) hbase hfew hline hs hplain) hsw) fun D σ H hl ⟨ε, As, F, h⟩ => by
    obtain ⟨l0, e0, h⟩ := own_lst h
    obtain ⟨p0, xs0, g0, _, hp0, _⟩ := F.own1L e0
    refine ⟨.ref p0, gs_some g0, .inl ⟨rfl, xs0, .of hp0⟩, ε, As, [], F, (PstS.bind h).mono fun d ε1 As1 H1 F1 s1 k v r => ?_⟩
    obtain ⟨l, e1, k⟩ := own_lst k
    obtain ⟨p1, xs, g1, eA, hp, ra⟩ := F1.own1L e1
    rw [g0] at g1; cases g1
    by_cases hl : l.length < line
    · rw [if_pos hl] at k
      have hA : p0 ∈ As1 i := by rw [eA]; exact List.mem_singleton.mpr rfl
      have hi : i < ε1.length := gt_lt (by rw [e1]; exact fun z => by cases z)
      refine ⟨p0, xs, v, rfl, rfl, hp, by rw [iss_len ra, line_eq]; exact hl, k As1 σ _ (F1.write hi hA rfl ?_) (Stp.write hA).kp⟩
      rw [g0, eA]
      exact .lst upd_same ((Iss.app ra (.cons r .nil)).keep F1.om (F1.kpW hA))
    · rw [if_neg hl] at k; exact False.elim k
theorem for_step {tg : Tg} {b : En → R Fl} {d : Ev.D} {xs : List Ev.D} {N : L2.St → Hp → Prop} (h : PstS g W D As H (forGo tg b (d :: xs) ε))
    (hN : ∀ σ' H' ε' As', FI g ε' As' [] σ' H' → Kp (Ow g As []) (Ow g As' []) H H' → PstS g W D As' H' (forGo tg b xs ε') → N σ' H') :
    ∃ ε1, tg.put d ε = some ε1 ∧ PstS g W { D with nx := N, ct := N, bk := D.nx } As H (b ε1) := by
  have h : PstS g W D As H (match tg.put d ε with
    | none => .bad
    | some ε1 => (match b ε1 with
      | .ok .nx ε2 => forGo tg b xs ε2
      | .ok .ct ε2 => forGo tg b xs ε2
      | .ok .bk ε2 => .ok .nx ε2
      | r => r)) := h
  cases e1 : tg.put d ε with
  | none => rw [e1] at h; exact False.elim h
  | some ε1 =>
    rw [e1] at h
    refine ⟨ε1, rfl, ?_⟩
    have h : PstS g W D As H (match b ε1 with
      | .ok .nx ε2 => forGo tg b xs ε2
      | .ok .ct ε2 => forGo tg b xs ε2
      | .ok .bk ε2 => .ok .nx ε2
      | r => r) := h
    generalize b ε1 = r at h
    cases r with
    | bad => exact h
    | exc c ε' => exact h
    | ok f ε2 =>
      cases f with
      | nx =>
        have h : PstS g W D As H (forGo tg b xs ε2) := h
        exact fun As' σ' H' F k => hN σ' H' ε2 As' F k (h.rebase k)
      | ct =>
        have h : PstS g W D As H (forGo tg b xs ε2) := h
        exact fun As' σ' H' F k => hN σ' H' ε2 As' F k (h.rebase k)
      | bk => exact h
      | rt d => exact h
      | rtf d => exact h
variable {Sa Sb : En → R Fl} {a b : List Stmt} {c tgE iter : Expr} {Fi : En → R (List Ev.D)}
theorem s_for {tg : Tg} (hp : PassesOwn (model X.prog X.w) X.A X.env X.xe) (hc : X.calm = true) (hi : PI X tgE iter (tI g W Fi)) (hg : PG X tgE (tTg g tg)) (hb : PSs X b (tS g W Sb)) (hs : ∀ x, foldedSetIterable iter X.env x = pure x := by intro _; rfl) :
    PS X (.For tgE iter b [] pos) (tS g W fun ε => forR tg Sb (Fi ε)) :=
  PS.impI (ps_for hp hc hi hg hb hs) fun D σ H hl ⟨ε, As, F, h⟩ => ⟨ε, As, [], F, (PstS.bind h).mono fun xs ε1 As1 H1 F1 s1 k J M wk m => by
    let V' : Nat → Nat → L2.St → Hp → Prop := fun i m σ H => m = xs.length - i ∧ i ≤ xs.length ∧ ∃ ε As, FI g ε As [] σ H ∧ M (Ow g As []) H ∧ PstS g W D As H (forGo tg Sb (xs.drop i) ε)
    refine ⟨V', ⟨xs.length, rfl, Nat.zero_le _, ε1, As1, F1, m, k⟩, ?_⟩
    rintro i m σ H ⟨rfl, hi, ε, As, F, m, h⟩
    by_cases hlt : i < xs.length
    · refine .inr ⟨wk.go _ _ i m hlt, V' (i + 1) (xs.length - (i + 1)), fun σ' H' v => ⟨_, by omega, v⟩, fun x H' y => ?_⟩
      rw [drop_cons hlt] at h
      obtain ⟨sm, rx⟩ := wk.yld _ _ i _ x H' F.om m (List.getElem?_eq_getElem hlt) y
      have F' := F.grow sm
      have m' := wk.keep _ _ _ _ F.om (Kp.of_same sm) m
      have h' := h.rebase (Kp.of_same sm)
      obtain ⟨ε2, e2, h2⟩ := for_step (N := V' (i + 1) (xs.length - (i + 1))) h' fun σ3 H3 ε3 As3 F3 k3 h3 => ⟨rfl, hlt, ε3, As3, F3, wk.keep _ _ _ _ F'.om k3 m', h3⟩
      exact ⟨ε, As, [], _, ε2, F', rx, e2, fun σ1 As1 F1 s1 a1 => ⟨ε2, As1, F1, h2.rebase s1.kp⟩⟩
    · have ei : i = xs.length := by omega
      subst ei
      rw [List.drop_length] at h
      exact .inl ⟨wk.stop _ _ m, h As σ H F (.of_same (.refl H))⟩⟩
theorem wh_step {c : En → R Bool} {b : En → R Fl} {n : Nat} (h : PstS g W D As H (whGo c b (n + 1) ε)) :
    Pst g W As [] σ H (c ε) fun k ε1 As1 H1 => if k = true then (∀ N : L2.St → Hp → Prop, (∀ σ' H' ε' As', FI g ε' As' [] σ' H' → PstS g W D As' H' (whGo c b n ε') → N σ' H') → PstS g W { D with nx := N, ct := N, bk := D.nx } As1 H1 (b ε1)) else PstS g W D As1 H1 (.ok .nx ε1) := by
  have h : PstS g W D As H (match c ε with
    | .ok true ε1 => (match b ε1 with
      | .ok .nx ε2 => whGo c b n ε2
      | .ok .ct ε2 => whGo c b n ε2
      | .ok .bk ε2 => .ok .nx ε2
      | r => r)
    | .ok false ε1 => .ok .nx ε1
    | .exc k ε1 => .exc k ε1
    | .bad => .bad) := h
  generalize c ε = r at h
  cases r with
  | bad => exact h
  | exc k ε' => exact fun As' H' F s => h As' σ H' F s.kp
  | ok k ε1 =>
    cases k with
    | false =>
      have h : PstS g W D As H (.ok .nx ε1) := h
      intro As1 H1 F1 s1
      show PstS g W D As1 H1 (.ok .nx ε1)
      exact h.rebase s1.kp
    | true =>
      have h : PstS g W D As H (match b ε1 with
        | .ok .nx ε2 => whGo c b n ε2
        | .ok .ct ε2 => whGo c b n ε2
        | .ok .bk ε2 => .ok .nx ε2
        | r => r) := h
      intro As1 H1 F1 s1
      show ∀ N : L2.St → Hp → Prop, (∀ σ' H' ε' As', FI g ε' As' [] σ' H' → PstS g W D As' H' (whGo c b n ε') → N σ' H') → PstS g W { D with nx := N, ct := N, bk := D.nx } As1 H1 (b ε1)
      intro N hN
      have h := h.rebase s1.kp
      generalize b ε1 = r at h
      cases r with
      | bad => exact h
      | exc c ε' => exact h
      | ok f ε2 =>
        cases f with
        | nx =>
          have h : PstS g W D As1 H1 (whGo c b n ε2) := h
          exact fun As' σ' H' F k => hN σ' H' ε2 As' F (h.rebase k)
        | ct =>
          have h : PstS g W D As1 H1 (whGo c b n ε2) := h
          exact fun As' σ' H' F k => hN σ' H' ε2 As' F (h.rebase k)
        | bk => exact h
        | rt d => exact h
        | rtf d => exact h
theorem s_wh (hp : PassesOwn (model X.prog X.w) X.A X.env X.xe) (n0 : Nat) (hc : PT X c (tT g W G)) (hb : PSs X b (tS g W Sb)) : PS X (.While c b [] pos) (tS g W (whGo G Sb n0)) :=
  PS.impI (ps_while hp hc hb) fun D σ H hl ⟨ε, As, F, h⟩ => by
    let V' : Nat → L2.St → Hp → Prop := fun m σ H => ∃ ε As, FI g ε As [] σ H ∧ PstS g W D As H (whGo G Sb m ε)
    refine ⟨V', ⟨n0, ε, As, F, h⟩, ?_⟩
    rintro m σ H ⟨ε, As, F, h⟩
    cases m with
    | zero => exact False.elim h
    | succ m =>
      refine ⟨ε, As, [], F, (wh_step h).mono fun k ε1 As1 H1 F1 s1 h1 => ?_⟩
      cases k with
      | true =>
        have h1 : ∀ N : L2.St → Hp → Prop, (∀ σ' H' ε' As', FI g ε' As' [] σ' H' → PstS g W D As' H' (whGo G Sb m ε') → N σ' H') → PstS g W { D with nx := N, ct := N, bk := D.nx } As1 H1 (Sb ε1) := h1
        show ∃ N : L2.St → Hp → Prop, (∀ σ' H', N σ' H' → ∃ m', m' < m + 1 ∧ V' m' σ' H') ∧ tS g W Sb { D with nx := N, ct := N, bk := D.nx } σ H1
        exact ⟨V' m, fun σ' H' v => ⟨m, Nat.lt_succ_self m, v⟩, ε1, As1, F1, h1 _ fun σ' H' ε' As' F' h' => ⟨ε', As', F', h'⟩⟩
      | false =>
        have h1 : PstS g W D As1 H1 (.ok .nx ε1) := h1
        exact h1 As1 σ H1 F1 (.of_same (.refl H1))
theorem s_raise {C : Addr} {bmB : List Value} {B newId initId : String} {m : Str} {kk : Nat} {p p2 pos2 : Pos} {c : Nat} (hc : X.calm = true) (tk : Takes X W) (F : ExcBaseFacts B newId initId bmB) (q : PySem.W.excIn X.K C bmB newId = true) (gC : X.mg x = some (.ref C)) (kC : PySem.W.keepIn X.K (.ref C) = true) (r : Raises X (.ref C)) (hg : Gl X x)
    (hdb : (x == ("__debug__" : Str)) = false) (he : g.ex c = C) : PS X (.Raise (some (.Call (.Name x p) [.Constant (.str m) kk p2] [] pos2)) none pos) (tS g W fun ε => .exc c ε) :=
  PS.impI (ps_raise hc tk (pmk_own F q gC kC r hg hdb)) fun D σ H hl ⟨ε, As, F, h⟩ => by
    have := h As σ H F (.of_same (.refl H))
    rw [he] at this
    exact this
end
end Ev
set_option Elab.async false
set_option linter.all false
set_option maxRecDepth 100000
set_option maxHeartbeats 1000000
namespace Ev
open PySem PySem.Spec PyProof.Rows L2

@[irreducible] def litR (d : D) : En → R D := fun ε => .ok d ε
@[irreducible] def varR (i : Nat) (ε : En) : R D := match gt ε i with
  | .val d => .ok d ε
  | s => (match s.d with
    | some d => .ok d (ε.set i (.val d))
    | none => .bad)
theorem varR_eq {cl : Cl} {i : Nat} : ev cl (.var i) = varR i := by
  with_unfolding_all
    funext ε
    unfold ev varR
    cases gt ε i <;> rfl
@[irreducible] def popR (i : Nat) (ε : En) : R D := match gt ε i with
  | .own1 (.lst l) => (match l.getLast? with
    | some d => .ok d (ε.set i (.own1 (.lst l.dropLast)))
    | none => .bad)
  | _ => .bad
theorem popR_eq {cl : Cl} {i : Nat} : ev cl (.pop i) = popR i := by
  with_unfolding_all
    funext ε
    unfold ev popR
    rfl
@[irreducible] def gV (F : En → R D) : En → R Arg := fun ε => (F ε).bind fun d ε1 => .ok (.v d) ε1
@[irreducible] def dN : En → R (List D) := fun ε => .ok [] ε
@[irreducible] def dC (F : En → R D) (Ds : En → R (List D)) : En → R (List D) := fun ε => (F ε).bind fun d ε1 => (Ds ε1).bind fun ds ε2 => .ok (d :: ds) ε2
@[irreducible] def gN : En → R (List Arg) := fun ε => .ok [] ε
@[irreducible] def gC (F : En → R Arg) (Ds : En → R (List Arg)) : En → R (List Arg) := fun ε => (F ε).bind fun d ε1 => (Ds ε1).bind fun ds ε2 => .ok (d :: ds) ε2
@[irreducible] def o1 (p : P) (Ga : En → R Arg) : En → R D := fun ε => opR p (args1 Ga ε)
@[irreducible] def o2 (p : P) (Ga Gb : En → R Arg) : En → R D := fun ε => opR p (args2 Ga Gb ε)
@[irreducible] def o3 (p : P) (Ga Gb Gc : En → R Arg) : En → R D := fun ε => opR p (args3 Ga Gb Gc ε)
@[irreducible] def oD (p : P) (Ds : En → R (List D)) : En → R D := fun ε => opdR p (Ds ε)
@[irreducible] def oG (p : P) (Gs : En → R (List Arg)) : En → R D := fun ε => opR p (Gs ε)
@[irreducible] def chR (q1 q2 : P) (Fa Fb Fc : En → R D) (ε : En) : R D := (Fa ε).bind fun x ε1 => (Fb ε1).bind fun y ε2 => (match pr q1 [x, y] with
    | some (.bl true) => (Fc ε2).bind fun z ε3 => (match pr q2 [y, z] with
      | some d => .ok d ε3
      | none => .bad)
    | some (.bl false) => .ok (.bl false) ε2
    | _ => .bad)
@[irreducible] def tB (F : En → R D) : En → R Bool := fun ε => asB (F ε)
@[irreducible] def tAnd (Ga Gb : En → R Bool) : En → R Bool := fun ε => (Ga ε).bind fun c ε1 => if c then Gb ε1 else .ok false ε1
@[irreducible] def tOr (Ga Gb : En → R Bool) : En → R Bool := fun ε => (Ga ε).bind fun c ε1 => if c then .ok true ε1 else Gb ε1
@[irreducible] def tNot (Ga : En → R Bool) : En → R Bool := fun ε => (Ga ε).bind fun c ε1 => .ok (!c) ε1
@[irreducible] def eAnd (Fa Fb : En → R D) : En → R D := fun ε => (asB (Fa ε)).bind fun c ε1 => if c then Fb ε1 else .ok (.bl false) ε1
@[irreducible] def eOr (Fa Fb : En → R D) : En → R D := fun ε => (asB (Fa ε)).bind fun c ε1 => if c then .ok (.bl true) ε1 else Fb ε1
@[irreducible] def eNot (Fa : En → R D) : En → R D := fun ε => (asB (Fa ε)).bind fun c ε1 => .ok (.bl (!c)) ε1
@[irreducible] def eIf (G : En → R Bool) (Fa Fb : En → R D) : En → R D := fun ε => (G ε).bind fun c ε1 => if c then Fa ε1 else Fb ε1
@[irreducible] def get1R (Ga : En → R Arg) (Fb : En → R D) : En → R D := fun ε => (args1 Ga ε).bind fun as ε1 => if isDct (Args.ds ε1 as) then (Fb ε1).bind fun kd ε2 => getR (Args.ds ε2 as) kd [] ε2 else .bad
@[irreducible] def get2R (Ga : En → R Arg) (Fb Fc : En → R D) : En → R D := fun ε => (args1 Ga ε).bind fun as ε1 => if isDct (Args.ds ε1 as) then (Fb ε1).bind fun kd ε2 => (Fc ε2).bind fun x ε3 => getR (Args.ds ε3 as) kd [x] ε3 else .bad
@[irreducible] def dct1R (t : Bool) (Fa Fb : En → R D) : En → R D := fun ε => (Fa ε).bind fun kd ε1 => (Fb ε1).bind fun vd ε2 => if hkey t kd then .ok (.dct t [(kd, vd)]) ε2 else .bad
@[irreducible] def lcE (own : List Nat) (tg : Tg) (Fi : En → R (List D)) (t : En → R Bool) (e : En → R D) : En → R D := fun ε => lcR own (fun xs ε1 => lcGo own tg t e xs [] (und ε1 own)) (fun l ε' => .ok (.lst l) ε') (Fi ε)
@[irreducible] def lc2E (own : List Nat) (tg : Tg) (Fi : En → R (List D)) (t : En → R Bool) (tg2 : Tg) (it : En → R (List D)) (t2 : En → R Bool) (e : En → R D) : En → R D := fun ε => lcR own (fun xs ε1 => lc2Go own tg2.own tg t it tg2 t2 e xs [] (und ε1 own)) (fun l ε' => .ok (.lst l) ε') (Fi ε)
@[irreducible] def lcO (own : List Nat) (tg : Tg) (Fi : En → R (List D)) (t : En → R Bool) (e : En → R D) : En → R Sl := fun ε => lcR own (fun xs ε1 => lcGo own tg t e xs [] (und ε1 own)) (fun l ε' => .ok (.own1 (.lst l)) ε') (Fi ε)
@[irreducible] def itE (k : IK) (Ds : En → R (List D)) : En → R (List D) := fun ε => itR k (Ds ε)
@[irreducible] def clR (cl : Cl) (f : Nat) (Ds : En → R (List D)) : En → R D := fun ε => callR cl f (Ds ε)
@[irreducible] def clfR (cl : Cl) (f : Nat) (Ds : En → R (List D)) : En → R Sl := fun ε => callfR cl f (Ds ε)
@[irreducible] def clvR (cl : Cl) (i : Nat) (Ds : En → R (List D)) : En → R D := fun ε => match gt ε i with | .val (.fn f) => callR cl f (Ds ε) | _ => .bad
@[irreducible] def clioR (cl : Cl) (f i : Nat) (Ds : En → R (List D)) : En → R D := fun ε => match gt ε i with | .own1 (.lst _) => callioR cl f i (Ds ε) | _ => .bad
@[irreducible] def oV (F : En → R D) : En → R Sl := fun ε => vlR (F ε)
@[irreducible] def oO (F : En → R D) : En → R Sl := fun ε => owR (F ε)
@[irreducible] def sSet (i : Nat) (F : En → R Sl) : En → R Fl := fun ε => setR i (F ε)
@[irreducible] def sUnp (t : Tg) (F : En → R D) : En → R Fl := fun ε => unpR t (F ε)
@[irreducible] def sPar (i j : Nat) (Fa Fb : En → R Sl) : En → R Fl := fun ε => parR i j (Fa ε) Fb
@[irreducible] def sPut (i : Nat) (Fk Fv : En → R D) : En → R Fl := fun ε => putR i Fk (Fv ε)
@[irreducible] def sExp (F : En → R D) : En → R Fl := fun ε => expR (F ε)
@[irreducible] def sRet (F : En → R D) : En → R Fl := fun ε => retR (F ε)
@[irreducible] def sRetf (F : En → R Sl) : En → R Fl := fun ε => retfR (F ε)
@[irreducible] def sEnd (f : Fl) : En → R Fl := fun ε => .ok f ε
@[irreducible] def sIf (G : En → R Bool) (a b : En → R Fl) : En → R Fl := fun ε => ifR (G ε) a b
@[irreducible] def sFor (t : Tg) (Fi : En → R (List D)) (b : En → R Fl) : En → R Fl := fun ε => forR t b (Fi ε)
@[irreducible] def sRaise (c : Nat) : En → R Fl := fun ε => .exc c ε
@[irreducible] def sSeq (a b : En → R Fl) : En → R Fl := fun ε => seqR (a ε) b

@[irreducible] def argVar (i : Nat) : En → R Arg := argVar0 i
@[irreducible] def augR (i : Nat) (p : P) (F : En → R D) : En → R Fl := augR0 i p F
@[irreducible] def appR (i : Nat) (F : En → R D) : En → R Fl := appR0 i F
@[irreducible] def ix2R (i : Nat) (Fa Fb : En → R D) : En → R D := ix2R0 i Fa Fb
@[irreducible] def d1 (F : En → R D) : En → R (List D) := d10 F
@[irreducible] def sWh (G : En → R Bool) (B : En → R Fl) : En → R Fl := whGo G B fuel

structure Cc (k : Nat) (X : Cx) (g : Gx) (W : WX) : Prop where
  hK : g.K = X.K
  calm : X.calm = true
  room : Room k X.A
  tk : Takes X W
  nd : X.N.Nodup
abbrev W0 : WX := fun _ _ _ _ => False
section
variable {k : Nat} {X : Cx} {g : Gx} {W : WX}
theorem Cc.blk (c : Cc k X g W) {s : Shared} {H : Hp} {scope : Scope} {cenv : Env} {fp : List Addr} : Cc k (X.blk s H scope cenv fp) g W0 := by
  with_unfolding_all exact ⟨c.hK, c.calm, c.room, fun u s' ⟨a, B, sI, pins, σ, H, cls, d, e, I, nb, up, sky, na, os, ag, w⟩ => w.elim, c.nd⟩
theorem Cc.un (c : Cc k X g W) : X.A.units + 65 < cLine := by with_unfolding_all (have := c.room.un; omega)
theorem Cc.un1 (c : Cc k X g W) : X.A.units + 1 < cLine := by with_unfolding_all (have := c.room.un; omega)
theorem Cc.un4 (c : Cc k X g W) : X.A.units + 64 < cLine := by with_unfolding_all (have := c.room.un; omega)
variable {pos p2 : Pos} {a b c' : Expr} {Fa Fb Fc : En → R D} {Ga Gb Gc : En → R Arg} {Ds : En → R (List D)} {Gs : En → R (List Arg)}
theorem E_int {i j} : PE X (.Constant (.int i) j pos) (tE g W (litR (.int i))) := by
  with_unfolding_all exact e_int
theorem E_bl {i j} : PE X (.Constant (.bool i) j pos) (tE g W (litR (.bl i))) := by
  with_unfolding_all exact e_bl
theorem E_str {i j} : PE X (.Constant (.str i) j pos) (tE g W (litR (.str i))) := by
  with_unfolding_all exact e_str
theorem E_non {j} : PE X (.Constant .none j pos) (tE g W (litR .non)) := by
  with_unfolding_all exact e_non
theorem E_var {i : Nat} {x : Str} (hN : X.N[i]? = some x) (hv : Vis X.env.scope x) (hd : (x == ("__debug__" : Str)) = false) (hcd : (x == ("__classdict__" : Str)) = false) : PE X (.Name x pos) (tE g W (varR i)) := by
  with_unfolding_all
    rw [← varR_eq (cl := fun _ _ => .bad)]
    exact e_var _ hN hv hd hcd
theorem E_con {x : Str} {i : Int} (hg : Gl X x) (hm : ∃ t, X.mg x = some (.int i t)) (hd : (x == ("__debug__" : Str)) = false) : PE X (.Name x pos) (tE g W (litR (.int i))) := by
  with_unfolding_all
    obtain ⟨t, hm⟩ := hm
    exact PE.imp (pe_glob (v := .int i) hg hm ⟨t, rfl⟩ hd) fun σ H Q ⟨ε, As, T, F, h⟩ => h.here F _ (.int i)
theorem E_fn {x : Str} {f : Nat} {fA : Addr} (hg : Gl X x) (hm : X.mg x = some (.ref fA)) (hf : g.fa f = some fA) (hd : (x == ("__debug__" : Str)) = false) : PE X (.Name x pos) (tE g W (litR (.fn f))) := by
  with_unfolding_all exact PE.imp (pe_glob (v := .ref fA) hg hm rfl hd) fun σ H Q ⟨ε, As, T, F, h⟩ => h.here F _ (.fn hf)
theorem G_v {e : Expr} (h : PE X e (tE g W Fa)) : PE X e (tG g W (gV Fa)) := by
  with_unfolding_all exact g_val h
theorem G_b {i : Nat} {x : Str} (hN : X.N[i]? = some x) (hv : Vis X.env.scope x) (hd : (x == ("__debug__" : Str)) = false) (hcd : (x == ("__classdict__" : Str)) = false) : PE X (.Name x pos) (tG g W (argVar i)) := by
  with_unfolding_all exact g_var hN hv hd hcd
variable {op : Operator} {cop cop2 : CmpOp} {p q : P}
theorem E_bin (c : Cc k X g W) (ho : OpR X (binaryOp op) (rP2 X.K p)) (ha : PE X a (tG g W Ga)) (hb : PE X b (tG g W Gb)) : PE X (.BinOp a op b pos) (tE g W (o2 p Ga Gb)) := by
  with_unfolding_all exact e_bin (by rw [c.hK]; exact ho) ha hb
theorem E_cmp (c : Cc k X g W) (ho : OpR X (compareOp cop) (rP2 X.K p)) (ha : PE X a (tG g W Ga)) (hb : PE X b (tG g W Gb)) (hm : behindInMarks cop b = false) : PE X (.Compare a [cop] [b] pos) (tE g W (o2 p Ga Gb)) := by
  with_unfolding_all exact e_cmp (by rw [c.hK]; exact ho) ha hb hm
theorem T_cmp (c : Cc k X g W) (ho : OpR X (compareOp cop) (rP2 X.K p)) (ha : PE X a (tG g W Ga)) (hb : PE X b (tG g W Gb)) (hm : behindInMarks cop b = false) : PT X (.Compare a [cop] [b] pos) (tT g W (tB (o2 p Ga Gb))) := by
  with_unfolding_all exact t_cmp (by rw [c.hK]; exact ho) ha hb hm
theorem E_ix (c : Cc k X g W) (ha : PE X a (tG g W Ga)) (hb : PE X b (tG g W Gb)) (hs : PlainIx b) : PE X (.Subscript a b pos) (tE g W (o2 .ix Ga Gb)) := by
  with_unfolding_all exact e_ix (by rw [c.hK]; exact p_ix c.un1) ha hb hs
theorem E_neg (c : Cc k X g W) (ha : PE X a (tG g W Ga)) : PE X (.UnaryOp .USub a pos) (tE g W (o1 .neg Ga)) := by
  with_unfolding_all exact e_un (by rw [c.hK]; exact p_neg) ha
theorem E_sl00 (c : Cc k X g W) (ha : PE X a (tG g W Ga)) : PE X (.Subscript a (.Slice none none none p2) pos) (tE g W (o1 (.sl false false) Ga)) := by
  with_unfolding_all exact e_sl00 ha c.hK
theorem E_sl10 (c : Cc k X g W) (ha : PE X a (tG g W Ga)) (hb : PE X b (tG g W Gb)) : PE X (.Subscript a (.Slice (some b) none none p2) pos) (tE g W (o2 (.sl true false) Ga Gb)) := by
  with_unfolding_all exact e_sl10 ha hb c.hK
theorem E_sl01 (c : Cc k X g W) (ha : PE X a (tG g W Ga)) (hb : PE X b (tG g W Gb)) : PE X (.Subscript a (.Slice none (some b) none p2) pos) (tE g W (o2 (.sl false true) Ga Gb)) := by
  with_unfolding_all exact e_sl01 ha hb c.hK
theorem E_sl11 (c : Cc k X g W) (ha : PE X a (tG g W Ga)) (hb : PE X b (tG g W Gb)) (hc : PE X c' (tG g W Gc)) : PE X (.Subscript a (.Slice (some b) (some c') none p2) pos) (tE g W (o3 (.sl true true) Ga Gb Gc)) := by
  with_unfolding_all exact e_sl11 ha hb hc c.hK
theorem E_rev (c : Cc k X g W) {kk : Nat} {p1 p3 : Pos} (ha : PE X a (tG g W Ga)) : PE X (.Subscript a (.Slice none none (some (.UnaryOp .USub (.Constant (.int 1) kk p1) p2)) p3) pos) (tE g W (o1 .rev Ga)) := by
  with_unfolding_all exact e_rev ha c.hK
theorem chain_fin {q1 q2 : P} {σ : L2.St} {H : Hp} {Q : VK} (h : tE g W (chR q1 q2 Fa Fb Fc) σ H Q) : tChain (rP2 g.K q1) (rP2 g.K q2) (tE g W Fa) (tE g W Fb) (tE g W Fc) σ H Q := by
  with_unfolding_all
    obtain ⟨ε, As, T, F, h⟩ := h
    have h : Pst g W As T σ H ((Fa ε).bind _) _ := h
    refine ⟨ε, As, T, F, (Pst.bind h).mono fun x ε1 As1 H1 F1 s1 k v1 r1 => ⟨ε1, As1, T, F1, (Pst.bind k).mono fun y ε2 As2 H2 F2 s2 k2 v2 r2 => ?_⟩⟩
    cases e1 : pr q1 [x, y] with
    | none => rw [e1] at k2; exact False.elim k2
    | some d =>
      rw [e1] at k2
      refine ⟨g.fa, Ow g As2 T, [x, y], d, F2.om, .cons (.is (r1.step F1 s2)) (.cons (.is r2) .nil), e1, fun v H' sm rv => ?_⟩
      cases d with
      | bl b =>
        cases rv
        refine ⟨b, rfl, ?_⟩
        have F2' := F2.grow sm
        cases b with
        | false => exact k2 As2 H' F2' (.of_same sm) _ (.bl false)
        | true =>
          have k3 : Pst g W As2 T σ H2 ((Fc ε2).bind _) _ := k2
          have k3 := k3.same sm
          refine ⟨ε2, As2, T, F2', (Pst.bind k3).mono fun z ε3 As3 H3 F3 s3 k4 v3 r3 => ?_⟩
          exact opd1_fin F3 (.cons (.is (IsG.step F2' s3 (IsG.step F2 (.of_same sm) r2))) (.cons (.is r3) .nil)) k4
      | _ => exact False.elim k2
theorem asB_tE {σ : L2.St} {H : Hp} {Q : Bool → Hp → Prop} (h : tT g W (tB Fa) σ H Q) : tE g W Fa σ H fun x H' => ∃ k, x = .bl k ∧ Q k H' := by
  with_unfolding_all
    obtain ⟨ε, As, T, F, h⟩ := h
    refine ⟨ε, As, T, F, (Pst.asB h).mono fun d ε' As' H' F' s ⟨b, e, k⟩ v r => ?_⟩
    subst e; cases r
    exact ⟨b, rfl, k⟩
theorem E_chain (c : Cc k X g W) (ho : OpR X (compareOp cop) (rP2 X.K p)) (ho' : OpR X (compareOp cop2) (rP2 X.K q)) (ha : PE X a (tE g W Fa)) (hb : PE X b (tE g W Fb)) (hc : PE X c' (tE g W Fc)) (hm : lastMarks [cop, cop2] [b, c'] = false) :
    PE X (.Compare a [cop, cop2] [b, c'] pos) (tE g W (chR p q Fa Fb Fc)) := by
  with_unfolding_all exact PE.imp (pe_chain (by rw [← c.hK] at ho; exact ho) (by rw [← c.hK] at ho'; exact ho') ha hb hc hm) fun _ _ _ h => chain_fin h
theorem T_chain (c : Cc k X g W) (ho : OpR X (compareOp cop) (rP2 X.K p)) (ho' : OpR X (compareOp cop2) (rP2 X.K q)) (ha : PE X a (tE g W Fa)) (hb : PE X b (tE g W Fb)) (hc : PE X c' (tE g W Fc)) (hm : lastMarks [cop, cop2] [b, c'] = false) :
    PT X (.Compare a [cop, cop2] [b, c'] pos) (tT g W (tB (chR p q Fa Fb Fc))) := by
  with_unfolding_all exact PT.imp (pt_chain (by rw [← c.hK] at ho; exact ho) (by rw [← c.hK] at ho'; exact ho') ha hb hc hm) fun _ _ _ h => chain_fin (asB_tE h)
theorem E_isi {T : Nat} {t : Str} {fpos tpos : Pos} (c : Cc k X g W) (ha : PE X a (tG g W Ga)) (hg : Gl X "isinstance") (hm : X.mg "isinstance" = none) (hg2 : Gl X t) (hm2 : X.mg t = none) (hv2 : bootBuiltins t = some (.type (isiNm T))) (hn2 : t ≠ "__name__") (hdb2 : (t == ("__debug__" : Str)) = false) (hs : starEach [a, .Name t tpos] X.env = (false, eval a X.env) :: starEach [.Name t tpos] X.env) :
    PE X (.Call (.Name "isinstance" fpos) [a, .Name t tpos] [] pos) (tE g W (o1 (.isi T) Ga)) := by
  with_unfolding_all exact e_isi ha c.hK hg hm (by decide +kernel) hg2 hm2 hv2 (by decide) (by decide) hn2 hdb2 hs
end
end Ev
set_option Elab.async false
set_option linter.all false
set_option maxRecDepth 100000
set_option maxHeartbeats 1000000
namespace Ev
open PySem PySem.Spec PyProof.Rows L2

structure FD where
  name : Str
  n : Nat
  m : Nat
  kind : Nat
  body : Cl → En → R Fl
def en0 (m : Nat) (ds : List D) : En := ds.map Sl.val ++ List.replicate (m - ds.length) .und
def enI (m : Nat) (ds : List D) : En := match ds with
  | .lst l :: r => .own1 (.lst l) :: (r.map Sl.val ++ List.replicate (m - ds.length) .und)
  | _ => []
def bodyR (r : R Fl) : CR := match r with
  | .ok .nx _ => .ok .non
  | .ok (.rt d) _ => .ok d
  | .exc c _ => .exc c
  | _ => .bad
def bodyF (r : R Fl) : CR := match r with
  | .ok (.rtf l) _ => .okf l
  | .exc c _ => .exc c
  | _ => .bad
def ioD (d : D) : Sl → CR
  | .own1 (.lst l) => .okio d (.lst l)
  | _ => .bad
def bodyI (r : R Fl) : CR := match r with
  | .ok .nx ε => ioD .non (gt ε 0)
  | .ok (.rt d) ε => ioD d (gt ε 0)
  | _ => .bad
def runD (d : FD) (cl : Cl) (ds : List D) : CR := if ds.length = d.n then (match d.kind with
  | 0 => bodyR (d.body cl (en0 d.m ds))
  | 1 => bodyF (d.body cl (en0 d.m ds))
  | _ => bodyI (d.body cl (enI d.m ds))) else .bad
def callN (tb : List FD) : Nat → Cl
  | 0 => fun _ _ => .bad
  | k + 1 => fun f ds => match tb[f]? with
    | some d => runD d (callN tb k) ds
    | none => .bad
def spK (kind : Nat) (K : PySem.W.Frag) (fa : FAd) (ex : Nat → Addr) (n : Nat) (f : List D → CR) : Sp := match kind with
  | 0 => spP K fa ex n f
  | 1 => spF K fa ex n f
  | _ => spI K fa ex n f
theorem spK_len {kind : Nat} {K : PySem.W.Frag} {fa : FAd} {ex : Nat → Addr} {n : Nat} {f : List D → CR} {vs : List V} {H : Hp} {Q : VK} {E : XK} (h : spK kind K fa ex n f vs H Q E) : vs.length = n := by
  unfold spK at h
  split at h <;> exact h.1
section
variable {K : PySem.W.Frag} {fa : FAd} {ex : Nat → Addr} {Oc : Addr → Prop} {H : Hp} {vs : List V} {ds : List D}
theorem en0_len {m : Nat} (h : ds.length ≤ m) : (en0 m ds).length = m := by
  unfold en0; rw [List.length_append, List.length_map, List.length_replicate]; omega
theorem start_len {N : List Str} (h : vs.length ≤ N.length) : (L2.start N vs).length = N.length := by
  unfold L2.start; rw [List.length_append, List.length_map, List.length_replicate]; omega
theorem iss_at {O : Addr → Prop} (h : Iss K fa H O vs ds) (i : Nat) : (∃ v d, vs[i]? = some v ∧ ds[i]? = some d ∧ Is K fa H O v d) ∨ (vs[i]? = none ∧ ds[i]? = none) := by
  cases e : ds[i]? with
  | none =>
    refine .inr ⟨?_, rfl⟩
    rw [List.getElem?_eq_none_iff] at e ⊢
    rw [iss_len h]; exact e
  | some d =>
    obtain ⟨v, ev, r⟩ := h.get e
    exact .inl ⟨v, d, ev, rfl, r⟩
theorem gs_start {N : List Str} {i : Nat} {v : V} (h : vs[i]? = some v) : gs (L2.start N vs) i = some v := by
  have hi := (List.getElem?_eq_some_iff.mp h).1
  unfold gs L2.start
  rw [List.getElem?_append_left (by simpa using hi), List.getElem?_map, h]
  rfl
theorem gt_en0 {m i : Nat} {d : D} (h : ds[i]? = some d) : gt (en0 m ds) i = .val d := by
  have hi := (List.getElem?_eq_some_iff.mp h).1
  unfold gt en0
  rw [List.getElem?_append_left (by simpa using hi), List.getElem?_map, h]
  rfl
theorem gt_en0n {m i : Nat} (h : ds[i]? = none) : gt (en0 m ds) i = .und := by
  have hi := List.getElem?_eq_none_iff.mp h
  unfold gt en0
  rw [List.getElem?_append_right (by simpa using hi), List.getElem?_replicate]
  split <;> rfl
theorem fi_start {N : List Str} {m : Nat} (om : OMut H Oc) (r : Iss K fa H Oc vs ds) (hm : N.length = m) (hl : ds.length ≤ m) : FI ⟨K, fa, ex, Oc, H, none⟩ (en0 m ds) (fun _ => []) [] (L2.start N vs) H := by
  refine ⟨by rw [en0_len hl, start_len (by rw [iss_len r, hm]; exact hl), hm], fun i => ?_, fun _ _ _ z => (nomatch z), fun _ _ z => (nomatch z), fun _ _ z => (nomatch z), fun _ _ h _ => h, fun a h => ⟨om a h, fun z => nomatch z⟩, fun _ z => (nomatch z), fun _ z => (nomatch z), fun _ z => (nomatch z), .nil, fun _ z => nomatch z⟩
  have om' : OMut H (Ow ⟨K, fa, ex, Oc, H, none⟩ (fun _ => []) []) := fun a z => by
    rcases z with z | ⟨_, z⟩ | z
    · exact om a z
    · cases z
    · cases z
  have kp : Kp Oc (Ow ⟨K, fa, ex, Oc, H, none⟩ (fun _ => []) []) H H := ⟨fun _ _ e _ => e, fun a _ _ z => by
    rcases z with z | ⟨_, z⟩ | z
    · exact z
    · cases z
    · cases z⟩
  rcases iss_at r i with ⟨v, d, e1, e2, rv⟩ | ⟨e1, e2⟩
  · rw [gt_en0 e2, gs_start e1]
    exact .val (rv.keep om kp)
  · rw [gt_en0n e2]
    exact .und _
theorem is_down {As : Ass} {H' : Hp} {g : Gx} {T : List Addr} {ε : En} {σ : L2.St} {v : V} {d : D} (F : FI g ε As T σ H') (h : IsG g As T H' v d) : Is g.K g.fa H' g.Oc v d :=
  Is.keep F.om ⟨fun _ _ e _ => e, fun _ _ _ z => .inl z⟩ h
theorem pure_ok {N : List Str} {m : Nat} {F : En → R Fl} {Q : VK} {E : XK} {f : List D → CR} {n : Nat} (hm : N.length = m) (hn : n ≤ m) (hf : f = fun ds => if ds.length = n then bodyR (F (en0 m ds)) else .bad) (h : spP K fa ex n f vs H Q E) :
    ∃ Oc : Addr → Prop, tS ⟨K, fa, ex, Oc, H, none⟩ (fun cls d _ H => E cls d H) F { nx := fun _ H' => Q .non H', rt := Q } (L2.start N vs) H := by
  obtain ⟨hl, Oc, ds, om, r, h⟩ := h
  have hd : ds.length = n := by rw [← iss_len r]; exact hl
  subst hf
  simp only [hd, if_true] at h
  refine ⟨Oc, en0 m ds, _, fi_start om r hm (by rw [hd]; exact hn), ?_⟩
  generalize F (en0 m ds) = r at h
  cases r with
  | bad => exact h
  | exc c ε' => exact fun As' σ' H' F k => h H' fun b o e => F.same b o e (fun z => by cases z)
  | ok f ε' =>
    cases f with
    | nx => exact fun As' σ' H' F k => h .non H' (fun b o e => F.same b o e (fun z => by cases z)) .non
    | rt d => exact fun As' σ' H' F k v rv => h v H' (fun b o e => F.same b o e (fun z => by cases z)) (is_down F rv)
    | _ => exact h.elim
theorem fresh_ok {N : List Str} {m : Nat} {F : En → R Fl} {Q : VK} {E : XK} {f : List D → CR} {n : Nat} (hm : N.length = m) (hn : n ≤ m) (hf : f = fun ds => if ds.length = n then bodyF (F (en0 m ds)) else .bad) (h : spF K fa ex n f vs H Q E) :
    ∃ Oc : Addr → Prop, tS ⟨K, fa, ex, Oc, H, none⟩ (fun cls d _ H => E cls d H) F { nx := fun _ H' => Q .non H', rt := Q } (L2.start N vs) H := by
  obtain ⟨hl, Oc, ds, om, r, h⟩ := h
  have hd : ds.length = n := by rw [← iss_len r]; exact hl
  subst hf
  simp only [hd, if_true] at h
  refine ⟨Oc, en0 m ds, _, fi_start om r hm (by rw [hd]; exact hn), ?_⟩
  generalize F (en0 m ds) = r at h
  cases r with
  | bad => exact h
  | exc c ε' => exact fun As' σ' H' F k => h H' fun b o e => F.same b o e (fun z => by cases z)
  | ok f ε' =>
    cases f with
    | rtf l =>
      intro As' σ' H' F k p xs hp h1 r1 sm
      have hp0 : H p = none := by
        rcases hp with z | z
        · exact z
        · cases z
      have om2 : OMut H' (Ow ⟨K, fa, ex, Oc, H, none⟩ As' [p]) := fun a z => by
        rcases z with z | z | z
        · exact F.om a (.inl z)
        · exact F.om a (.inr (.inl z))
        · rw [List.mem_singleton.mp z]; exact ⟨_, h1, rfl⟩
      refine h p xs H' (fun b o e => sm b o e (fun z => by cases z)) hp0 h1 (r1.keep om2 ⟨fun _ _ e _ => e, fun b _ _ z => ?_⟩)
      rcases z with z | z
      · exact .inl z
      · exact .inr (.inr (List.mem_singleton.mpr z))
    | _ => exact h.elim
theorem io_ok {N : List Str} {m : Nat} {F : En → R Fl} {Q : VK} {E : XK} {f : List D → CR} {n : Nat} (hm : N.length = m) (hn : n ≤ m) (hf : f = fun ds => if ds.length = n then bodyI (F (enI m ds)) else .bad) (h : spI K fa ex n f vs H Q E) :
    ∃ (Oc : Addr → Prop) (p : Addr), tS ⟨K, fa, ex, Oc, H, some p⟩ (fun cls d _ H => E cls d H) F { nx := fun _ H' => Q .non H', rt := Q } (L2.start N vs) H := by
  obtain ⟨hl, Oc, p, xs, vs', l, ds, rfl, hp, np, om, r1, r2, h⟩ := h
  have hd : (D.lst l :: ds).length = n := by rw [List.length_cons, ← iss_len r2]; exact hl
  subst hf
  simp only [hd, if_true] at h
  let As0 : Ass := fun i => if i = 0 then [p] else []
  have ow : ∀ b, Ow ⟨K, fa, ex, Oc, H, some p⟩ As0 [] b ↔ (Oc b ∨ b = p) := fun b => by
    constructor
    · rintro (z | ⟨i, z⟩ | z)
      · exact .inl z
      · have z : b ∈ (if i = 0 then [p] else []) := z
        by_cases e : i = 0
        · rw [if_pos e] at z; exact .inr (List.mem_singleton.mp z)
        · rw [if_neg e] at z; cases z
      · cases z
    · rintro (z | z)
      · exact .inl z
      · exact .inr (.inl ⟨0, List.mem_singleton.mpr z⟩)
  have om' : OMut H (fun a => Oc a ∨ a = p) := fun a z => by
    rcases z with z | z
    · exact om a z
    · rw [z]; exact ⟨_, hp, rfl⟩
  have kp : Kp (fun a => Oc a ∨ a = p) (Ow ⟨K, fa, ex, Oc, H, some p⟩ As0 []) H H := ⟨fun _ _ e _ => e, fun b _ _ z => (ow b).mp z⟩
  have mem0 : ∀ {i : Nat} {a : Addr}, a ∈ As0 i → i = 0 ∧ a = p := fun {i a} z => by
    have z : a ∈ (if i = 0 then [p] else []) := z
    by_cases e : i = 0
    · rw [if_pos e] at z; exact ⟨e, List.mem_singleton.mp z⟩
    · rw [if_neg e] at z; cases z
  have F0 : FI ⟨K, fa, ex, Oc, H, some p⟩ (enI m (.lst l :: ds)) As0 [] (L2.start N (.ref p :: vs')) H := by
    refine ⟨?_, fun i => ?_, fun i j a z1 z2 => by rw [(mem0 z1).1, (mem0 z2).1], fun i a z => by rw [(mem0 z).2]; exact np, fun i a z => by rw [(mem0 z).2]; exact .inr rfl, fun _ _ e _ => e, fun a z => ⟨om a z, fun e => np (by cases e; exact z)⟩, fun _ z => (nomatch z), fun _ z => (nomatch z), fun a z => (by cases z; rw [hp]; exact fun z => nomatch z), .nil, fun q e a z => (by cases e; exact (mem0 z).2)⟩
    · have e1 : (L2.start N (.ref p :: vs')).length = N.length := start_len (by rw [List.length_cons, iss_len r2, ← List.length_cons (a := D.lst l), hd, hm]; exact hn)
      rw [e1, hm]
      show (_ :: (ds.map Sl.val ++ List.replicate (m - (D.lst l :: ds).length) .und)).length = m
      rw [List.length_cons, List.length_append, List.length_map, List.length_replicate, hd]
      have : ds.length + 1 = n := hd
      omega
    · cases i with
      | zero =>
        show SlOk K fa H _ (.own1 (.lst l)) [p] (some (.ref p))
        exact .lst hp (r1.keep om' kp)
      | succ i =>
        have ea : As0 (i + 1) = [] := if_neg (Nat.succ_ne_zero i)
        rw [ea]
        have eg : gt (enI m (.lst l :: ds)) (i + 1) = gt (ds.map Sl.val ++ List.replicate (m - (D.lst l :: ds).length) .und) i := rfl
        have es : gs (L2.start N (.ref p :: vs')) (i + 1) = gs (vs'.map some ++ List.replicate (N.length - (V.ref p :: vs').length) none) i := rfl
        rcases iss_at r2 i with ⟨v, d, e1, e2, rv⟩ | ⟨e1, e2⟩
        · have hi := (List.getElem?_eq_some_iff.mp e2).1
          have hi' := (List.getElem?_eq_some_iff.mp e1).1
          have : gt (enI m (.lst l :: ds)) (i + 1) = .val d := by
            rw [eg]; unfold gt
            rw [List.getElem?_append_left (by simpa using hi), List.getElem?_map, e2]; rfl
          rw [this]
          have : gs (L2.start N (.ref p :: vs')) (i + 1) = some v := by
            rw [es]; unfold gs
            rw [List.getElem?_append_left (by simpa using hi'), List.getElem?_map, e1]; rfl
          rw [this]
          exact .val (rv.keep om' kp)
        · have hi := List.getElem?_eq_none_iff.mp e2
          have : gt (enI m (.lst l :: ds)) (i + 1) = .und := by
            rw [eg]; unfold gt
            rw [List.getElem?_append_right (by simpa using hi), List.getElem?_replicate]
            split <;> rfl
          rw [this]
          exact .und _
  refine ⟨Oc, p, _, As0, F0, ?_⟩
  have fin : ∀ {d : D} {ε' : En} {As' : Ass} {σ' : L2.St} {H' : Hp} {v : V} {cr : CR}, cr = ioD d (gt ε' 0) → (match cr with
      | .okio d l' => ∃ es, l' = .lst es ∧ ∀ v H' ys, (∀ b o, H b = some o → b ≠ p → H' b = some o) → H' p = some (.lst ys) → Iss K fa H' (fun a => Oc a ∨ a = p) ys es → Is K fa H' (fun a => Oc a ∨ a = p) v d → Q v H'
      | _ => False) → FI ⟨K, fa, ex, Oc, H, some p⟩ ε' As' [] σ' H' → IsG ⟨K, fa, ex, Oc, H, some p⟩ As' [] H' v d → Q v H' := by
    intro d ε' As' σ' H' v cr hcr hh F' rv
    cases e : gt ε' 0 with
    | own1 x =>
      cases x with
      | lst es =>
        rw [e] at hcr
        subst hcr
        obtain ⟨es', e', hh⟩ := hh
        cases e'
        obtain ⟨p', ys, g1, eA, hp', rr⟩ := F'.own1L e
        have ep : p' = p := F'.own0 p rfl p' (by rw [eA]; exact List.mem_singleton.mpr rfl)
        rw [ep] at eA hp'
        have k2 : Kp (Ow ⟨K, fa, ex, Oc, H, some p⟩ As' []) (fun a => Oc a ∨ a = p) H' H' := ⟨fun _ _ e _ => e, fun b _ _ z => by
          rcases z with z | z
          · exact .inl z
          · exact .inr (.inl ⟨0, by rw [eA, z]; exact List.mem_singleton.mpr rfl⟩)⟩
        exact hh v H' ys (fun b o e n => F'.same b o e (fun z => n (by cases z; rfl))) hp' (rr.keep F'.om k2) (Is.keep F'.om k2 rv)
      | _ => rw [e] at hcr; subst hcr; exact hh.elim
    | _ => rw [e] at hcr; subst hcr; exact hh.elim
  generalize F (enI m (.lst l :: ds)) = r at h
  cases r with
  | bad => exact h.elim
  | exc c ε' => exact h.elim
  | ok f ε' =>
    cases f with
    | nx => exact fun As' σ' H' F' k => fin (cr := bodyI (.ok .nx ε')) rfl h F' .non
    | rt d => exact fun As' σ' H' F' k v rv => fin (cr := bodyI (.ok (.rt d) ε')) rfl h F' rv
    | _ => exact h.elim
end
end Ev
set_option Elab.async false
set_option linter.all false
set_option maxRecDepth 100000
set_option maxHeartbeats 1000000
namespace Ev
open PySem PySem.Spec PyProof.Rows L2

structure Cal (tb : List FD) (fa : FAd) (ex : Nat → Addr) (P : Program) (w : World) (K : PySem.W.Frag) (mg : Str → Option Value) (base : Heap) (k i : Nat) (d : FD) : Prop where
  ok : ∃ fA fd ps, ps.length = d.n ∧ FnOk P w K mg base (L2.CX P w) k fA fd ps (spK d.kind K fa ex ps.length (callN tb k i)) ∧ mg d.name = some (.ref fA) ∧ fa i = some fA ∧ PySem.W.keepIn K (.ref fA) = true ∧ Binds K fd ps []
def AllCal (tb : List FD) (fa : FAd) (ex : Nat → Addr) (P : Program) (w : World) (K : PySem.W.Frag) (mg : Str → Option Value) (base : Heap) (k : Nat) : Prop := ∀ i d, tb[i]? = some d → Cal tb fa ex P w K mg base k i d
abbrev cxd (P : Program) (w : World) (K : PySem.W.Frag) (mg : Str → Option Value) (base : Heap) (N : List Str) (x : Str) (sc : Scope) (f : Addr) (cdv : Value) (A : Around) (outer : List Env) (s : Shared) (H : Hp) (E : XK) : Cx := cxOf (L2.CX P w) P w K mg base N x sc f cdv A outer s H E
structure DefOk (tb : List FD) (fa : FAd) (ex : Nat → Addr) (P : Program) (w : World) (K : PySem.W.Frag) (mg : Str → Option Value) (base : Heap) (i : Nat) (d : FD) : Prop where
  ok : ∃ fA fd N ps params body scope, FunD K d.name d.name params body scope [] [] fA fd ∧ FnScope N ps scope ∧ ps.length = d.n ∧ N.length = d.m ∧ mg d.name = some (.ref fA) ∧ fa i = some fA ∧ Binds K fd ps [] ∧
    ∀ k, AllCal tb fa ex P w K mg base k → ∀ (cdv : Value) (A : Around) (outer : List Env) (s : Shared) (H : Hp) (E : XK) (Oc : Addr → Prop) (G : Hp) (io : Option Addr), Room k (A.deeper (envOfC d.name scope s.heap.objs.size fA cdv)) →
      PSs (cxd P w K mg base N d.name scope fA cdv A outer s H E) body (tS ⟨K, fa, ex, Oc, G, io⟩ (fun cls d _ H => E cls d H) (d.body (callN tb k)))
theorem run_len {d : FD} {cl : Cl} {ds : List D} (h : runD d cl ds ≠ .bad) : ds.length = d.n := by
  with_unfolding_all
    unfold runD at h
    by_cases e : ds.length = d.n
    · exact e
    · rw [if_neg e] at h; exact absurd rfl h
theorem fn_step {tb : List FD} {fa : FAd} {ex : Nat → Addr} {P : Program} {w : World} {K : PySem.W.Frag} {mg : Str → Option Value} {base : Heap} {k i : Nat} {d : FD} {N ps : List Str} {params : Arguments} {body : List Stmt} {scope : Scope} {fA : Addr} {fd : FuncData}
    (F : FunD K d.name d.name params body scope [] [] fA fd) (S : FnScope N ps scope) (h1 : ps.length = d.n) (h2 : N.length = d.m) (e : tb[i]? = some d)
    (B : ∀ (cdv : Value) (A : Around) (outer : List Env) (s : Shared) (H : Hp) (E : XK) (Oc : Addr → Prop) (G : Hp) (io : Option Addr), Room k (A.deeper (envOfC d.name scope s.heap.objs.size fA cdv)) →
      PSs (cxd P w K mg base N d.name scope fA cdv A outer s H E) body (tS ⟨K, fa, ex, Oc, G, io⟩ (fun cls d _ H => E cls d H) (d.body (callN tb k)))) :
    FnOk P w K mg base (L2.CX P w) (k + 1) fA fd ps (spK d.kind K fa ex ps.length (callN tb (k + 1) i)) := by
  with_unfolding_all
    have hm : d.n ≤ d.m := by
      rw [← h1, ← h2]
      have := congrArg List.length S.pre
      rw [List.length_take] at this; omega
    refine F.ok S (fun vs H Q E q => spK_len q) (fun cdv A outer s H vs Q E hr hsp => ?_)
    have B := B cdv A outer s H E
    have ef : callN tb (k + 1) i = runD d (callN tb k) := by
      funext ds
      show (match tb[i]? with | some d => runD d (callN tb k) ds | none => .bad) = _
      rw [e]
    rw [ef, h1] at hsp
    obtain ⟨nm, n, m, kind, bd⟩ := d
    match kind, hsp with
    | 0, hsp =>
      obtain ⟨Oc, q⟩ := pure_ok (N := N) (m := m) (F := bd (callN tb k)) (n := n) h2 hm (by funext ds; rfl) hsp
      exact ⟨_, B Oc H none hr, q⟩
    | 1, hsp =>
      obtain ⟨Oc, q⟩ := fresh_ok (N := N) (m := m) (F := bd (callN tb k)) (n := n) h2 hm (by funext ds; rfl) hsp
      exact ⟨_, B Oc H none hr, q⟩
    | _ + 2, hsp =>
      obtain ⟨Oc, p, q⟩ := io_ok (N := N) (m := m) (F := bd (callN tb k)) (n := n) h2 hm (by funext ds; rfl) hsp
      exact ⟨_, B Oc H (some p) hr, q⟩
theorem all_ok {tb : List FD} {fa : FAd} {ex : Nat → Addr} {P : Program} {w : World} {K : PySem.W.Frag} {mg : Str → Option Value} {base : Heap} (h : ∀ i d, tb[i]? = some d → DefOk tb fa ex P w K mg base i d) : ∀ k, AllCal tb fa ex P w K mg base k
  | 0 => fun i d e => by
    obtain ⟨fA, fd, N, ps, params, body, scope, F, S, h1, h2, h3, h4, h5, _⟩ := (h i d e).ok
    refine ⟨fA, fd, ps, h1, ⟨fun vs H Q E q => spK_len q, fun A outer s H args us vs Q E hr e0 hb r hsp => False.elim ?_⟩, h3, h4, F.kp, h5⟩
    generalize d.kind = kd at hsp
    match kd, hsp with
    | 0, hsp => obtain ⟨_, Oc, ds, om, r, q⟩ := hsp; exact q
    | 1, hsp => obtain ⟨_, Oc, ds, om, r, q⟩ := hsp; exact q
    | _ + 2, hsp => obtain ⟨_, Oc, p, xs, vs', l, ds, _, _, _, _, _, _, q⟩ := hsp; exact q
  | k + 1 => fun i d e => by
    have ih := all_ok h k
    obtain ⟨fA, fd, N, ps, params, body, scope, F, S, h1, h2, h3, h4, h5, hb⟩ := (h i d e).ok
    exact ⟨fA, fd, ps, h1, fn_step F S h1 h2 e (hb k ih), h3, h4, F.kp, h5⟩

def LenD (Ds : En → R (List D)) (n : Nat) : Prop := ∀ ε ds ε', Ds ε = .ok ds ε' → ds.length = n
structure PD (X : Cx) (es : List Expr) (g : Gx) (W : WX) (Ds : En → R (List D)) : Prop where
  pa : PA X es (tD g W Ds)
  len : LenD Ds es.length
section
variable {k : Nat} {X : Cx} {g : Gx} {W : WX} {a b c' e : Expr} {es : List Expr} {Fa Fb Fc : En → R D} {Ga Gb Gc : En → R Arg} {Ds : En → R (List D)} {Gs : En → R (List Arg)} {pos pos' : Pos}
theorem D_nil : PD X [] g W dN := by
  with_unfolding_all exact ⟨d_nil, fun ε ds ε' e => by cases e; rfl⟩
theorem bind_ok {α β : Type} {r : R α} {f : α → En → R β} {b : β} {ε' : En} (h : r.bind f = .ok b ε') : ∃ a ε1, r = .ok a ε1 ∧ f a ε1 = .ok b ε' := by
  with_unfolding_all
    cases r with
    | ok a ε1 => exact ⟨a, ε1, rfl, h⟩
    | exc c ε1 => cases h
    | bad => cases h
theorem D_cons (ha : PE X a (tE g W Fa)) (hr : PD X es g W Ds) (hs : starEach (a :: es) X.env = (false, eval a X.env) :: starEach es X.env) : PD X (a :: es) g W (dC Fa Ds) := by
  with_unfolding_all exact ⟨d_cons ha hr.pa hs, fun ε ds ε' e => by
      obtain ⟨d, ε1, _, e⟩ := bind_ok e
      obtain ⟨ds', ε2, h2, e⟩ := bind_ok e
      cases e
      rw [List.length_cons, hr.len _ _ _ h2]; rfl⟩
theorem A_nil : PA X [] (tGs g W gN) := by
  with_unfolding_all exact g_nil
theorem A_cons (ha : PE X a (tG g W Ga)) (hr : PA X es (tGs g W Gs)) (hs : starEach (a :: es) X.env = (false, eval a X.env) :: starEach es X.env) : PA X (a :: es) (tGs g W (gC Ga Gs)) := by
  with_unfolding_all exact g_cons ha hr hs
theorem E_blt {x : Str} {id : String} {p : P} {pp : Pos} (c : Cc k X g W) (hc : CallR X (.builtin id) (rP X.K p)) (hg : Gl X x) (hm : X.mg x = none) (hv : bootBuiltins x = some (.builtin id)) (ha : PA X (a :: es) (tGs g W Gs)) (hn : x ≠ "__name__") (hdb : (x == ("__debug__" : Str)) = false)
    (he : starEach (a :: es) X.env = (false, eval a X.env) :: starEach es X.env) (hpl : (backTo pos (starEach es X.env)).any (·.1) = false) : PE X (.Call (.Name x pp) (a :: es) [] pos) (tE g W (oG p Gs)) := by
  with_unfolding_all exact e_callB (by rw [c.hK]; exact hc) hg hm hv ha hn hdb he hpl
theorem E_ty {x : Str} {Ty : String} {p : P} {pp : Pos} (c : Cc k X g W) (hc : CallR X (.type Ty) (rP X.K p)) (hg : Gl X x) (hm : X.mg x = none) (hv : bootBuiltins x = some (.type Ty)) (ha : PA X (a :: es) (tGs g W Gs)) (hn : x ≠ "__name__") (hdb : (x == ("__debug__" : Str)) = false)
    (he : starEach (a :: es) X.env = (false, eval a X.env) :: starEach es X.env) (hpl : (backTo pos (starEach es X.env)).any (·.1) = false) : PE X (.Call (.Name x pp) (a :: es) [] pos) (tE g W (oG p Gs)) := by
  with_unfolding_all exact e_callTy (by rw [c.hK]; exact hc) hg hm hv ha hn hdb he hpl
variable {tb : List FD} {i : Nat} {d : FD}
theorem E_call {pp : Pos} {x : Str} (c : Cc k X g W) (h : Cal tb g.fa g.ex X.prog X.w X.K X.mg X.base k i d) (hx : d.name = x) (hk : d.kind = 0) (hg : Gl X x) (ha : PD X (a :: es) g W Ds) (hl : d.n = es.length + 1) (hdb : (x == ("__debug__" : Str)) = false)
    (he : starEach (a :: es) X.env = (false, eval a X.env) :: starEach es X.env) (hpl : (backTo pos (starEach es X.env)).any (·.1) = false) : PE X (.Call (.Name x pp) (a :: es) [] pos) (tE g W (clR (callN tb k) i Ds)) := by
  with_unfolding_all
    obtain ⟨fA, fd, ps, h1, F, h2, _, h3, h4⟩ := h.ok
    rw [hk] at F
    subst hx
    exact e_call (by rw [c.hK]; exact F) c.room hg h2 h3 h4 c.tk (h1.trans hl) ha.len ha.pa hdb he hpl
theorem O_call {pp : Pos} {x : Str} (c : Cc k X g W) (h : Cal tb g.fa g.ex X.prog X.w X.K X.mg X.base k i d) (hx : d.name = x) (hk : d.kind = 1) (hg : Gl X x) (ha : PD X (a :: es) g W Ds) (hl : d.n = es.length + 1) (hdb : (x == ("__debug__" : Str)) = false)
    (he : starEach (a :: es) X.env = (false, eval a X.env) :: starEach es X.env) (hpl : (backTo pos (starEach es X.env)).any (·.1) = false) : PE X (.Call (.Name x pp) (a :: es) [] pos) (tO g W (clfR (callN tb k) i Ds)) := by
  with_unfolding_all
    obtain ⟨fA, fd, ps, h1, F, h2, _, h3, h4⟩ := h.ok
    rw [hk] at F
    subst hx
    exact eo_call (by rw [c.hK]; exact F) c.room hg h2 h3 h4 c.tk (h1.trans hl) ha.len ha.pa hdb he hpl
theorem E_callio {pp pz : Pos} {x z : Str} {j : Nat} (c : Cc k X g W) (h : Cal tb g.fa g.ex X.prog X.w X.K X.mg X.base k i d) (hx : d.name = x) (hk : d.kind = 2) (hg : Gl X x) (hN : X.N[j]? = some z) (hv : Vis X.env.scope z) (hd : (z == ("__debug__" : Str)) = false) (hcd : (z == ("__classdict__" : Str)) = false)
    (ha : PD X es g W Ds) (hl : d.n = es.length + 1) (hdb : (x == ("__debug__" : Str)) = false)
    (he : starEach (.Name z pz :: es) X.env = (false, eval (.Name z pz) X.env) :: starEach es X.env) (hpl : (backTo pos (starEach es X.env)).any (·.1) = false) : PE X (.Call (.Name x pp) (.Name z pz :: es) [] pos) (tE g W (clioR (callN tb k) i j Ds)) := by
  with_unfolding_all
    obtain ⟨fA, fd, ps, h1, F, h2, _, h3, h4⟩ := h.ok
    rw [hk] at F
    subst hx
    exact e_callio (by rw [c.hK]; exact F) c.room hg h2 h3 h4 c.tk (h1.trans hl) ha.len hN hv hd hcd ha.pa hdb he hpl
theorem E_pop {x : Str} {p apos cpos : Pos} {i : Nat} (hN : X.N[i]? = some x) (hv : Vis X.env.scope x) (hd : (x == ("__debug__" : Str)) = false) (hcd : (x == ("__classdict__" : Str)) = false)
    (hbase : attributeBase (.Name x p) "pop" X.env (eval (.Name x p) X.env) = eval (.Name x p) X.env) (hline : (apos.endLine == cpos.line) = true) :
    PE X (.Call (.Attribute (.Name x p) "pop" apos) [] [] cpos) (tE g W (popR i)) := by
  with_unfolding_all
    rw [← popR_eq (cl := fun _ _ => .bad)]
    exact e_pop _ hN hv hd hcd hbase hline
theorem E_get1 {apos cpos : Pos} (c : Cc k X g W) (ha : PE X a (tG g W Ga)) (hb : PE X b (tE g W Fb)) (m : M1 X a "get" apos b cpos) : PE X (.Call (.Attribute a "get" apos) [b] [] cpos) (tE g W (get1R Ga Fb)) := by
  with_unfolding_all exact e_get1 c.un1 ha hb m
theorem E_get2 {apos cpos : Pos} (c : Cc k X g W) (ha : PE X a (tG g W Ga)) (hb : PE X b (tE g W Fb)) (hc : PE X c' (tE g W Fc)) (m : M2 X a "get" apos b c' cpos) : PE X (.Call (.Attribute a "get" apos) [b, c'] [] cpos) (tE g W (get2R Ga Fb Fc)) := by
  with_unfolding_all exact e_get2 c.un1 ha hb hc m
theorem E_dct1T (c : Cc k X g W) (ha : PE X a (tE g W Fa)) (hb : PE X b (tE g W Fb)) : PE X (.Dict [some a] [b] pos) (tE g W (dct1R true Fa Fb)) := by
  with_unfolding_all exact e_dct1T c.un1 ha hb
theorem E_dct1K (ha : PE X a (tE g W Fa)) (hb : PE X b (tE g W Fb)) : PE X (.Dict [some a] [b] pos) (tE g W (dct1R false Fa Fb)) := by
  with_unfolding_all exact e_dct1K ha hb
variable {G Gt : En → R Bool} {rest : List Expr}
theorem T_val (h : PE X a (tE g W Fa)) (he : ∀ whole, isTrue a X.env whole = (do let v ← whole; standAt a.pos; holding [v] (truthy v))) : PT X a (tT g W (tB Fa)) := by
  with_unfolding_all exact t_of h he
theorem T_w (h : PW X a (tT g W G)) : PT X a (tT g W G) := by
  with_unfolding_all exact h.pt
theorem W_and1 (ha : PT X a (tT g W G)) : PW X (.BoolOp .And [a] pos) (tT g W G) := by
  with_unfolding_all exact t_and1 ha
theorem W_or1 (ha : PT X a (tT g W G)) : PW X (.BoolOp .Or [a] pos) (tT g W G) := by
  with_unfolding_all exact t_or1 ha
theorem W_and (ha : PT X a (tT g W G)) (hb : PW X (.BoolOp .And (b :: rest) pos) (tT g W Gt)) : PW X (.BoolOp .And (a :: b :: rest) pos) (tT g W (tAnd G Gt)) := by
  with_unfolding_all exact t_and ha hb
theorem W_or (ha : PT X a (tT g W G)) (hb : PW X (.BoolOp .Or (b :: rest) pos) (tT g W Gt)) : PW X (.BoolOp .Or (a :: b :: rest) pos) (tT g W (tOr G Gt)) := by
  with_unfolding_all exact t_or ha hb
theorem T_not (ha : PT X a (tT g W G)) : PT X (.UnaryOp .Not a pos) (tT g W (tNot G)) := by
  with_unfolding_all exact t_not ha
theorem E_and (ha : PE X a (tE g W Fa)) (hb : PE X (.BoolOp .And (b :: rest) pos) (tE g W Fb)) : PE X (.BoolOp .And (a :: b :: rest) pos) (tE g W (eAnd Fa Fb)) := by
  with_unfolding_all exact e_and ha hb
theorem E_or (ha : PE X a (tE g W Fa)) (hb : PE X (.BoolOp .Or (b :: rest) pos) (tE g W Fb)) : PE X (.BoolOp .Or (a :: b :: rest) pos) (tE g W (eOr Fa Fb)) := by
  with_unfolding_all exact e_or ha hb
theorem E_one {op} (ha : PE X a (tE g W Fa)) : PE X (.BoolOp op [a] pos) (tE g W Fa) := by
  with_unfolding_all exact e_one ha
theorem E_not (ha : PE X a (tE g W Fa)) : PE X (.UnaryOp .Not a pos) (tE g W (eNot Fa)) := by
  with_unfolding_all exact e_not ha
theorem E_if (hc : PT X c' (tT g W G)) (ha : PE X a (tE g W Fa)) (hb : PE X b (tE g W Fb)) : PE X (.IfExp c' a b pos) (tE g W (eIf G Fa Fb)) := by
  with_unfolding_all exact e_ite hc ha hb
variable {elt tgE iter tgE1 iter1 : Expr} {ifs ifs1 : List Expr} {scope : Scope} {own : List (Str × Nat)} {tg tg2 : Tg} {t t2 : En → R Bool} {ee : En → R D} {Fi it : En → R (List D)} {st : Stmt}
theorem E_lc (c : Cc k X g W) (hi : PI X tgE iter (tI g W Fi)) (ok : BlkOk X.N X.env.scope scope own) (sub : ∀ j, j ∈ tg.own → j ∈ own.map (·.2))
    (hg : ∀ (s : Shared) (H : Hp) (C : Addr) (cl : List (Str × Addr)) (fp : List Addr), PG (X.blk s H scope (compEnvC scope cl C X.env) fp) tgE (tTg g tg)) (ht : ∀ (s : Shared) (H : Hp) (C : Addr) (cl : List (Str × Addr)) (fp : List Addr), PTs (X.blk s H scope (compEnvC scope cl C X.env) fp) ifs (tT g W0 t))
    (he : ∀ (s : Shared) (H : Hp) (C : Addr) (cl : List (Str × Addr)) (fp : List Addr), PE (X.blk s H scope (compEnvC scope cl C X.env) fp) elt (tE g W0 ee)) (hs : ∀ x, foldedSetIterable iter X.env x = pure x) :
    PE X (.ListComp elt [⟨tgE, iter, ifs, 0⟩] scope pos) (tE g W (lcE (own.map (·.2)) tg Fi t ee)) := by
  with_unfolding_all exact e_lc c.calm c.nd hi ok sub hg ht he hs
theorem O_lc (c : Cc k X g W) (hi : PI X tgE iter (tI g W Fi)) (ok : BlkOk X.N X.env.scope scope own) (sub : ∀ j, j ∈ tg.own → j ∈ own.map (·.2))
    (hg : ∀ (s : Shared) (H : Hp) (C : Addr) (cl : List (Str × Addr)) (fp : List Addr), PG (X.blk s H scope (compEnvC scope cl C X.env) fp) tgE (tTg g tg)) (ht : ∀ (s : Shared) (H : Hp) (C : Addr) (cl : List (Str × Addr)) (fp : List Addr), PTs (X.blk s H scope (compEnvC scope cl C X.env) fp) ifs (tT g W0 t))
    (he : ∀ (s : Shared) (H : Hp) (C : Addr) (cl : List (Str × Addr)) (fp : List Addr), PE (X.blk s H scope (compEnvC scope cl C X.env) fp) elt (tE g W0 ee)) (hs : ∀ x, foldedSetIterable iter X.env x = pure x) :
    PE X (.ListComp elt [⟨tgE, iter, ifs, 0⟩] scope pos) (tO g W (lcO (own.map (·.2)) tg Fi t ee)) := by
  with_unfolding_all exact eo_lc c.calm c.nd hi ok sub hg ht he hs
theorem E_lc2 (c : Cc k X g W) (hi : PI X tgE iter (tI g W Fi)) (ok : BlkOk X.N X.env.scope scope own) (sub : ∀ j, j ∈ tg.own → j ∈ own.map (·.2)) (sub3 : ∀ j, j ∈ tg2.own → j ∈ own.map (·.2))
    (hg : ∀ (s : Shared) (H : Hp) (C : Addr) (cl : List (Str × Addr)) (fp : List Addr), PG (X.blk s H scope (compEnvC scope cl C X.env) fp) tgE (tTg g tg)) (ht : ∀ (s : Shared) (H : Hp) (C : Addr) (cl : List (Str × Addr)) (fp : List Addr), PTs (X.blk s H scope (compEnvC scope cl C X.env) fp) ifs (tT g W0 t))
    (hi1 : ∀ (s : Shared) (H : Hp) (C : Addr) (cl : List (Str × Addr)) (fp : List Addr), PI (X.blk s H scope (compEnvC scope cl C X.env) fp) tgE1 iter1 (tI g W0 it))
    (hg1 : ∀ (s : Shared) (H : Hp) (C : Addr) (cl : List (Str × Addr)) (fp : List Addr), PG (X.blk s H scope (compEnvC scope cl C X.env) fp) tgE1 (tTg g tg2)) (ht1 : ∀ (s : Shared) (H : Hp) (C : Addr) (cl : List (Str × Addr)) (fp : List Addr), PTs (X.blk s H scope (compEnvC scope cl C X.env) fp) ifs1 (tT g W0 t2))
    (he : ∀ (s : Shared) (H : Hp) (C : Addr) (cl : List (Str × Addr)) (fp : List Addr), PE (X.blk s H scope (compEnvC scope cl C X.env) fp) elt (tE g W0 ee)) (hs : ∀ x, foldedSetIterable iter X.env x = pure x) (hs1 : ∀ env x, foldedSetIterable iter1 env x = pure x) :
    PE X (.ListComp elt [⟨tgE, iter, ifs, 0⟩, ⟨tgE1, iter1, ifs1, 0⟩] scope pos) (tE g W (lc2E (own.map (·.2)) tg Fi t tg2 it t2 ee)) := by
  with_unfolding_all exact e_lc2 c.calm c.nd hi ok sub sub3 hg ht hi1 hg1 ht1 he hs hs1
theorem lcE_imp {os : List Nat} {σ : L2.St} {H : Hp} {Q : VK} (sub : ∀ j, j ∈ tg.own → j ∈ os) (h : tE g W (lcE os tg Fi t ee) σ H Q) : tLc (tI g W Fi) (tTg g tg) (tT g W0 t) (tE g W0 ee) os σ H Q := by
  with_unfolding_all
    obtain ⟨ε, As, T, F, h⟩ := h
    exact lc_main sub ⟨ε, As, T, F, lcQ_of h fun l ε' D As1 As' accV H1 H' hDn F2 hD ra st F3 h1 => lc_val hDn F2 hD ra st h1⟩
theorem lc2E_imp {os : List Nat} {σ : L2.St} {H : Hp} {Q : VK} (sub : ∀ j, j ∈ tg.own → j ∈ os) (sub3 : ∀ j, j ∈ tg2.own → j ∈ os) (h : tE g W (lc2E os tg Fi t tg2 it t2 ee) σ H Q) : tLc2 (tI g W Fi) (tTg g tg) (tT g W0 t) (tI g W0 it) (tTg g tg2) (tT g W0 t2) (tE g W0 ee) os tg2.own σ H Q := by
  with_unfolding_all
    obtain ⟨ε, As, T, F, h⟩ := h
    exact lc2_main sub (fun _ h => h) sub3 ⟨ε, As, T, F, lcQ_of h fun l ε' D As1 As' accV H1 H' hDn F2 hD ra st F3 h1 => lc_val hDn F2 hD ra st h1⟩
theorem oV_imp {σ : L2.St} {H : Hp} {Q : VK} (h : tO g W (oV Fa) σ H Q) : tE g W Fa σ H Q := by
  with_unfolding_all
    obtain ⟨ε, As, T, F, h⟩ := h
    exact ⟨ε, As, T, F, (PstO.bind h).mono fun d ε1 As1 H1 F1 s1 k v r => k As1 H1 v [] F1 .refl (fun _ z => nomatch z) (.val r)⟩
theorem S_lc {y : Str} {py spos : Pos} {j : Nat} (c : Cc k X g W) (hy : X.N[j]? = some y) (hyl : X.env.scope.names.lookup y = some .local)
    (hsw : swapsWith (.ListComp elt [⟨tgE, iter, ifs, 0⟩] scope pos) (some (.Name y py)) spos.line X.env = pure true) (hi : PI X tgE iter (tI g W Fi)) (ok : BlkOk X.N X.env.scope scope own) (sub : ∀ j, j ∈ tg.own → j ∈ own.map (·.2))
    (hg : ∀ (s : Shared) (H : Hp) (C : Addr) (cl : List (Str × Addr)) (fp : List Addr), PG (X.blk s H scope (compEnvC scope cl C X.env) fp) tgE (tTg g tg)) (ht : ∀ (s : Shared) (H : Hp) (C : Addr) (cl : List (Str × Addr)) (fp : List Addr), PTs (X.blk s H scope (compEnvC scope cl C X.env) fp) ifs (tT g W0 t))
    (he : ∀ (s : Shared) (H : Hp) (C : Addr) (cl : List (Str × Addr)) (fp : List Addr), PE (X.blk s H scope (compEnvC scope cl C X.env) fp) elt (tE g W0 ee)) (hs : ∀ x, foldedSetIterable iter X.env x = pure x) :
    PS X (.Assign [.Name y py] (.ListComp elt [⟨tgE, iter, ifs, 0⟩] scope pos) spos) (tS g W (sSet j (oV (lcE (own.map (·.2)) tg Fi t ee)))) := by
  with_unfolding_all exact s_set' hy (ps_setLc c.calm c.nd hy hyl hsw hi ok hg ht he hs) fun σ H Q h => lcE_imp sub (oV_imp h)
theorem S_lc2 {y : Str} {py spos : Pos} {j : Nat} (c : Cc k X g W) (hy : X.N[j]? = some y) (hyl : X.env.scope.names.lookup y = some .local)
    (hsw : swapsWith (.ListComp elt [⟨tgE, iter, ifs, 0⟩, ⟨tgE1, iter1, ifs1, 0⟩] scope pos) (some (.Name y py)) spos.line X.env = pure true) (hi : PI X tgE iter (tI g W Fi)) (ok : BlkOk X.N X.env.scope scope own) (sub : ∀ j, j ∈ tg.own → j ∈ own.map (·.2)) (sub3 : ∀ j, j ∈ tg2.own → j ∈ own.map (·.2))
    (hg : ∀ (s : Shared) (H : Hp) (C : Addr) (cl : List (Str × Addr)) (fp : List Addr), PG (X.blk s H scope (compEnvC scope cl C X.env) fp) tgE (tTg g tg)) (ht : ∀ (s : Shared) (H : Hp) (C : Addr) (cl : List (Str × Addr)) (fp : List Addr), PTs (X.blk s H scope (compEnvC scope cl C X.env) fp) ifs (tT g W0 t))
    (hi1 : ∀ (s : Shared) (H : Hp) (C : Addr) (cl : List (Str × Addr)) (fp : List Addr), PI (X.blk s H scope (compEnvC scope cl C X.env) fp) tgE1 iter1 (tI g W0 it))
    (hg1 : ∀ (s : Shared) (H : Hp) (C : Addr) (cl : List (Str × Addr)) (fp : List Addr), PG (X.blk s H scope (compEnvC scope cl C X.env) fp) tgE1 (tTg g tg2)) (ht1 : ∀ (s : Shared) (H : Hp) (C : Addr) (cl : List (Str × Addr)) (fp : List Addr), PTs (X.blk s H scope (compEnvC scope cl C X.env) fp) ifs1 (tT g W0 t2))
    (he : ∀ (s : Shared) (H : Hp) (C : Addr) (cl : List (Str × Addr)) (fp : List Addr), PE (X.blk s H scope (compEnvC scope cl C X.env) fp) elt (tE g W0 ee)) (hs : ∀ x, foldedSetIterable iter X.env x = pure x) (hs1 : ∀ env x, foldedSetIterable iter1 env x = pure x) :
    PS X (.Assign [.Name y py] (.ListComp elt [⟨tgE, iter, ifs, 0⟩, ⟨tgE1, iter1, ifs1, 0⟩] scope pos) spos) (tS g W (sSet j (oV (lc2E (own.map (·.2)) tg Fi t tg2 it t2 ee)))) := by
  with_unfolding_all exact s_set' hy (ps_setLc2 c.calm c.nd hy hyl hsw hi ok sub3 hg ht hi1 hg1 ht1 he hs hs1) fun σ H Q h => lc2E_imp sub sub3 (oV_imp h)
variable {Fo Fo2 : En → R Sl} {x y : Str} {j : Nat} {Sa Sb : En → R Fl} {sa sb : List Stmt}
theorem O_v (h : PE X e (tE g W Fa)) : PE X e (tO g W (oV Fa)) := by
  with_unfolding_all exact eo_v h
theorem E_tup {x1 : Nat} (ha : PD X es g W Ds) : PE X (.Tuple es x1 pos) (tE g W (oD .tup Ds)) := by
  with_unfolding_all exact e_tup ha.pa
theorem E_lst (ha : PD X es g W Ds) : PE X (.List es pos) (tE g W (oD .lst Ds)) := by
  with_unfolding_all exact e_lst ha.pa
theorem O_lst (ha : PD X es g W Ds) : PE X (.List es pos) (tO g W (oO (oD .lst Ds))) := by
  with_unfolding_all exact eo_lst ha.pa
theorem O_mul (ha : PE X a (tG g W Ga)) (hb : PE X b (tG g W Gb)) : PE X (.BinOp a .Mult b pos) (tO g W (oO (o2 .mul Ga Gb))) := by
  with_unfolding_all exact eo_mul ha hb
theorem O_dnew : PE X (.Dict [] [] pos) (tO g W (oO (oD .dnew dN))) := by
  with_unfolding_all exact eo_dnew
theorem O_dnewT : PE X (.Dict [] [] pos) (tO g W (oO (oD .dnewT dN))) := by
  with_unfolding_all exact eo_dnewT
theorem E_dnew : PE X (.Dict [] [] pos) (tE g W (oD .dnew dN)) := by
  with_unfolding_all exact e_dnew
theorem E_dnewT : PE X (.Dict [] [] pos) (tE g W (oD .dnewT dN)) := by
  with_unfolding_all exact e_dnewT
theorem S_set (c : Cc k X g W) (hi : X.N[i]? = some x) (hx : Loc X.env.scope x) (he : PE X e (tO g W Fo)) (hf : X.fn x = true ∨ X.env.scope.names.lookup x = some .local) (hs : swapsWith e (some (.Name x pos')) pos.line X.env = pure false) :
    PS X (.Assign [.Name x pos'] e pos) (tS g W (sSet i Fo)) := by
  with_unfolding_all exact s_set c.nd hi hx he hs hf
theorem S_unp {tgx : Expr} (he : PE X e (tE g W Fa)) (hg : PG X tgx (tTg g tg)) (hs : swapsWithSole [tgx] e pos.line X.env = pure false) (hw : swappedStores [tgx] e X.env = pure none)
    (h1 : (assignEach [tgx] X.env).map (·.2) = [assign tgx X.env]) : PS X (.Assign [tgx] e pos) (tS g W (sUnp tg Fa)) := by
  with_unfolding_all exact s_unp he hg hs hw h1
theorem S_par {px py pt : Pos} {kt k2 pt2} (c : Cc k X g W) (hi : X.N[i]? = some x) (hj : X.N[j]? = some y) (hij : i ≠ j) (hx : X.env.scope.names.lookup x = some .local) (hy : X.env.scope.names.lookup y = some .local) (ha : PE X a (tO g W Fo)) (hb : PE X b (tO g W Fo2))
    (hw : swappedStores [.Tuple [.Name x px, .Name y py] kt pt] (.Tuple [a, b] k2 pt2) X.env = pure (some [x, y])) (hse : starEach [a, b] X.env = (false, eval a X.env) :: starEach [b] X.env) (hse2 : starEach [b] X.env = (false, eval b X.env) :: starEach [] X.env)
    (hs : swapsWithSole [.Tuple [.Name x px, .Name y py] kt pt] (.Tuple [a, b] k2 pt2) pos.line X.env = pure false) :
    PS X (.Assign [.Tuple [.Name x px, .Name y py] kt pt] (.Tuple [a, b] k2 pt2) pos) (tS g W (sPar i j Fo Fo2)) := by
  with_unfolding_all exact s_par c.calm c.nd hi hj hij hx hy ha hb hse hse2 hw hs
theorem S_for (c : Cc k X g W) (hp : PassesOwn (model X.prog X.w) X.A X.env X.xe) (hi : PI X tgE iter (tI g W Fi)) (hg : PG X tgE (tTg g tg)) (hb : PSs X sb (tS g W Sb)) (hs : ∀ x, foldedSetIterable iter X.env x = pure x) :
    PS X (.For tgE iter sb [] pos) (tS g W (sFor tg Fi Sb)) := by
  with_unfolding_all exact s_for hp c.calm hi hg hb hs
theorem S_if (hc : PT X c' (tT g W G)) (ha : PSs X sa (tS g W Sa)) (hb : PSs X sb (tS g W Sb)) : PS X (.If c' sa sb pos) (tS g W (sIf G Sa Sb)) := by
  with_unfolding_all exact s_if hc ha hb
theorem SS_nil : PSs X [] (tS g W (sEnd .nx)) := by
  with_unfolding_all exact ss_nil
theorem SS_cons (h1 : PS X st (tS g W Sa)) (h2 : PSs X sb (tS g W Sb)) : PSs X (st :: sb) (tS g W (sSeq Sa Sb)) := by
  with_unfolding_all exact ss_cons h1 h2
theorem SS_one (h1 : PS X st (tS g W Sa)) : PSs X [st] (tS g W Sa) := by
  with_unfolding_all exact PSs.imp (pss_one h1) fun D σ H h => h
theorem I_seq (c : Cc k X g W) (ha : PE X a (tE g W Fa)) : PI X tgE a (tI g W (itE .seq (d1 Fa))) := by
  with_unfolding_all exact i_seq ha c.hK
theorem I_r1 {p : Pos} (hg : Gl X "range") (hm : X.mg "range" = none) (ha : PD X [a] g W Ds) (hs : starEach [a] X.env = [(false, eval a X.env)]) : PI X tgE (.Call (.Name "range" p) [a] [] pos) (tI g W (itE .rng1 Ds)) := by
  with_unfolding_all exact i_rng1 hg hm ha.pa hs
theorem I_r2 {p : Pos} (hg : Gl X "range") (hm : X.mg "range" = none) (ha : PD X [a, b] g W Ds) (hs : starEach [a, b] X.env = [(false, eval a X.env), (false, eval b X.env)]) (hs2 : starEach [b] X.env = [(false, eval b X.env)]) : PI X tgE (.Call (.Name "range" p) [a, b] [] pos) (tI g W (itE .rng2 Ds)) := by
  with_unfolding_all exact i_rng2 hg hm ha.pa hs hs2
theorem I_r3 {p : Pos} (hg : Gl X "range") (hm : X.mg "range" = none) (ha : PD X [a, b, c'] g W Ds) (hs : starEach [a, b, c'] X.env = (false, eval a X.env) :: starEach [b, c'] X.env) (hpl : (backTo pos (starEach [b, c'] X.env)).any (·.1) = false) : PI X tgE (.Call (.Name "range" p) [a, b, c'] [] pos) (tI g W (itE .rng3 Ds)) := by
  with_unfolding_all exact i_rng3 hg hm ha.pa hs hpl
end
end Ev
set_option Elab.async false
set_option linter.all false
set_option maxRecDepth 100000
set_option maxHeartbeats 1000000
namespace Ev
open PySem PySem.Spec PyProof.Rows L2
section
variable {P : Program} {w : World} {K : PySem.W.Frag} {mg : Str → Option Value} {base : Heap} {N : List Str} {x : Str} {sc : Scope} {f : Addr} {cdv : Value} {A : Around} {outer : List Env} {s : Shared} {H : Hp} {E : XK} {fa : FAd} {ex : Nat → Addr} {Oc : Addr → Prop} {G : Hp} {io : Option Addr} {k : Nat}
theorem ccd (hr : Room k (A.deeper (envOfC x sc s.heap.objs.size f cdv))) (hN : N.Nodup) : Cc k (cxd P w K mg base N x sc f cdv A outer s H E) ⟨K, fa, ex, Oc, G, io⟩ (fun cls d _ H => E cls d H) := by
  with_unfolding_all exact ⟨rfl, rfl, hr, L2.takes_of rfl rfl rfl rfl, hN⟩
theorem hpd : PassesOwn (model (cxd P w K mg base N x sc f cdv A outer s H E).prog (cxd P w K mg base N x sc f cdv A outer s H E).w) (cxd P w K mg base N x sc f cdv A outer s H E).A (cxd P w K mg base N x sc f cdv A outer s H E).env (cxd P w K mg base N x sc f cdv A outer s H E).xe := by
  with_unfolding_all exact L2.passes_of rfl
end
section
variable {k : Nat} {X : Cx} {g : Gx} {W : WX} {a b c' e : Expr} {Fa Fb Fk Fv : En → R D} {pos pos' : Pos} {x : Str} {i : Nat} {Gt : En → R Bool} {Sb : En → R Fl} {sb : List Stmt}
theorem S_put {kx : Expr} {px : Pos} (c : Cc k X g W) (hN : X.N[i]? = some x) (hv : Vis X.env.scope x) (hd : (x == ("__debug__" : Str)) = false) (hcd : (x == ("__classdict__" : Str)) = false) (hk : PE X kx (tE g W Fk)) (he : PE X e (tE g W Fv))
    (ha : ∀ v, assign (.Subscript (.Name x px) kx pos') X.env v = (do
      let ov ← holding [v] (eval (.Name x px) X.env)
      let iv ← holding [v, ov] (eval kx X.env)
      standAt pos'
      holding [v, ov, iv] (setItem ov iv v)
      release [v, ov, iv] []))
    (hs : swapsWithSole [.Subscript (.Name x px) kx pos'] e pos.line X.env = pure false) (hw : swappedStores [.Subscript (.Name x px) kx pos'] e X.env = pure none)
    (h1 : (assignEach [.Subscript (.Name x px) kx pos'] X.env).map (·.2) = [assign (.Subscript (.Name x px) kx pos') X.env]) :
    PS X (.Assign [.Subscript (.Name x px) kx pos'] e pos) (tS g W (sPut i Fk Fv)) := by
  with_unfolding_all exact s_put c.un1 hN hv hd hcd hk he ha hs hw h1
theorem S_augAdd (c : Cc k X g W) (hi : X.N[i]? = some x) (hx : Loc X.env.scope x) (he : PE X e (tE g W Fa)) (hf : X.fn x = true ∨ X.env.scope.names.lookup x = some .local) : PS X (.AugAssign (.Name x pos') .Add e pos) (tS g W (augR i .add Fa)) := by
  with_unfolding_all exact s_aug ip_add (fun a d z h => aug_add h) c.nd hi hx he hf
theorem S_augSub (c : Cc k X g W) (hi : X.N[i]? = some x) (hx : Loc X.env.scope x) (he : PE X e (tE g W Fa)) (hf : X.fn x = true ∨ X.env.scope.names.lookup x = some .local) : PS X (.AugAssign (.Name x pos') .Sub e pos) (tS g W (augR i .sub Fa)) := by
  with_unfolding_all exact s_aug ip_sub (fun a d z h => aug_sub h) c.nd hi hx he hf
theorem S_wh (hp : PassesOwn (model X.prog X.w) X.A X.env X.xe) (hc : PT X c' (tT g W Gt)) (hb : PSs X sb (tS g W Sb)) : PS X (.While c' sb [] pos) (tS g W (sWh Gt Sb)) := by
  with_unfolding_all exact s_wh hp fuel hc hb
structure ExcOk (K : PySem.W.Frag) (mg : Str → Option Value) (x : Str) (C : Addr) : Prop where
  ok : ∃ (bmB : List Value) (B newId initId : String), ExcBaseFacts B newId initId bmB ∧ PySem.W.excIn K C bmB newId = true
  gC : mg x = some (.ref C)
  kC : PySem.W.keepIn K (.ref C) = true
  s1 : PySem.W.subIn K (.ref C) (.type "BaseException") = some true
  s2 : PySem.W.typeIn K (.ref C) = some (.type "type")
theorem S_raise {m : Str} {kk c : Nat} {p p2 pos2 : Pos} (cc : Cc k X g W) (h : ExcOk X.K X.mg x (g.ex c)) (hg : Gl X x) (hdb : (x == ("__debug__" : Str)) = false) : PS X (.Raise (some (.Call (.Name x p) [.Constant (.str m) kk p2] [] pos2)) none pos) (tS g W (sRaise c)) := by
  with_unfolding_all
    obtain ⟨bmB, B, n, i, F, q⟩ := h.ok
    exact s_raise cc.calm cc.tk F q h.gC h.kC (raises_own h.s1 h.s2) hg hdb rfl
end
end Ev
set_option Elab.async false
set_option linter.all false
set_option maxRecDepth 100000
set_option maxHeartbeats 1000000
namespace Ev
open PySem PySem.Spec PyProof.Rows L2
@[irreducible] def sYes : En → R Bool := fun ε => .ok true ε
section
variable {k : Nat} {X : Cx} {g : Gx} {W : WX} {a b c' e : Expr} {Fa Fb Fk Fv : En → R D} {Ga Gb : En → R Arg} {pos pos' : Pos} {x : Str} {i : Nat} {Gt : En → R Bool} {Sb : En → R Fl} {sb : List Stmt} {Gs : En → R (List Arg)} {Ds : En → R (List D)}
theorem m1_of {o e : Expr} {m : Str} {apos cpos : Pos} (base : attributeBase o m X.env (eval o X.env) = eval o X.env)
    (few : ((backTo cpos (starEach [e] X.env)).all (fun x => !x.1) && (backToKw cpos (keywordEach [] X.env)).all (fun x => x.1.isSome)
    && decide (([e] : List Expr).length + ([] : List Keyword).length + (if ([] : List Keyword).isEmpty then 0 else 1) < 30)) = true)
    (line : (apos.endLine == cpos.line) = true) (trees : backTo cpos (starEach [e] X.env) = [(false, eval e X.env)]) : M1 X o m apos e cpos := by
  with_unfolding_all exact ⟨base, few, line, trees⟩
theorem m2_of {o e f : Expr} {m : Str} {apos cpos : Pos} (base : attributeBase o m X.env (eval o X.env) = eval o X.env)
    (few : ((backTo cpos (starEach [e, f] X.env)).all (fun x => !x.1) && (backToKw cpos (keywordEach [] X.env)).all (fun x => x.1.isSome)
    && decide (([e, f] : List Expr).length + ([] : List Keyword).length + (if ([] : List Keyword).isEmpty then 0 else 1) < 30)) = true)
    (line : (apos.endLine == cpos.line) = true) (trees : backTo cpos (starEach [e, f] X.env) = [(false, eval e X.env), (false, eval f X.env)]) : M2 X o m apos e f cpos := by
  with_unfolding_all exact ⟨base, few, line, trees⟩
theorem E_ix2 {p p2 : Pos} (c : Cc k X g W) (hN : X.N[i]? = some x) (hv : Vis X.env.scope x) (hd : (x == ("__debug__" : Str)) = false) (hcd : (x == ("__classdict__" : Str)) = false) (ha : PE X a (tE g W Fa)) (hb : PE X b (tE g W Fb)) (hsa : PlainIx a) (hsb : PlainIx b) :
    PE X (.Subscript (.Subscript (.Name x p) a p2) b pos) (tE g W (ix2R i Fa Fb)) := by
  with_unfolding_all exact e_ix2 hN hv hd hcd ha hb hsa hsb c.hK
variable {t : Tg} {st : Stmt} {is : List Nat} {es : List Expr}
theorem Tgs_cons (h1 : PG X e (tTg g (.nm i))) (h2 : PGs X es (tTgs g is)) (hs : (assignEach (e :: es) X.env).map (·.2) = assign e X.env :: (assignEach es X.env).map (·.2)) : PGs X (e :: es) (tTgs g (i :: is)) := by
  with_unfolding_all exact tgs_cons h1 h2 hs
theorem Tg_tp {kk n : Nat} (c : Cc k X g W) (h : PGs X es (tTgs g is)) (hl : is.length = n) (hn : (assignEach es X.env).length = n) (hst : (assignEach es X.env).findIdx? (·.1) = none) : PG X (.Tuple es kk pos) (tTg g (.tp is)) := by
  with_unfolding_all exact tg_tp c.calm h c.hK hl hn hst
variable {Fo : En → R Sl}
theorem S_ret (he : PE X e (tE g W Fa)) : PS X (.Return (some e) pos) (tS g W (sRet Fa)) := by
  with_unfolding_all exact s_ret he
theorem S_retf (he : PE X e (tO g W Fo)) : PS X (.Return (some e) pos) (tS g W (sRetf Fo)) := by
  with_unfolding_all exact s_retf he
theorem S_ret0 : PS X (.Return none pos) (tS g W (sEnd (.rt .non))) := by
  with_unfolding_all exact s_ret0
theorem S_pass : PS X (.Pass pos) (tS g W (sEnd .nx)) := by
  with_unfolding_all exact s_pass
theorem S_brk : PS X (.Break pos) (tS g W (sEnd .bk)) := by
  with_unfolding_all exact s_brk
theorem S_cnt : PS X (.Continue pos) (tS g W (sEnd .ct)) := by
  with_unfolding_all exact s_cnt
theorem S_doc {kk : Nat} {pos2 : Pos} : PS X (.Expr (.Constant (.str x) kk pos2) pos) (tS g W (sEnd .nx)) := by
  with_unfolding_all exact s_doc
theorem Ts_nil : PTs X [] (tT g W sYes) := by
  with_unfolding_all exact ts_nil
theorem Ts_one {G : En → R Bool} (h : PT X c' (tT g W G)) : PTs X [c'] (tT g W G) := by
  with_unfolding_all exact ts_one h
theorem S_exp (he : PE X e (tE g W Fa)) (hs : swapsWith e none pos.line X.env = pure false) : PS X (.Expr e pos) (tS g W (sExp Fa)) := by
  with_unfolding_all exact s_exp he hs
theorem S_app {px apos : Pos} (hN : X.N[i]? = some x) (hv : Vis X.env.scope x) (hd : (x == ("__debug__" : Str)) = false) (hcd : (x == ("__classdict__" : Str)) = false) (he : PE X e (tE g W Fa))
    (hbase : attributeBase (.Name x px) "append" X.env (eval (.Name x px) X.env) = eval (.Name x px) X.env)
    (hfew : ((backTo pos' (starEach [e] X.env)).all (fun x => !x.1) && (backToKw pos' (keywordEach [] X.env)).all (fun x => x.1.isSome)
      && decide ([e].length + ([] : List Keyword).length + (if ([] : List Keyword).isEmpty then 0 else 1) < 30)) = true)
    (hline : (apos.endLine == pos'.line) = true) (hs : starEach [e] X.env = (false, eval e X.env) :: starEach [] X.env) (hplain : (backTo pos' (starEach [] X.env)).any (·.1) = false)
    (hsw : swapsWith (.Call (.Attribute (.Name x px) "append" apos) [e] [] pos') none pos.line X.env = pure false) :
    PS X (.Expr (.Call (.Attribute (.Name x px) "append" apos) [e] [] pos') pos) (tS g W (appR i Fa)) := by
  with_unfolding_all exact s_app hN hv hd hcd he hbase hfew hline hs hplain hsw
end
end Ev
set_option Elab.async false
set_option linter.all false
set_option maxRecDepth 100000
set_option maxHeartbeats 1000000
namespace Ev
open PySem PySem.Spec PyProof.Rows L2

def pairV (H : Hp) (v : V) : Int × Int := match v with
  | .ref b => (match H b with
    | some (.tup [.int i, .int j]) => (i, j)
    | _ => (0, 0))
  | _ => (0, 0)
theorem leP_lex (p q : Int × Int) : leP p q = !(SrtO.lexB q p) := by
  cases h : SrtO.lexB q p with
  | true =>
    have h := SrtO.lexB_iff.mp h
    unfold leP
    have e1 : decide (p.1 < q.1) = false := decide_eq_false (by omega)
    rw [e1]
    by_cases e : p.1 = q.1
    · have e2 : decide (p.2 ≤ q.2) = false := decide_eq_false (by omega)
      rw [e2, Bool.and_false]; rfl
    · have e2 : decide (p.1 = q.1) = false := decide_eq_false e
      rw [e2]; rfl
  | false =>
    have h := SrtO.lexB_no.mp h
    unfold leP
    by_cases e : p.1 < q.1
    · rw [decide_eq_true e]; rfl
    · have e2 : decide (p.1 = q.1) = true := decide_eq_true (by omega)
      have e3 : decide (p.2 ≤ q.2) = true := decide_eq_true (by omega)
      rw [e2, e3, Bool.and_self, Bool.or_true]; rfl
theorem leP_trans (a b c : Int × Int) (h1 : leP a b = true) (h2 : leP b c = true) : leP a c = true := by
  unfold leP at *
  simp only [Bool.or_eq_true, Bool.and_eq_true, decide_eq_true_eq] at *
  omega
theorem leP_total (a b : Int × Int) : (leP a b || leP b a) = true := by
  unfold leP
  simp only [Bool.or_eq_true, Bool.and_eq_true, decide_eq_true_eq]
  omega
theorem leP_anti (a b : Int × Int) (h1 : leP a b = true) (h2 : leP b a = true) : a = b := by
  unfold leP at *
  simp only [Bool.or_eq_true, Bool.and_eq_true, decide_eq_true_eq] at *
  exact Prod.ext (by omega) (by omega)
theorem sort_uniq {l m : List (Int × Int)} (p : l.Perm m) (h : l.Pairwise fun a b => leP a b = true) : l = m.mergeSort leP :=
  List.Perm.eq_of_pairwise (fun a b _ _ h1 h2 => leP_anti a b h1 h2) h (List.pairwise_mergeSort leP_trans leP_total m) (p.trans (List.mergeSort_perm m leP).symm)
section
variable {K : PySem.W.Frag} {fa : FAd} {H : Hp} {O : Addr → Prop}
theorem ist_pairs : ∀ {kvs : List (List Key × V)} {es : List (D × D)} {ps : List (Int × Int)}, Ist K fa H O kvs es → (es.mapM fun e => pairOf e.1) = some ps → kvs.map (·.1) = ps.map fun p => [Sum.inl p.1, Sum.inl p.2]
  | _, _, ps, .nil, h => by
    have h : some ([] : List (Int × Int)) = some ps := h
    cases h; rfl
  | _, _, ps, .cons (k := k) (v := v) (vs := vs) (d := d) (ds := ds) a t, h => by
    rw [List.mapM_cons] at h
    cases e1 : pairOf (D.tup (k.map kD)) with
    | none =>
      have h : (pairOf (D.tup (k.map kD)) >>= fun b => (ds.mapM fun e => pairOf e.1) >>= fun bs => pure (b :: bs)) = some ps := h
      rw [e1] at h; cases h
    | some p =>
      have h : (pairOf (D.tup (k.map kD)) >>= fun b => (ds.mapM fun e => pairOf e.1) >>= fun bs => pure (b :: bs)) = some ps := h
      rw [e1] at h
      cases e2 : ds.mapM fun e => pairOf e.1 with
      | none =>
        have h : ((ds.mapM fun e => pairOf e.1) >>= fun bs => pure (p :: bs)) = some ps := h
        rw [e2] at h; cases h
      | some qs =>
        have h : ((ds.mapM fun e => pairOf e.1) >>= fun bs => pure (p :: bs)) = some ps := h
        rw [e2] at h
        have h : some (p :: qs) = some ps := h
        cases h
        have ih := ist_pairs t e2
        have ek : k = [Sum.inl p.1, Sum.inl p.2] := by
          match k, e1 with
          | [], e1 => cases e1
          | [.inl _], e1 => cases e1
          | [.inr _], e1 => cases e1
          | [.inl i, .inl j], e1 => cases e1; rfl
          | [.inl _, .inr _], e1 => cases e1
          | [.inr _, .inl _], e1 => cases e1
          | [.inr _, .inr _], e1 => cases e1
          | .inl _ :: .inl _ :: _ :: _, e1 => cases e1
          | .inl _ :: .inr _ :: _ :: _, e1 => cases e1
          | .inr _ :: .inl _ :: _ :: _, e1 => cases e1
          | .inr _ :: .inr _ :: _ :: _, e1 => cases e1
        rw [List.map_cons, List.map_cons, ih, ← ek]
end
theorem keys_pairs {H : Hp} : ∀ {kvs : List (List Key × V)} {bs : List Addr} {ps : List (Int × Int)}, IsKeys H kvs bs → (kvs.map (·.1) = ps.map fun p => [Sum.inl p.1, Sum.inl p.2]) → (bs.map fun b => pairV H (.ref b)) = ps ∧ ∀ b ∈ bs, H b = some (.tup [.int (pairV H (.ref b)).1, .int (pairV H (.ref b)).2])
  | _, _, ps, .nil, h => by
    have : ps = [] := by
      cases ps with
      | nil => rfl
      | cons => cases h
    subst this
    exact ⟨rfl, fun _ z => nomatch z⟩
  | _, _, ps, .cons (a := a) (b := b) (l₁ := l₁) (l₂ := l₂) e t, h => by
    cases ps with
    | nil => cases h
    | cons p ps =>
      rw [List.map_cons, List.map_cons] at h
      obtain ⟨h1, h2⟩ := List.cons.inj h
      obtain ⟨i1, i2⟩ := keys_pairs t h2
      have e1 : H b = some (.tup [.int p.1, .int p.2]) := by
        have e : H b = some (.tup (a.1.map kV)) := e
        rw [h1] at e; exact e
      have e2 : pairV H (.ref b) = p := by unfold pairV; simp only [e1]
      refine ⟨by rw [List.map_cons, e2, i1], fun c hc => ?_⟩
      rcases List.mem_cons.mp hc with rfl | hc
      · rw [e2]; exact e1
      · exact i2 c hc
section
variable {X : Cx}
theorem sorted_dT (hc : X.calm = true) : CallR X (.builtin "sorted") (fun xs H Q => ∃ d kvs, ∃ ps : List (Int × Int), xs = [V.ref d] ∧ Rd H d (.dT kvs) ∧ (kvs.map (·.1) = ps.map fun p : Int × Int => [Sum.inl p.1, Sum.inl p.2]) ∧ ∀ p ys, H p = none → (ys.map (pairV H) = ps.mergeSort leP) → (∀ y ∈ ys, ∃ b, y = V.ref b ∧ H b = some (.tup [.int (pairV H y).1, .int (pairV H y).2])) → Q (.ref p) (upd H p (.lst ys))) := by
  intro pins s σ H xs us Q I r h
  obtain ⟨d, kvs, ps, rfl, hd, hk, q⟩ := h
  obtain ⟨u, rfl, rx⟩ := r.one
  cases rx
  obtain ⟨z, hs, ks, pr, o, es, ep, ho, hx, hdt, he, hn⟩ := (show ObjOk X.prog X.w H s.heap d (.dT kvs) from hd.ok I.hok)
  have l1 : es.size = ks.length := size_of_entries he
  have l2 : kvs.length = ks.length := Paired.length pr
  have ik := isKeys_of pr
  obtain ⟨kp1, kp2⟩ := keys_pairs ik hk
  refine Calls.call_function_entry PyProof.Rows.kind_sorted PyProof.Rows.plain_sorted PyProof.Rows.entry_sorted (PyProof.Rows.args_sorted1 _) ?_
  unfold Builtin.«sorted»
  refine wpAny_bind (m := checkCount "sorted" 1 1 _) (wpAny_pure ?_)
  refine wpAny_bind (PySem.W.kdu_collect (A := X.A.in1) (kdl_raw hs hx hdt) (I.ok.hd hc) ho (by omega) fun h' tk acc' kp it => ?_)
  have ea : acc'.toList = ks.map fun x => Value.ref x.2.1 := by
    have hl : acc'.toList.length = ks.length := by rw [Array.length_toList, it.1]; exact l1
    apply List.ext_getElem?
    intro j
    rw [List.getElem?_map]
    cases hj : acc'.toList[j]? with
    | none =>
      have h1 := List.getElem?_eq_none_iff.mp hj
      rw [List.getElem?_eq_none (by omega)]
      all_goals rfl
    | some v =>
      obtain ⟨en, hen, hv⟩ := it.2 j v (by rw [← Array.getElem?_toList]; exact hj)
      have qe := entry_at he j
      rw [hen] at qe
      cases hb : ks[j]? with
      | none =>
        rw [hb] at qe
        exact nomatch (show some en = none from qe)
      | some b =>
        rw [hb] at qe
        have e2 : en = entryOfKey (tupleKind (mixKind X.prog X.w)) b := Option.some.inj qe
        rw [hv, e2]
        all_goals rfl
  generalize hbs : (ks.map fun x => x.2.1) = bs at ik kp1 kp2
  have eb : acc'.toList = bs.map Value.ref := by rw [ea, ← hbs, List.map_map]; all_goals rfl
  have hz : acc'.toList.length ≤ sizeLine := by rw [Array.length_toList, it.1]; omega
  have I1 : Inv X pins σ H { s with heap := h', toks := tk } := I.kept kp
  refine wpAny_bind (wpAny_newList ?_ hz)
  have hoL : (h'.push (seqObj "list" acc'.toList.toArray 0)).get? h'.objs.size = some (seqObj "list" acc'.toList.toArray 0) := Heap.get?_push_size _ rfl
  show wpAny _ _ _ _ _ { s with heap := h'.push (seqObj "list" acc'.toList.toArray 0), toks := tk }
  have hp : ∀ v ∈ acc'.toList, Srt.IsPair (h'.push (seqObj "list" acc'.toList.toArray 0)) v (pairV H (backV v)).1 (pairV H (backV v)).2 := fun v hv => by
    rw [eb] at hv
    obtain ⟨b, hb, rfl⟩ := List.mem_map.mp hv
    obtain ⟨_, its2, r2, o2, ho2, hc2, n2, hd2⟩ := I1.hok _ _ (kp2 b hb)
    obtain ⟨u1, u2, rfl, ri, rj⟩ := vals2 r2
    obtain ⟨t1, rfl⟩ := ri
    obtain ⟨t2, rfl⟩ := rj
    exact ⟨b, o2, t1, t2, n2, rfl, Heap.get?_push_of_some _ ho2, hc2, hd2⟩
  refine wpAny_bind (wpAny_holding (wpAny_call_entry PyProof.Rows.slot_list_sort ⟨_, hoL, rfl⟩ PyProof.Rows.entry_list_sort
    (SrtO.list_sort_ord (s := { s with heap := h'.push (seqObj "list" acc'.toList.toArray 0), toks := tk }) (ltv := fun v u => SrtO.lexB (pairV H (backV v)) (pairV H (backV u))) (SrtO.swo_lex fun v => pairV H (backV v)) hoL hz (fun h2 => SrtO.pairs_sortableO (by omega) hp fun o e => ?_) fun out g1 g2 => ⟨_, rfl, ?_⟩) (PyProof.Rows.args_list_sort _)))
  · have e' : some o = some (seqObj "list" acc'.toList.toArray 0) := e.symm.trans hoL
    cases e'
    intro c
    exact absurd (Value.type.inj c) (by decide)
  · obtain ⟨e', he'⟩ := PyProof.Rows.sortedHeap_at (vs := acc'.toList) (out := out.toArray) hoL
    have hm : ∀ u ∈ out, ∃ a, u = Value.ref a ∧ a ∈ bs := fun u hu => by
      have := g2.perm.mem_iff.mp hu
      rw [eb] at this
      obtain ⟨b, hb, rfl⟩ := List.mem_map.mp this
      exact ⟨b, rfl, hb⟩
    have hlen : (out.map backV).length ≤ sizeLine := by
      rw [List.length_map, g2.perm.length_eq]; exact hz
    refine wpAny_pure ⟨_, rfl, .ref h'.objs.size, upd H h'.objs.size (.lst (out.map backV)), I1.laid (t' := tk) (fun b u e => ?_) (Nat.le_refl _)
      (show ObjOk X.prog X.w _ _ _ (.lst (out.map backV)) from ⟨hlen, out, e', vals_back fun u hu => ⟨_, (hm u hu).choose_spec.1⟩, he'⟩), rfl, q _ (out.map backV) (I1.hok.fresh (Nat.le_refl _)) (sort_uniq ?_ ?_) fun y hy => ?_⟩
    · have hb : b < h'.objs.size := Heap.lt_size e
      rw [PyProof.Rows.sortedHeap_old (Nat.ne_of_lt hb) (by rw [size_push']; exact Nat.lt_succ_of_lt hb)]
      exact Heap.get?_push_of_some _ e
    · rw [← kp1]
      have := g2.perm.map (fun v => pairV H (backV v))
      rw [eb, List.map_map] at this
      rw [List.map_map]
      exact this
    · rw [List.map_map]
      refine List.pairwise_map.mpr (g1.imp fun {a b} h => ?_)
      show leP (pairV H (backV a)) (pairV H (backV b)) = true
      have h : SrtO.lexB (pairV H (backV b)) (pairV H (backV a)) = false := h
      rw [leP_lex, h]; rfl
    · obtain ⟨u, hu, rfl⟩ := List.mem_map.mp hy
      obtain ⟨a, rfl, ha⟩ := hm u hu
      exact ⟨a, rfl, kp2 a ha⟩
end
section
variable {K : PySem.W.Frag} {fa : FAd} {H : Hp} {O : Addr → Prop}
theorem iss_pairs : ∀ {ys : List V} {ps : List (Int × Int)}, ys.map (pairV H) = ps → (∀ y ∈ ys, ∃ b, y = V.ref b ∧ H b = some (.tup [.int (pairV H y).1, .int (pairV H y).2])) → Iss K fa H O ys (ps.map ofPair)
  | [], ps, h, _ => by cases h; exact .nil
  | y :: ys, ps, h, hy => by
    subst h
    obtain ⟨b, e, hb⟩ := hy y List.mem_cons_self
    refine .cons ?_ (iss_pairs rfl fun z hz => hy z (List.mem_cons_of_mem _ hz))
    have : Is K fa H O (.ref b) (ofPair (pairV H y)) := .tup hb (.cons (.int _) (.cons (.int _) .nil))
    rw [e] at this ⊢; exact this
end
section
variable {k : Nat} {X : Cx} {g : Gx} {W : WX} {a : Expr} {Gs : En → R (List Arg)} {pos pp : Pos}
theorem p_sorted (hc : X.calm = true) : CallR X (.builtin "sorted") (rP X.K .sorted) := call1 (fun ds d e => one1 rfl (fun a b l => by cases a with | dct t l' => cases t <;> rfl | _ => rfl) e) fun pins s σ H x u Q fa O a d I rx om ra e q => by
  cases a with
  | dct t es =>
    cases t with
    | true =>
      have e : ((es.mapM fun e => pairOf e.1).map fun ps => D.lst ((ps.mergeSort leP).map ofPair)) = some d := e
      obtain ⟨ps, e1, e2⟩ := map_some e
      subst e2
      obtain ⟨p, kvs, rfl, h1, rl⟩ := ra.dctT
      exact sorted_dT hc pins s σ H [.ref p] [u] Q I (.cons rx .nil) ⟨p, kvs, ps, rfl, .of h1, ist_pairs rl e1, fun n ys hn hy hb => q _ _ (same_new hn) (is_lst om hn (iss_pairs hy hb))⟩
    | false => exact bad1 e rfl
  | _ => exact bad1 e rfl
theorem E_sorted (c : Cc k X g W) (hg : Gl X "sorted") (hm : X.mg "sorted" = none) (ha : PA X [a] (tGs g W Gs)) (he : starEach [a] X.env = (false, eval a X.env) :: starEach [] X.env) (hpl : (backTo pos (starEach [] X.env)).any (·.1) = false) : PE X (.Call (.Name "sorted" pp) [a] [] pos) (tE g W (oG .sorted Gs)) :=
  E_blt c (p_sorted c.calm) hg hm (by decide +kernel) ha (by decide) (by decide) he hpl
end
end Ev
set_option Elab.async false
set_option linter.all false
set_option maxRecDepth 100000
set_option maxHeartbeats 1000000
namespace Ev
open PySem PySem.Spec PyProof.Rows L2
theorem law_ok {tb : List FD} {fa : FAd} {ex : Nat → Addr} {P : Program} {w : World} {K : PySem.W.Frag} {mg : Str → Option Value} {base : Heap} {k i : Nat} {d : FD} {N ps : List Str} {params : Arguments} {body : List Stmt} {scope : Scope} {fA : Addr} {fd : FuncData}
    (F : FunD K d.name d.name params body scope [] [] fA fd) (S : FnScope N ps scope) (h1 : ps.length = d.n) (h2 : N.length = d.m) (e : tb[i]? = some d) (h0 : d.kind = 0) (h : ∀ i d, tb[i]? = some d → DefOk tb fa ex P w K mg base i d)
    (B : ∀ k, AllCal tb fa ex P w K mg base k → ∀ (cdv : Value) (A : Around) (outer : List Env) (s : Shared) (H : Hp) (E : XK) (Oc : Addr → Prop) (G : Hp) (io : Option Addr), Room k (A.deeper (envOfC d.name scope s.heap.objs.size fA cdv)) →
      PSs (cxd P w K mg base N d.name scope fA cdv A outer s H E) body (tS ⟨K, fa, ex, Oc, G, io⟩ (fun cls d _ H => E cls d H) (d.body (callN tb k)))) :
    FnOk P w K mg base (L2.CX P w) (k + 1) fA fd ps (spP K fa ex ps.length (callN tb (k + 1) i)) := by
  have := fn_step (k := k) F S h1 h2 e (B k (all_ok h k))
  rw [h0] at this
  exact this
theorem law_sp {K : PySem.W.Frag} {fa : FAd} {ex : Nat → Addr} {f : List D → CR} {ns : List Int} {H : Hp} {a : Addr} (h : f [.scr ns] = .ok (.bl true)) (ho : Only H) (hs : SqL K H a (ns.map V.int)) : spP K fa ex 1 f [.ref a] H (fun v _ => v = .bl true) fun _ _ _ => False := by
  refine ⟨rfl, fun _ => False, [.scr ns], fun _ z => z.elim, .cons (.scr (Scr.of ho hs)) .nil, ?_⟩
  rw [h]
  intro v H' _ r
  cases r; rfl
theorem walk_evE {l : PySem.W.OpenLaw} {n k : Nat} {q : Program} {loose : List Str} {XP : (Str → Option Value) → Heap → Prop} {YP : World → Heap → Prop} {d : DefRec} {CX : World → CXT} {x : Str}
    (hn : l.most = some n) (hn2 : n ≤ sizeLine) (hdf : d.params.defaults = []) (hr : Room k callerA)
    (F : ∀ (w : World) (mg : Str → Option Value) (fa : Addr) (h : Heap), YP w h → h.Ns mainGlobals mg → mg d.name = some (.ref fa) →
      ∃ (K : PySem.W.Frag) (fd : FuncData) (sp : Sp), K.In h ∧ (∀ (s : Shared) (u : Value), BindsTo s fd ⟨[u], []⟩ [(x, u)]) ∧
        (∀ (H : Hp) (a : Addr) (ns : List Int), ns.length ≤ n → Only H → SqL K H a (ns.map V.int) → sp [.ref a] H (fun v _ => v = .bl true) fun _ _ _ => False) ∧
        ∀ base : Heap, K.In base → base.Ns mainGlobals mg → FnOk l.prog w K mg base (CX w) k fa fd [x] sp)
    (hCX : ∀ (w : World) (H : Hp) (s : Shared) (e : Value) (s' : Shared), CX w [] H s (fun _ _ _ => False) e s' → False) :
    PySem.W.WalkO q loose XP YP l.row.toRowW d [] (fun f vs => PySem.call f vs) := by
  refine Att.attach_call hn hdf fun w s₀ s₁ mg mb fa o pm cd doc a vs ns G Y ho hd hcd hmg hobj hints hlen hg => ?_
  obtain ⟨K, fd, sp, KX, hb, hsp, hF⟩ := F w mg fa _ Y G.T.g hmg
  exact law_call KX G.T.g G.T.b G.T.builtins G.T.nolimit hg hobj hints (Nat.le_trans hlen hn2) hr hF hb (fun H hO hS => hsp H a ns hlen hO hS) fun H e s' => hCX w H s₁ e s'
theorem cx_none {P : Program} {w : World} {H : Hp} {s : Shared} {e : Value} {s' : Shared} (h : L2.CX P w [] H s (fun _ _ _ => False) e s') : False := by
  obtain ⟨_, _, _, _, _, _, _, _, _, _, _, _, h⟩ := h
  exact h
end Ev
set_option Elab.async false
set_option linter.all false
set_option maxRecDepth 100000
set_option maxHeartbeats 1000000
namespace Ev
open PySem PySem.Spec PyProof.Rows L2

theorem forGo_inv {tg : Tg} {b : En → R Fl} : ∀ (xs : List D) (P : Nat → En → Prop) (j0 : Nat), (∀ j (hj : j < xs.length) ε, P (j0 + j) ε → ∃ ε1 ε2, tg.put xs[j] ε = some ε1 ∧ (b ε1 = .ok .nx ε2 ∨ b ε1 = .ok .ct ε2) ∧ P (j0 + j + 1) ε2) → ∀ ε, P j0 ε → ∃ ε', forGo tg b xs ε = .ok .nx ε' ∧ P (j0 + xs.length) ε'
  | [], P, j0, _, ε, h0 => ⟨ε, rfl, h0⟩
  | x :: xs, P, j0, h, ε, h0 => by
    obtain ⟨ε1, ε2, e1, e2, h1⟩ := h 0 (Nat.succ_pos _) ε h0
    obtain ⟨ε', e3, h3⟩ := forGo_inv xs P (j0 + 1) (fun j hj ε p => by
      have := h (j + 1) (Nat.succ_lt_succ hj) ε (by rw [show j0 + (j + 1) = j0 + 1 + j from by omega]; exact p)
      rw [show j0 + (j + 1) + 1 = j0 + 1 + j + 1 from by omega] at this
      exact this) ε2 h1
    refine ⟨ε', ?_, by rw [List.length_cons, show j0 + (xs.length + 1) = j0 + 1 + xs.length from by omega]; exact h3⟩
    show (match tg.put x ε with
      | none => R.bad
      | some ε1 => (match b ε1 with
        | .ok .nx ε2 => forGo tg b xs ε2
        | .ok .ct ε2 => forGo tg b xs ε2
        | .ok .bk ε2 => .ok .nx ε2
        | r => r)) = _
    rw [show tg.put x ε = some ε1 from e1]
    rcases e2 with e2 | e2 <;> (simp only [e2]; exact e3)
theorem forGo_st {tg : Tg} {b : En → R Fl} {xs : List D} (st : Nat → En) (h : ∀ j (hj : j < xs.length), ∃ ε1, tg.put xs[j] (st j) = some ε1 ∧ b ε1 = .ok .nx (st (j + 1))) : forGo tg b xs (st 0) = .ok .nx (st xs.length) := by
  obtain ⟨ε', e, h'⟩ := forGo_inv (tg := tg) (b := b) xs (fun j ε => ε = st j) 0 (fun j hj ε p => by
    subst p
    obtain ⟨ε1, e1, e2⟩ := h j hj
    rw [Nat.zero_add]
    exact ⟨ε1, _, e1, .inl e2, rfl⟩) (st 0) rfl
  rw [e, h', Nat.zero_add]
theorem rngD_at {lo c : Int} {n j : Nat} (h : j < (rngD lo c n).length) : (rngD lo c n)[j] = .int (lo + (j : Int) * c) := rngD_get (List.getElem?_eq_getElem h)
theorem lcGo_fm' {own : List Nat} {tg : Tg} {t : En → R Bool} {e : En → R D} {ε : En} (g : D → Option D) : ∀ (xs acc : List D), (∀ x ∈ xs, ∃ ε1, tg.put x ε = some ε1 ∧ match g x with
    | some y => ∃ ε2 ε3, t ε1 = .ok true ε2 ∧ e ε2 = .ok y ε3 ∧ und ε3 own = ε
    | none => ∃ ε2, t ε1 = .ok false ε2 ∧ und ε2 own = ε) → acc.length + (xs.filterMap g).length ≤ line → lcGo own tg t e xs acc ε = .ok (acc ++ xs.filterMap g) ε
  | [], acc, _, _ => by rw [List.filterMap_nil, List.append_nil]; rfl
  | x :: xs, acc, h, hl => by
    obtain ⟨ε1, e1, q⟩ := h x List.mem_cons_self
    have e0 : lcGo own tg t e (x :: xs) acc ε = (match tg.put x ε with
      | none => R.bad
      | some ε1 => match t ε1 with
        | .ok true ε2 => (match e ε2 with
          | .ok d ε3 => if acc.length < line then lcGo own tg t e xs (acc ++ [d]) (und ε3 own) else .bad
          | _ => .bad)
        | .ok false ε2 => lcGo own tg t e xs acc (und ε2 own)
        | _ => .bad) := rfl
    rw [e0, e1]
    cases eg : g x with
    | none =>
      rw [eg] at q
      obtain ⟨ε2, e2, e3⟩ := q
      simp only [e2, e3]
      rw [List.filterMap_cons_none eg] at hl ⊢
      exact lcGo_fm' g xs acc (fun y hy => h y (List.mem_cons_of_mem _ hy)) hl
    | some y =>
      rw [eg] at q
      obtain ⟨ε2, ε3, e2, e3, e4⟩ := q
      simp only [e2, e3, e4]
      rw [List.filterMap_cons_some eg, List.length_cons] at hl
      rw [if_pos (by omega), lcGo_fm' g xs (acc ++ [y]) (fun y hy => h y (List.mem_cons_of_mem _ hy)) (by rw [List.length_append, List.length_singleton]; omega), List.filterMap_cons_some eg, List.append_assoc]
      rfl
theorem lcGo_fm {own : List Nat} {tg : Tg} {t : En → R Bool} {e : En → R D} {ε : En} (g : D → Option D) (xs acc : List D) (h : ∀ x ∈ xs, ∃ ε1, tg.put x ε = some ε1 ∧ match g x with
    | some y => ∃ ε2 ε3, t ε1 = .ok true ε2 ∧ e ε2 = .ok y ε3 ∧ und ε3 own = ε
    | none => ∃ ε2, t ε1 = .ok false ε2 ∧ und ε2 own = ε) (hl : acc.length + xs.length ≤ line) : lcGo own tg t e xs acc ε = .ok (acc ++ xs.filterMap g) ε :=
  lcGo_fm' g xs acc h (Nat.le_trans (Nat.add_le_add_left (List.length_filterMap_le _ _) _) hl)
theorem lc2Go_fm {own own2 : List Nat} {tg tg2 : Tg} {t t2 : En → R Bool} {it : En → R (List D)} {e : En → R D} {ε : En} (g : D → List D) : ∀ (xs acc : List D), (∀ x ∈ xs, ∀ acc' : List D, acc'.length + (g x).length ≤ line → ∃ ε1 ε2 ys ε3 ε4, tg.put x ε = some ε1 ∧ t ε1 = .ok true ε2 ∧ it ε2 = .ok ys ε3 ∧ lcGo own2 tg2 t2 e ys acc' (und ε3 own2) = .ok (acc' ++ g x) ε4 ∧ und ε4 own = ε) →
    acc.length + (xs.flatMap g).length ≤ line → lc2Go own own2 tg t it tg2 t2 e xs acc ε = .ok (acc ++ xs.flatMap g) ε
  | [], acc, _, _ => by rw [List.flatMap_nil, List.append_nil]; rfl
  | x :: xs, acc, h, hl => by
    rw [List.flatMap_cons, List.length_append] at hl
    obtain ⟨ε1, ε2, ys, ε3, ε4, e1, e2, e3, e4, e5⟩ := h x List.mem_cons_self acc (by omega)
    have e0 : lc2Go own own2 tg t it tg2 t2 e (x :: xs) acc ε = (match tg.put x ε with
      | none => R.bad
      | some ε1 => match t ε1 with
        | .ok true ε2 => (match it ε2 with
          | .ok ys ε3 => (match lcGo own2 tg2 t2 e ys acc (und ε3 own2) with
            | .ok acc' ε4 => lc2Go own own2 tg t it tg2 t2 e xs acc' (und ε4 own)
            | _ => .bad)
          | _ => .bad)
        | .ok false ε2 => lc2Go own own2 tg t it tg2 t2 e xs acc (und ε2 own)
        | _ => .bad) := rfl
    rw [e0, e1]
    simp only [e2, e3, e4, e5]
    rw [lc2Go_fm g xs _ (fun y hy => h y (List.mem_cons_of_mem _ hy)) (by rw [List.length_append]; omega), List.flatMap_cons, List.append_assoc]
theorem sum_ints : ∀ ns : List Int, ((ns.map D.int).mapM intOf) = some ns
  | [] => rfl
  | n :: ns => by
    rw [List.map_cons, List.mapM_cons, sum_ints ns]; rfl
theorem bls_map : ∀ ns : List Bool, ((ns.map D.bl).mapM blOf) = some ns
  | [] => rfl
  | n :: ns => by
    rw [List.map_cons, List.mapM_cons, bls_map ns]; rfl
theorem atI_nat {α : Type} {l : List α} {j : Nat} {a : α} (h : l[j]? = some a) : L2.atI l (j : Int) = some a := by
  have hj := (List.getElem?_eq_some_iff.mp h).1
  unfold L2.atI ixN
  rw [if_pos (by omega), if_pos (by omega)]
  exact h
end Ev
set_option Elab.async false
set_option linter.all false
set_option maxRecDepth 100000
set_option maxHeartbeats 1000000
namespace Ev
open PySem PySem.Spec PyProof.Rows L2

section
variable {cl : Cl} {ε : En} {s : Sl} {d x y z : D} {ds : List D} {Fa Fb Fc Fe : En → R D} {Ga Gb Gc : En → R Arg} {Ds : En → R (List D)} {Gs : En → R (List Arg)} {G Gt : En → R Bool} {Sa Sb : En → R Fl} {Fo Fp : En → R Sl} {i j c : Nat} {p q : P} {as : List Arg} {a b : Int} {k l : Bool} {tg : Tg} {n : Nat}
theorem v_bind {α β : Type} {a : α} {f : α → En → R β} : R.bind (.ok a ε) f = f a ε := by with_unfolding_all rfl
theorem v_bindx {α β : Type} {f : α → En → R β} : R.bind (.exc c ε) f = .exc c ε := by with_unfolding_all rfl
theorem v_gt0 : gt (s :: ε) 0 = s := by with_unfolding_all rfl
theorem v_gtS : gt (s :: ε) (n + 1) = gt ε n := by with_unfolding_all rfl
theorem v_set0 {s' : Sl} : List.set (s :: ε) 0 s' = s' :: ε := by with_unfolding_all rfl
theorem v_setS {s' : Sl} : List.set (s :: ε) (n + 1) s' = s :: List.set ε n s' := by with_unfolding_all rfl
theorem v_lit : litR d ε = .ok d ε := by with_unfolding_all rfl
def varG (i : Nat) (ε : En) (s : Sl) : R D := match s with
  | .val d => .ok d ε
  | s => (match s.d with
    | some d => .ok d (ε.set i (.val d))
    | none => .bad)
theorem v_var : varR i ε = varG i ε (gt ε i) := by with_unfolding_all rfl
theorem v_varV : varG i ε (.val d) = .ok d ε := by with_unfolding_all rfl
theorem v_varO : varG i ε (.own1 d) = .ok d (ε.set i (.val d)) := by with_unfolding_all rfl
theorem v_varR {l : List (List D)} : varG i ε (.own2 l) = .ok (.lst (l.map .lst)) (ε.set i (.val (.lst (l.map .lst)))) := by with_unfolding_all rfl
def argG (i : Nat) (ε : En) (s : Sl) : R Arg := match s with
  | .val d => .ok (.v d) ε
  | .own1 _ => .ok (.b i) ε
  | .own2 l => .ok (.v (.lst (l.map .lst))) (ε.set i (.val (.lst (l.map .lst))))
  | .und => .bad
theorem v_arg : argVar i ε = argG i ε (gt ε i) := by with_unfolding_all rfl
theorem v_argV : argG i ε (.val d) = .ok (.v d) ε := by with_unfolding_all rfl
theorem v_argO : argG i ε (.own1 d) = .ok (.b i) ε := by with_unfolding_all rfl
theorem v_gV : gV Fa ε = (Fa ε).bind fun d ε1 => .ok (.v d) ε1 := by with_unfolding_all rfl
theorem v_dN : dN ε = .ok [] ε := by with_unfolding_all rfl
theorem v_dC : dC Fa Ds ε = (Fa ε).bind fun d ε1 => (Ds ε1).bind fun ds ε2 => .ok (d :: ds) ε2 := by with_unfolding_all rfl
theorem v_gN : gN ε = .ok [] ε := by with_unfolding_all rfl
theorem v_gC : gC Ga Gs ε = (Ga ε).bind fun d ε1 => (Gs ε1).bind fun ds ε2 => .ok (d :: ds) ε2 := by with_unfolding_all rfl
theorem v_d1 : d1 Fa ε = (Fa ε).bind fun d ε1 => .ok [d] ε1 := by with_unfolding_all rfl
theorem v_o1 : o1 p Ga ε = opR p ((Ga ε).bind fun a ε1 => .ok [a] ε1) := by with_unfolding_all rfl
theorem v_o2 : o2 p Ga Gb ε = opR p ((Ga ε).bind fun a ε1 => (Gb ε1).bind fun b ε2 => .ok [a, b] ε2) := by with_unfolding_all rfl
theorem v_o3 : o3 p Ga Gb Gc ε = opR p ((Ga ε).bind fun a ε1 => (Gb ε1).bind fun b ε2 => (Gc ε2).bind fun c ε3 => .ok [a, b, c] ε3) := by with_unfolding_all rfl
theorem v_oD : oD p Ds ε = opdR p (Ds ε) := by with_unfolding_all rfl
theorem v_oG : oG p Gs ε = opR p (Gs ε) := by with_unfolding_all rfl
def opF (p : P) (ε : En) : Option (List D) → R D
  | some ds => (match pr p ds with
    | some d => .ok d ε
    | none => .bad)
  | none => .bad
def opG (ε : En) : Option D → R D
  | some d => .ok d ε
  | none => .bad
theorem v_opR : opR p (.ok as ε) = opF p ε (Args.ds ε as) := by unfold opR opF; rfl
theorem v_opRx : opR p (.exc c ε) = .exc c ε := by with_unfolding_all rfl
theorem v_opF : opF p ε (some ds) = opG ε (pr p ds) := by unfold opF opG; rfl
theorem v_opG : opG ε (some d) = .ok d ε := by with_unfolding_all rfl
theorem v_opD : opdR p (.ok ds ε) = opG ε (pr p ds) := by unfold opdR opG; rfl
theorem v_opDx : opdR p (.exc c ε) = .exc c ε := by with_unfolding_all rfl
theorem v_ds0 : Args.ds ε [] = some [] := by with_unfolding_all rfl
theorem v_dsV : Args.ds ε (.v d :: as) = (Args.ds ε as).map (d :: ·) := by with_unfolding_all rfl
def dsB (ε : En) (as : List Arg) : Sl → Option (List D)
  | .val d => (Args.ds ε as).map (d :: ·)
  | .own1 d => (Args.ds ε as).map (d :: ·)
  | _ => none
theorem v_dsB : Args.ds ε (.b i :: as) = dsB ε as (gt ε i) := by
  simp only [Args.ds, Arg.d, dsB]
  generalize gt ε i = s
  cases s <;> rfl
theorem v_dsBV : dsB ε as (.val d) = (Args.ds ε as).map (d :: ·) := by with_unfolding_all rfl
theorem v_dsBO : dsB ε as (.own1 d) = (Args.ds ε as).map (d :: ·) := by with_unfolding_all rfl
theorem v_map {α β : Type} {a : α} {f : α → β} : Option.map f (some a) = some (f a) := by with_unfolding_all rfl
def chG (q : P) (ε2 : En) (y : D) (Fc : En → R D) : Option D → R D
  | some (.bl true) => (Fc ε2).bind fun z ε3 => (match pr q [y, z] with
      | some d => .ok d ε3
      | none => .bad)
  | some (.bl false) => .ok (.bl false) ε2
  | _ => .bad
def chH (p q : P) (Fb Fc : En → R D) : R D → R D := fun r => r.bind fun x ε1 => (Fb ε1).bind fun y ε2 => chG q ε2 y Fc (pr p [x, y])
theorem v_ch : chR p q Fa Fb Fc ε = (Fa ε).bind fun x ε1 => (Fb ε1).bind fun y ε2 => chG q ε2 y Fc (pr p [x, y]) := by with_unfolding_all rfl
theorem v_chT : chG q ε y Fc (some (.bl true)) = (Fc ε).bind fun z ε3 => opG ε3 (pr q [y, z]) := by unfold chG opG; rfl
theorem v_chF : chG q ε y Fc (some (.bl false)) = .ok (.bl false) ε := by with_unfolding_all rfl
theorem v_tB : tB Fa ε = asB (Fa ε) := by with_unfolding_all rfl
theorem v_asB : asB (.ok (.bl k) ε) = .ok k ε := by with_unfolding_all rfl
theorem v_asBx : asB (.exc c ε) = .exc c ε := by with_unfolding_all rfl
theorem v_tAnd : tAnd G Gt ε = (G ε).bind fun c ε1 => if c = true then Gt ε1 else .ok false ε1 := by with_unfolding_all rfl
theorem v_tOr : tOr G Gt ε = (G ε).bind fun c ε1 => if c = true then .ok true ε1 else Gt ε1 := by with_unfolding_all rfl
theorem v_tNot : tNot G ε = (G ε).bind fun c ε1 => .ok (!c) ε1 := by with_unfolding_all rfl
theorem v_eAnd : eAnd Fa Fb ε = (asB (Fa ε)).bind fun c ε1 => if c = true then Fb ε1 else .ok (.bl false) ε1 := by with_unfolding_all rfl
theorem v_eOr : eOr Fa Fb ε = (asB (Fa ε)).bind fun c ε1 => if c = true then .ok (.bl true) ε1 else Fb ε1 := by with_unfolding_all rfl
theorem v_eNot : eNot Fa ε = (asB (Fa ε)).bind fun c ε1 => .ok (.bl (!c)) ε1 := by with_unfolding_all rfl
theorem v_eIf : eIf G Fa Fb ε = (G ε).bind fun c ε1 => if c = true then Fa ε1 else Fb ε1 := by with_unfolding_all rfl
theorem v_itE {k : IK} : itE k Ds ε = itR k (Ds ε) := by with_unfolding_all rfl
def itG (ε : En) : Option (List D) → R (List D)
  | some l => .ok l ε
  | none => .bad
theorem v_itR {k : IK} : itR k (.ok ds ε) = itG ε (items k ds) := by unfold itR itG; rfl
theorem v_itG : itG ε (some ds) = .ok ds ε := by with_unfolding_all rfl
theorem v_r1 : items .rng1 [.int a] = if bnd a then some (rngD 0 1 a.toNat) else none := by with_unfolding_all rfl
theorem v_r2 : items .rng2 [.int a, .int b] = if bnd a && bnd b then some (rngD a 1 (b - a).toNat) else none := by with_unfolding_all rfl
theorem v_seqT : items .seq [.tup ds] = some ds := by with_unfolding_all rfl
theorem v_seqL : items .seq [.lst ds] = some ds := by with_unfolding_all rfl
theorem v_clR {f : Nat} : clR cl f Ds ε = callR cl f (Ds ε) := by with_unfolding_all rfl
def clG (ε : En) : CR → R D
  | .ok d => .ok d ε
  | .exc c => .exc c ε
  | _ => .bad
theorem v_callR {f : Nat} : callR cl f (.ok ds ε) = clG ε (cl f ds) := by unfold callR clG; rfl
theorem v_callRx {f : Nat} : callR cl f (.exc c ε) = .exc c ε := by with_unfolding_all rfl
theorem v_clG : clG ε (.ok d) = .ok d ε := by with_unfolding_all rfl
theorem v_clGx : clG ε (.exc c) = .exc c ε := by with_unfolding_all rfl
def clfG (ε : En) : CR → R Sl
  | .okf l => .ok (.own1 (.lst l)) ε
  | .exc c => .exc c ε
  | _ => .bad
theorem v_clf {f : Nat} : clfR cl f Ds ε = callfR cl f (Ds ε) := by with_unfolding_all rfl
theorem v_callf {f : Nat} : callfR cl f (.ok ds ε) = clfG ε (cl f ds) := by unfold callfR clfG; rfl
theorem v_clfG : clfG ε (.okf ds) = .ok (.own1 (.lst ds)) ε := by with_unfolding_all rfl
def cioH (i : Nat) (ε : En) : CR → R D
  | .okio d (.lst l') => .ok d (ε.set i (.own1 (.lst l')))
  | _ => .bad
def cioG (cl : Cl) (f i : Nat) (ε : En) (ds : List D) : Sl → R D
  | .own1 (.lst l) => cioH i ε (cl f (.lst l :: ds))
  | _ => .bad
def cioF (cl : Cl) (f i : Nat) (r : R (List D)) : Sl → R D
  | .own1 (.lst _) => r.bind fun ds ε1 => cioG cl f i ε1 ds (gt ε1 i)
  | _ => .bad
theorem v_clio {f : Nat} : clioR cl f i Ds ε = cioF cl f i (Ds ε) (gt ε i) := by
  unfold clioR cioF callioR cioG cioH
  cases gt ε i with
  | own1 d => cases d <;> rfl
  | _ => rfl
theorem v_cioF {f : Nat} {l : List D} {r : R (List D)} : cioF cl f i r (.own1 (.lst l)) = r.bind fun ds ε1 => cioG cl f i ε1 ds (gt ε1 i) := by with_unfolding_all rfl
theorem v_cioG {f : Nat} {l : List D} : cioG cl f i ε ds (.own1 (.lst l)) = cioH i ε (cl f (.lst l :: ds)) := by with_unfolding_all rfl
theorem v_cioH {l : List D} : cioH i ε (.okio d (.lst l)) = .ok d (ε.set i (.own1 (.lst l))) := by with_unfolding_all rfl
theorem v_oV : oV Fa ε = vlR (Fa ε) := by with_unfolding_all rfl
theorem v_vlR : vlR (.ok d ε) = .ok (.val d) ε := by with_unfolding_all rfl
theorem v_vlRx : vlR (.exc c ε) = .exc c ε := by with_unfolding_all rfl
theorem v_oO : oO Fa ε = owR (Fa ε) := by with_unfolding_all rfl
theorem v_owL : owR (.ok (.lst ds) ε) = .ok (.own1 (.lst ds)) ε := by with_unfolding_all rfl
theorem v_owD {t : Bool} {es : List (D × D)} : owR (.ok (.dct t es) ε) = .ok (.own1 (.dct t es)) ε := by with_unfolding_all rfl
theorem v_sSet : sSet i Fo ε = setR i (Fo ε) := by with_unfolding_all rfl
theorem v_setR : setR i (.ok s ε) = if okS i s then .ok .nx (ε.set i s) else .bad := by with_unfolding_all rfl
theorem v_setRx : setR i (.exc c ε) = .exc c ε := by with_unfolding_all rfl
theorem v_okV : okS i (.val d) = true := by unfold okS; cases i <;> rfl
theorem v_okS : okS (n + 1) s = true := by
  unfold okS
  simp
theorem v_sUnp : sUnp tg Fa ε = unpR tg (Fa ε) := by with_unfolding_all rfl
def unpG : Option En → R Fl
  | some ε1 => .ok .nx ε1
  | none => .bad
theorem v_unpR : unpR tg (.ok d ε) = unpG (tg.put d ε) := by unfold unpR unpG; rfl
theorem v_unpG : unpG (some ε) = .ok .nx ε := by with_unfolding_all rfl
theorem v_put1 : Tg.put (.nm i) d ε = some (ε.set i (.val d)) := by with_unfolding_all rfl
theorem v_putT {is : List Nat} : Tg.put (.tp is) (.tup ds) ε = puts is ds ε := by with_unfolding_all rfl
theorem v_puts0 : puts [] [] ε = some ε := by with_unfolding_all rfl
theorem v_putsS {is : List Nat} : puts (i :: is) (d :: ds) ε = puts is ds (ε.set i (.val d)) := by with_unfolding_all rfl
theorem v_sPar : sPar i j Fo Fp ε = parR i j (Fo ε) Fp := by with_unfolding_all rfl
theorem v_parR : parR i j (.ok s ε) Fp = (Fp ε).bind fun t ε2 => if okS i s && okS j t then .ok .nx ((ε2.set j t).set i s) else .bad := by with_unfolding_all rfl
theorem v_sPut : sPut i Fa Fb ε = putR i Fa (Fb ε) := by with_unfolding_all rfl
def putG (i : Nat) (ε : En) : Option Sl → R Fl
  | some s => .ok .nx (ε.set i s)
  | none => .bad
theorem v_putR : putR i Fa (.ok d ε) = if isOwn1 (gt ε i) then (Fa ε).bind fun k ε2 => putG i ε2 (putS (gt ε2 i) k d) else .bad := by
  unfold putR putG; rfl
theorem v_putG : putG i ε (some s) = .ok .nx (ε.set i s) := by with_unfolding_all rfl
theorem v_own : isOwn1 (.own1 d) = true := by with_unfolding_all rfl
theorem v_putL {l : List D} : putS (.own1 (.lst l)) (.int a) d = (ixN l.length a).map fun m => .own1 (.lst (l.set m d)) := by with_unfolding_all rfl
theorem v_putD {t : Bool} {es : List (D × D)} : putS (.own1 (.dct t es)) x d = if hkey t x && decide (es.length < line) then some (.own1 (.dct t (dput es x d))) else none := by cases x <;> rfl
def augG (p : P) (i : Nat) (Fe : En → R D) (ε : En) : Sl → R Fl
  | .val (.int a) => (Fe ε).bind fun d ε1 => (match pr p [.int a, d] with
    | some z => .ok .nx (ε1.set i (.val z))
    | none => .bad)
  | _ => .bad
def augH (i : Nat) (ε : En) : Option D → R Fl
  | some z => .ok .nx (ε.set i (.val z))
  | none => .bad
theorem v_aug : augR i p Fe ε = augG p i Fe ε (gt ε i) := by unfold augR augR0 augG; cases gt ε i with | val d => cases d <;> rfl | _ => rfl
theorem v_augG : augG p i Fe ε (.val (.int a)) = (Fe ε).bind fun d ε1 => augH i ε1 (pr p [.int a, d]) := by unfold augG augH; rfl
theorem v_augH : augH i ε (some z) = .ok .nx (ε.set i (.val z)) := by with_unfolding_all rfl
def appG (i : Nat) (ε : En) (d : D) : Sl → R Fl
  | .own1 (.lst l) => if l.length < line then .ok .nx (ε.set i (.own1 (.lst (l ++ [d])))) else .bad
  | _ => .bad
def appF (i : Nat) (r : R D) : Sl → R Fl
  | .own1 (.lst _) => r.bind fun d ε1 => appG i ε1 d (gt ε1 i)
  | _ => .bad
theorem v_app : appR i Fe ε = appF i (Fe ε) (gt ε i) := by
  unfold appR appR0 appF appG
  cases gt ε i with
  | own1 d => cases d <;> rfl
  | _ => rfl
theorem v_appF {l : List D} {r : R D} : appF i r (.own1 (.lst l)) = r.bind fun d ε1 => appG i ε1 d (gt ε1 i) := by with_unfolding_all rfl
theorem v_appG {l : List D} : appG i ε d (.own1 (.lst l)) = if l.length < line then .ok .nx (ε.set i (.own1 (.lst (l ++ [d])))) else .bad := by with_unfolding_all rfl
theorem v_sExp : sExp Fa ε = expR (Fa ε) := by with_unfolding_all rfl
theorem v_expR : expR (.ok d ε) = .ok .nx ε := by with_unfolding_all rfl
theorem v_expRx : expR (.exc c ε) = .exc c ε := by with_unfolding_all rfl
theorem v_sRet : sRet Fa ε = retR (Fa ε) := by with_unfolding_all rfl
theorem v_retR : retR (.ok d ε) = .ok (.rt d) ε := by with_unfolding_all rfl
theorem v_retRx : retR (.exc c ε) = .exc c ε := by with_unfolding_all rfl
theorem v_sRetf : sRetf Fo ε = retfR (Fo ε) := by with_unfolding_all rfl
theorem v_retf : retfR (.ok (.own1 (.lst ds)) ε) = .ok (.rtf ds) ε := by with_unfolding_all rfl
theorem v_sEnd {f : Fl} : sEnd f ε = .ok f ε := by with_unfolding_all rfl
theorem v_sRaise : sRaise c ε = .exc c ε := by with_unfolding_all rfl
theorem v_sIf : sIf G Sa Sb ε = ifR (G ε) Sa Sb := by with_unfolding_all rfl
theorem v_ifR : ifR (.ok k ε) Sa Sb = if k = true then Sa ε else Sb ε := by with_unfolding_all rfl
theorem v_ifRx : ifR (.exc c ε) Sa Sb = .exc c ε := by with_unfolding_all rfl
theorem v_sFor : sFor tg Ds Sa ε = forR tg Sa (Ds ε) := by with_unfolding_all rfl
theorem v_forR : forR tg Sa (.ok ds ε) = forGo tg Sa ds ε := by with_unfolding_all rfl
theorem v_sSeq : sSeq Sa Sb ε = seqR (Sa ε) Sb := by with_unfolding_all rfl
theorem v_seqN : seqR (.ok .nx ε) Sb = Sb ε := by with_unfolding_all rfl
theorem v_seqR : seqR (.ok (.rt d) ε) Sb = .ok (.rt d) ε := by with_unfolding_all rfl
theorem v_seqx : seqR (.exc c ε) Sb = .exc c ε := by with_unfolding_all rfl
theorem v_sYes : sYes ε = .ok true ε := by with_unfolding_all rfl
theorem v_get1 : get1R Ga Fb ε = (Ga ε).bind fun a ε1 => if isDct (Args.ds ε1 [a]) then (Fb ε1).bind fun kd ε2 => getR (Args.ds ε2 [a]) kd [] ε2 else .bad := by
  unfold get1R args1
  cases Ga ε <;> rfl
theorem v_get2 : get2R Ga Fb Fc ε = (Ga ε).bind fun a ε1 => if isDct (Args.ds ε1 [a]) then (Fb ε1).bind fun kd ε2 => (Fc ε2).bind fun x ε3 => getR (Args.ds ε3 [a]) kd [x] ε3 else .bad := by
  unfold get2R args1
  cases Ga ε <;> rfl
theorem v_isD {t : Bool} {es : List (D × D)} : isDct (some [.dct t es]) = true := by with_unfolding_all rfl
theorem v_getR1 {t : Bool} {es : List (D × D)} : getR (some [.dct t es]) x [] ε = if hkey t x then .ok ((dlook es x).getD .non) ε else .bad := by with_unfolding_all rfl
theorem v_getR2 {t : Bool} {es : List (D × D)} : getR (some [.dct t es]) x [y] ε = if hkey t x then .ok ((dlook es x).getD y) ε else .bad := by with_unfolding_all rfl
theorem v_dct1 {t : Bool} : dct1R t Fa Fb ε = (Fa ε).bind fun kd ε1 => (Fb ε1).bind fun vd ε2 => if hkey t kd then .ok (.dct t [(kd, vd)]) ε2 else .bad := by with_unfolding_all rfl
theorem v_add : pr .add [.int a, .int b] = some (.int (a + b)) := by with_unfolding_all rfl
theorem v_addT {l m : List D} : pr .add [.tup l, .tup m] = if l.length + m.length ≤ line then some (.tup (l ++ m)) else none := by with_unfolding_all rfl
theorem v_addL {l m : List D} : pr .add [.lst l, .lst m] = if l.length + m.length ≤ line then some (.lst (l ++ m)) else none := by with_unfolding_all rfl
theorem v_sub : pr .sub [.int a, .int b] = some (.int (a - b)) := by with_unfolding_all rfl
theorem v_mul : pr .mul [.int a, .int b] = if small a || small b then some (.int (a * b)) else none := by with_unfolding_all rfl
theorem v_fdiv : pr .fdiv [.int a, .int b] = if decide (0 < b ∧ b < 1073741824) then some (.int (a / b)) else none := by with_unfolding_all rfl
theorem v_mod : pr .mod [.int a, .int b] = if decide (0 < b) then some (.int (a % b)) else none := by with_unfolding_all rfl
theorem v_pow : pr .pow [.int a, .int b] = if decide (0 ≤ b ∧ b ≤ 1000000 ∧ a.natAbs < 2 ^ 64) then some (.int (a ^ b.toNat)) else none := by with_unfolding_all rfl
theorem v_neg : pr .neg [.int a] = some (.int (-a)) := by with_unfolding_all rfl
theorem v_lt : pr .lt [.int a, .int b] = some (.bl (decide (a < b))) := by with_unfolding_all rfl
theorem v_le : pr .le [.int a, .int b] = some (.bl (decide (a ≤ b))) := by with_unfolding_all rfl
theorem v_gtp : pr .gt [.int a, .int b] = some (.bl (decide (b < a))) := by with_unfolding_all rfl
theorem v_ge : pr .ge [.int a, .int b] = some (.bl (decide (b ≤ a))) := by with_unfolding_all rfl
theorem v_eqI : pr .eq [.int a, .int b] = some (.bl (a == b)) := by with_unfolding_all rfl
theorem v_neI : pr .ne [.int a, .int b] = some (.bl (!(a == b))) := by with_unfolding_all rfl
theorem v_eqB : pr .eq [.bl k, .bl l] = some (.bl (k == l)) := by cases k <;> cases l <;> rfl
theorem v_neB : pr .ne [.bl k, .bl l] = some (.bl (!(k == l))) := by cases k <;> cases l <;> rfl
theorem v_isN {d : D} : pr .isN [d, .non] = some (.bl (match d with | .non => true | _ => false)) := by cases d <;> rfl
theorem v_inT {l : List D} : pr .isIn [d, .tup l] = if shp d && shp (.tup l) then some (.bl (l.any fun z => eqv z d)) else none := by cases d <;> rfl
theorem v_ninT {l : List D} : pr .notIn [d, .tup l] = if shp d && shp (.tup l) then some (.bl (!l.any fun z => eqv z d)) else none := by cases d <;> rfl
theorem v_ixT {l : List D} : pr .ix [.tup l, .int a] = L2.atI l a := by with_unfolding_all rfl
theorem v_ixL {l : List D} : pr .ix [.lst l, .int a] = L2.atI l a := by with_unfolding_all rfl
theorem v_ixD {t : Bool} {es : List (D × D)} : pr .ix [.dct t es, d] = if hkey t d then dlook es d else none := by cases d <;> rfl
theorem v_revT {l : List D} : pr .rev [.tup l] = some (.tup l.reverse) := by with_unfolding_all rfl
theorem v_tup {l : List D} : pr .tup l = if l.length ≤ line then some (.tup l) else none := by
  match l with
  | [] => rfl
  | [_] => rfl
  | [_, _] => rfl
  | [_, _, _] => rfl
  | _ :: _ :: _ :: _ :: _ => rfl
theorem v_lst {l : List D} : pr .lst l = if l.length ≤ line then some (.lst l) else none := by
  match l with
  | [] => rfl
  | [_] => rfl
  | [_, _] => rfl
  | [_, _, _] => rfl
  | _ :: _ :: _ :: _ :: _ => rfl
theorem v_dnew : pr .dnew [] = some (.dct false []) := by with_unfolding_all rfl
theorem v_dnewT : pr .dnewT [] = some (.dct true []) := by with_unfolding_all rfl
theorem v_lenT {l : List D} : pr .len [.tup l] = some (.int l.length) := by with_unfolding_all rfl
theorem v_lenL {l : List D} : pr .len [.lst l] = some (.int l.length) := by with_unfolding_all rfl
theorem v_lenD {t : Bool} {es : List (D × D)} : pr .len [.dct t es] = some (.int es.length) := by with_unfolding_all rfl
theorem v_tofT {l : List D} : pr .tupleOf [.tup l] = some (.tup l) := by with_unfolding_all rfl
theorem v_tofL {l : List D} : pr .tupleOf [.lst l] = some (.tup l) := by with_unfolding_all rfl
theorem v_lofS {l : List Int} : pr .listOf [.scr l] = some (.lst (l.map .int)) := by with_unfolding_all rfl
theorem v_sumL {l : List Int} : pr .sum [.lst (l.map .int)] = some (.int l.sum) := by
  show ((l.map D.int).mapM intOf).map (fun ns => D.int ns.sum) = _
  rw [sum_ints]; rfl
theorem v_min2 : pr .min2 [.int a, .int b] = some (.int (if b < a then b else a)) := by with_unfolding_all rfl
theorem v_max2 : pr .max2 [.int a, .int b] = some (.int (if b > a then b else a)) := by with_unfolding_all rfl
theorem v_intI : pr .int [.int a] = some (.int a) := by with_unfolding_all rfl
theorem v_intB : pr .int [.bl k] = some (.int (if k then 1 else 0)) := by with_unfolding_all rfl
theorem v_allL {l : List Bool} : pr .all [.lst (l.map .bl)] = some (.bl (l.all id)) := by
  show ((l.map D.bl).mapM blOf).map (fun ns => D.bl (ns.all id)) = _
  rw [bls_map]; rfl
theorem v_isi {T : Nat} : pr (.isi T) [d] = (isi T d).map .bl := by cases d <;> rfl
end
theorem v_lc {α : Type} {own : List Nat} {r : List D → En → R (List D)} {k : List D → En → R α} {xs : List D} {ε : En} : lcR own r k (.ok xs ε) = if own.all (fun i => plain (gt ε i)) then (match r xs ε with
      | .ok l ε2 => k l (back ε ε2 own)
      | _ => .bad) else .bad := by with_unfolding_all rfl
theorem call0 {tb : List FD} {k f : Nat} {d : FD} {ds : List D} (h : tb[f]? = some d) (hn : ds.length = d.n) (hk : d.kind = 0) : callN tb (k + 1) f ds = bodyR (d.body (callN tb k) (en0 d.m ds)) := by
  show (match tb[f]? with | some d => runD d (callN tb k) ds | none => .bad) = _
  rw [h]
  unfold runD
  simp only [hn, hk, if_true]
theorem lcE_of {own : List Nat} {tg : Tg} {Fi : En → R (List D)} {t : En → R Bool} {e : En → R D} {ε ε1 ε2 : En} {xs l : List D} (h1 : Fi ε = .ok xs ε1) (h2 : own.all (fun i => plain (gt ε1 i)) = true) (h3 : lcGo own tg t e xs [] (und ε1 own) = .ok l ε2) : lcE own tg Fi t e ε = .ok (.lst l) (back ε1 ε2 own) := by
  with_unfolding_all show lcR own _ _ (Fi ε) = _
  rw [h1, v_lc, if_pos h2]
  simp only [h3]
theorem lc2E_of {own : List Nat} {tg tg2 : Tg} {Fi it : En → R (List D)} {t t2 : En → R Bool} {e : En → R D} {ε ε1 ε2 : En} {xs l : List D} (h1 : Fi ε = .ok xs ε1) (h2 : own.all (fun i => plain (gt ε1 i)) = true) (h3 : lc2Go own tg2.own tg t it tg2 t2 e xs [] (und ε1 own) = .ok l ε2) : lc2E own tg Fi t tg2 it t2 e ε = .ok (.lst l) (back ε1 ε2 own) := by
  with_unfolding_all show lcR own _ _ (Fi ε) = _
  rw [h1, v_lc, if_pos h2]
  simp only [h3]
end Ev
set_option Elab.async false
set_option linter.all false
set_option maxRecDepth 100000
set_option maxHeartbeats 4000000
namespace Ev.K94
open PySem PySem.Spec PyProof.Rows L2
abbrev prog : Program := PySem.Challenge.pw_pencilrows_k94_whole_great_orders_of_hei
abbrev top (i : Nat) : Stmt := prog.main.body.getD i (.Pass ⟨0, 0, 0, 0⟩)
def b_is_whole (cl : Cl) : En → R Fl := sRet (eAnd (o1 (.isi 0) (argVar 0)) (eNot (o1 (.isi 1) (argVar 0))))
def b_is_size (cl : Cl) : En → R Fl := sRet (eAnd (clR cl 0 (dC (varR 0) (dN))) (chR .le .le (litR (.int 1)) (varR 0) (litR (.int 6))))
def b_seen (cl : Cl) : En → R Fl := sSeq (sUnp (.tp [1, 2]) (oD .tup (dC (litR (.int 0)) (dC (litR (.int 0)) (dN))))) (sSeq (sFor (.nm 3) (itE .seq (d1 (varR 0))) (sIf (tB (o2 .gt (argVar 3) (argVar 1))) (sPar 1 2 (oV (varR 3)) (oV (o2 .add (argVar 2) (gV (litR (.int 1)))))) (sEnd .nx))) (sRet (varR 2)))
def b_all_rows (cl : Cl) : En → R Fl := sSeq (sIf (tNot (tB (clR cl 1 (dC (varR 0) (dN))))) (sRaise 1) (sEnd .nx)) (sSeq (sSet 1 (oV (oD .lst (dC (oD .tup (dN)) (dN))))) (sSeq (sFor (.nm 2) (itE .rng1 (dC (varR 0) (dN))) (sSet 1 (oV (lc2E [3, 4, 5] (.nm 4) (itE .seq (d1 (varR 1))) (sYes) (.nm 5) (itE .rng2 (dC (litR (.int 1)) (dC (o2 .add (argVar 0) (gV (litR (.int 1)))) (dN)))) (tB (o2 .notIn (argVar 5) (argVar 4))) (o2 .add (argVar 4) (gV (oD .tup (dC (varR 5) (dN))))))))) (sRet (oG .tupleOf (gC (argVar 1) (gN))))))
def b_rows_seen (cl : Cl) : En → R Fl := sSeq (sExp (clR cl 5 (dC (varR 0) (dC (varR 1) (dC (varR 2) (dN)))))) (sRet (oG .tupleOf (gC (gV (lcE [3, 4] (.nm 4) (itE .seq (d1 (clR cl 3 (dC (varR 0) (dN))))) (tAnd (tB (o2 .isIn (argVar 1) (gV (oD .tup (dC (litR (.int 0)) (dC (clR cl 2 (dC (varR 4) (dN))) (dN))))))) (tB (o2 .isIn (argVar 2) (gV (oD .tup (dC (litR (.int 0)) (dC (clR cl 2 (dC (o1 .rev (argVar 4)) (dN))) (dN)))))))) (varR 4))) (gN))))
def b_look_at_seen (cl : Cl) : En → R Fl := sIf (tOr (tNot (tB (clR cl 1 (dC (varR 0) (dN))))) (tNot (tB (oG .all (gC (gV (lcE [3, 4] (.nm 4) (itE .seq (d1 (oD .tup (dC (varR 1) (dC (varR 2) (dN)))))) (sYes) (eAnd (clR cl 0 (dC (varR 4) (dN))) (chR .le .le (litR (.int 0)) (varR 4) (varR 0))))) (gN)))))) (sRaise 1) (sEnd .nx)
def b_look_at_count (cl : Cl) : En → R Fl := sIf (tOr (tNot (tB (clR cl 0 (dC (varR 0) (dN))))) (tOr (tNot (tB (chR .le .le (litR (.int 0)) (varR 0) (litR (.int 40))))) (tOr (tNot (tB (clR cl 0 (dC (varR 1) (dN))))) (tB (o2 .lt (argVar 1) (gV (litR (.int 0)))))))) (sRaise 1) (sEnd .nx)
def b_count_seen (cl : Cl) : En → R Fl := sSeq (sExp (clR cl 6 (dC (varR 0) (dC (varR 1) (dN))))) (sSeq (sSet 2 (oV (oD .lst (dC (litR (.int 1)) (dN))))) (sSeq (sFor (.nm 3) (itE .rng1 (dC (varR 0) (dN))) (sSet 2 (oV (lcE [4, 5] (.nm 5) (itE .rng1 (dC (o2 .add (gV (oG .len (gC (argVar 2) (gN)))) (gV (litR (.int 1)))) (dN))) (sYes) (o2 .add (gV (o2 .mul (argVar 3) (gV (eIf (tB (o2 .lt (argVar 5) (gV (oG .len (gC (argVar 2) (gN)))))) (o2 .ix (argVar 2) (argVar 5)) (litR (.int 0)))))) (gV (eIf (tB (o2 .gt (argVar 5) (gV (litR (.int 0))))) (o2 .ix (argVar 2) (gV (o2 .sub (argVar 5) (gV (litR (.int 1)))))) (litR (.int 0))))))))) (sRet (eIf (tB (o2 .lt (argVar 1) (gV (oG .len (gC (argVar 2) (gN)))))) (o2 .ix (argVar 2) (argVar 1)) (litR (.int 0))))))
def b_choose (cl : Cl) : En → R Fl := sSeq (sIf (tNot (tB (chR .le .le (litR (.int 0)) (varR 1) (varR 0)))) (sRet (litR (.int 0))) (sEnd .nx)) (sSeq (sSet 2 (oV (litR (.int 1)))) (sSeq (sFor (.nm 3) (itE .rng1 (dC (varR 1) (dN))) (sSet 2 (oV (o2 .fdiv (gV (o2 .mul (argVar 2) (gV (o2 .sub (argVar 0) (argVar 3))))) (gV (o2 .add (argVar 3) (gV (litR (.int 1))))))))) (sRet (varR 2))))
def b_count_both (cl : Cl) : En → R Fl := sSeq (sExp (clR cl 6 (dC (varR 0) (dC (varR 1) (dN))))) (sSeq (sExp (clR cl 6 (dC (varR 0) (dC (varR 2) (dN))))) (sSeq (sIf (tOr (tB (o2 .eq (argVar 0) (gV (litR (.int 0))))) (tOr (tB (o2 .eq (argVar 1) (gV (litR (.int 0))))) (tB (o2 .eq (argVar 2) (gV (litR (.int 0))))))) (sRet (oG .int (gC (gV (eAnd (o2 .eq (argVar 0) (gV (litR (.int 0)))) (eAnd (o2 .eq (argVar 1) (gV (litR (.int 0)))) (o2 .eq (argVar 2) (gV (litR (.int 0))))))) (gN)))) (sEnd .nx)) (sSeq (sIf (tB (o2 .gt (gV (o2 .sub (gV (o2 .add (argVar 1) (argVar 2))) (gV (litR (.int 1))))) (argVar 0))) (sRet (litR (.int 0))) (sEnd .nx)) (sRet (o2 .mul (gV (clR cl 8 (dC (o2 .sub (gV (o2 .add (argVar 1) (argVar 2))) (gV (litR (.int 2)))) (dC (o2 .sub (argVar 1) (gV (litR (.int 1)))) (dN))))) (gV (clR cl 7 (dC (o2 .sub (argVar 0) (gV (litR (.int 1)))) (dC (o2 .sub (gV (o2 .add (argVar 1) (argVar 2))) (gV (litR (.int 2)))) (dN))))))))))
def b__law_draws (cl : Cl) : En → R Fl := sRetf (oO (oD .lst (dC (oG .listOf (gC (argVar 0) (gN))) (dC (litR (.int 0)) (dC (litR (.int 0)) (dC (litR (.int 1)) (dN)))))))
def b__law_draw (cl : Cl) : En → R Fl := sSeq (sIf (tAnd (tB (o2 .eq (gV (o2 .ix (argVar 0) (gV (litR (.int 2))))) (gV (litR (.int 0))))) (tB (o2 .lt (gV (o2 .ix (argVar 0) (gV (litR (.int 1))))) (gV (oG .len (gC (gV (o2 .ix (argVar 0) (gV (litR (.int 0))))) (gN))))))) (sSeq (sSet 2 (oV (o2 .ix (gV (o2 .ix (argVar 0) (gV (litR (.int 0))))) (gV (o2 .ix (argVar 0) (gV (litR (.int 1)))))))) (sSeq (sPut 0 (litR (.int 1)) (o2 .add (gV (o2 .ix (argVar 0) (gV (litR (.int 1))))) (gV (litR (.int 1))))) (sSeq (sIf (tB (o2 .ge (argVar 2) (gV (o2 .pow (gV (litR (.int 10))) (gV (litR (.int 18))))))) (sPut 0 (litR (.int 2)) (varR 2)) (sEnd .nx)) (sPut 0 (litR (.int 3)) (o2 .mod (gV (oG .int (gC (gV (o2 .add (gV (o2 .add (gV (o2 .mul (gV (o2 .ix (argVar 0) (gV (litR (.int 3))))) (gV (litR (.int 48271))))) (argVar 2))) (gV (litR (.int 13))))) (gN)))) (gV (litR (.int 2147483647)))))))) (sEnd .nx)) (sSeq (sIf (tB (o2 .gt (gV (o2 .ix (argVar 0) (gV (litR (.int 2))))) (gV (litR (.int 0))))) (sSeq (sSet 3 (oV (o2 .mod (gV (oG .int (gC (gV (o2 .ix (argVar 0) (gV (litR (.int 2))))) (gN)))) (argVar 1)))) (sSeq (sPut 0 (litR (.int 2)) (o2 .fdiv (gV (o2 .ix (argVar 0) (gV (litR (.int 2))))) (argVar 1))) (sRet (varR 3)))) (sEnd .nx)) (sSeq (sPut 0 (litR (.int 3)) (o2 .mod (gV (oG .int (gC (gV (o2 .add (gV (o2 .mul (gV (o2 .ix (argVar 0) (gV (litR (.int 3))))) (gV (litR (.int 69621))))) (gV (litR (.int 7))))) (gN)))) (gV (litR (.int 2147483629))))) (sRet (o2 .mod (gV (oG .int (gC (gV (o2 .fdiv (gV (o2 .ix (argVar 0) (gV (litR (.int 3))))) (gV (litR (.int 11))))) (gN)))) (argVar 1)))))
def b__law_same (cl : Cl) : En → R Fl := sSeq (sIf (tOr (tB (o1 (.isi 2) (argVar 1))) (tB (o1 (.isi 3) (argVar 1)))) (sSeq (sIf (tOr (tB (o2 .ne (gV (o1 (.isi 2) (argVar 1))) (gV (o1 (.isi 2) (argVar 0))))) (tB (o2 .ne (gV (o1 (.isi 3) (argVar 1))) (gV (o1 (.isi 3) (argVar 0)))))) (sRet (litR (.bl false))) (sEnd .nx)) (sSeq (sIf (tB (o2 .ne (gV (oG .len (gC (argVar 0) (gN)))) (gV (oG .len (gC (argVar 1) (gN)))))) (sRet (litR (.bl false))) (sEnd .nx)) (sRet (o2 .eq (gV (oG .len (gC (gV (lcE [2, 3] (.nm 3) (itE .rng1 (dC (oG .len (gC (argVar 1) (gN))) (dN))) (tNot (tB (clR cl 12 (dC (o2 .ix (argVar 0) (argVar 3)) (dC (o2 .ix (argVar 1) (argVar 3)) (dN)))))) (varR 3))) (gN)))) (gV (litR (.int 0))))))) (sEnd .nx)) (sSeq (sIf (tB (o1 (.isi 4) (argVar 1))) (sRet (eAnd (o1 (.isi 4) (argVar 0)) (o2 .eq (argVar 0) (argVar 1)))) (sEnd .nx)) (sSeq (sIf (tB (o2 .isN (argVar 1) (gV (litR .non)))) (sRet (o2 .isN (argVar 0) (gV (litR .non)))) (sEnd .nx)) (sSeq (sIf (tOr (tB (o1 (.isi 1) (argVar 1))) (tB (o1 (.isi 1) (argVar 0)))) (sRet (eAnd (o1 (.isi 1) (argVar 1)) (eAnd (o1 (.isi 1) (argVar 0)) (o2 .eq (argVar 0) (argVar 1))))) (sEnd .nx)) (sRet (eAnd (o1 (.isi 0) (argVar 0)) (eAnd (o1 (.isi 0) (argVar 1)) (o2 .eq (argVar 0) (argVar 1))))))))
def b__law_both (cl : Cl) : En → R Fl := sSeq (sSet 1 (oV (dct1R true (oD .tup (dC (litR (.int 1)) (dC (litR (.int 1)) (dN)))) (litR (.int 1))))) (sSeq (sFor (.nm 2) (itE .rng2 (dC (litR (.int 1)) (dC (varR 0) (dN)))) (sSeq (sSet 3 (oO (oD .dnewT dN))) (sSeq (sFor (.tp [4, 5]) (itE .seq (d1 (oG .sorted (gC (argVar 1) (gN))))) (sSeq (sSet 6 (oV (o2 .ix (argVar 1) (gV (oD .tup (dC (varR 4) (dC (varR 5) (dN)))))))) (sFor (.tp [7, 8]) (itE .seq (d1 (oD .lst (dC (oD .tup (dC (oD .tup (dC (o2 .add (argVar 4) (gV (litR (.int 1)))) (dC (varR 5) (dN)))) (dC (litR (.int 1)) (dN)))) (dC (oD .tup (dC (oD .tup (dC (varR 4) (dC (o2 .add (argVar 5) (gV (litR (.int 1)))) (dN)))) (dC (litR (.int 1)) (dN)))) (dC (oD .tup (dC (oD .tup (dC (varR 4) (dC (varR 5) (dN)))) (dC (o2 .sub (argVar 2) (gV (litR (.int 1)))) (dN)))) (dN))))))) (sPut 3 (varR 7) (o2 .add (gV (get2R (argVar 3) (varR 7) (litR (.int 0)))) (gV (o2 .mul (argVar 6) (argVar 8)))))))) (sSet 1 (oV (varR 3)))))) (sRet (varR 1)))
def b_law (cl : Cl) : En → R Fl := sSeq (sSet 1 (clfR cl 10 (dC (varR 0) (dN)))) (sSeq (sSet 2 (oV (o2 .add (gV (litR (.int 1))) (gV (clioR cl 11 1 (dC (litR (.int 40)) (dN))))))) (sSeq (sUnp (.tp [3, 4]) (oD .tup (dC (clR cl 13 (dC (varR 2) (dN))) (dC (litR (.int 1)) (dN))))) (sSeq (sFor (.nm 5) (itE .rng2 (dC (litR (.int 1)) (dC (o2 .add (argVar 2) (gV (litR (.int 1)))) (dN)))) (sSet 4 (oV (o2 .mul (argVar 4) (argVar 5))))) (sSeq (sIf (tB (o2 .ne (gV (oG .sum (gC (gV (lcE [13, 14] (.nm 14) (itE .seq (d1 (oG .sorted (gC (argVar 3) (gN))))) (sYes) (o2 .ix (argVar 3) (argVar 14)))) (gN)))) (argVar 4))) (sRet (litR (.bl false))) (sEnd .nx)) (sSeq (sFor (.nm 6) (itE .rng1 (dC (litR (.int 12)) (dN))) (sSeq (sUnp (.tp [7, 8]) (oD .tup (dC (clioR cl 11 1 (dC (o2 .add (gV (oG .min2 (gC (argVar 2) (gC (gV (litR (.int 12))) (gN))))) (gV (litR (.int 2)))) (dN))) (dC (clioR cl 11 1 (dC (o2 .add (gV (oG .min2 (gC (argVar 2) (gC (gV (litR (.int 12))) (gN))))) (gV (litR (.int 2)))) (dN))) (dN))))) (sIf (tNot (tB (clR cl 12 (dC (clR cl 9 (dC (varR 2) (dC (varR 7) (dC (varR 8) (dN))))) (dC (get2R (argVar 3) (oD .tup (dC (varR 7) (dC (varR 8) (dN)))) (litR (.int 0))) (dN)))))) (sRet (litR (.bl false))) (sEnd .nx)))) (sSeq (sSet 9 (oV (o2 .add (gV (o2 .add (argVar 2) (gV (litR (.int 1))))) (gV (clioR cl 11 1 (dC (o2 .pow (gV (litR (.int 10))) (gV (litR (.int 9)))) (dN))))))) (sSeq (sIf (tNot (tB (clR cl 12 (dC (oD .lst (dC (clR cl 9 (dC (varR 2) (dC (varR 9) (dC (litR (.int 1)) (dN))))) (dC (clR cl 9 (dC (varR 2) (dC (litR (.int 1)) (dC (varR 9) (dN))))) (dC (clR cl 7 (dC (varR 2) (dC (varR 9) (dN)))) (dN))))) (dC (oD .lst (dC (litR (.int 0)) (dC (litR (.int 0)) (dC (litR (.int 0)) (dN))))) (dN)))))) (sRet (litR (.bl false))) (sEnd .nx)) (sSeq (sFor (.nm 7) (itE .rng1 (dC (o2 .add (argVar 2) (gV (litR (.int 2)))) (dN))) (sSeq (sSet 10 (oV (oG .sum (gC (gV (lcE [13, 14] (.nm 14) (itE .seq (d1 (oG .sorted (gC (argVar 3) (gN))))) (tB (o2 .eq (gV (o2 .ix (argVar 14) (gV (litR (.int 0))))) (argVar 7))) (o2 .ix (argVar 3) (argVar 14)))) (gN))))) (sIf (tNot (tB (clR cl 12 (dC (oD .lst (dC (clR cl 7 (dC (varR 2) (dC (varR 7) (dN)))) (dC (oG .sum (gC (gV (lcE [13, 8] (.nm 8) (itE .rng1 (dC (o2 .add (argVar 2) (gV (litR (.int 1)))) (dN))) (sYes) (clR cl 9 (dC (varR 2) (dC (varR 7) (dC (varR 8) (dN))))))) (gN))) (dN)))) (dC (oD .lst (dC (varR 10) (dC (varR 10) (dN)))) (dN)))))) (sRet (litR (.bl false))) (sEnd .nx)))) (sSeq (sSet 11 (oV (o2 .add (gV (litR (.int 1))) (gV (clioR cl 11 1 (dC (litR (.int 6)) (dN))))))) (sSeq (sSet 12 (oV (clR cl 13 (dC (varR 11) (dN))))) (sSeq (sFor (.nm 7) (itE .rng2 (dC (litR (.int 1)) (dC (o2 .add (argVar 11) (gV (litR (.int 1)))) (dN)))) (sIf (tNot (tB (clR cl 12 (dC (lcE [13, 8] (.nm 8) (itE .rng2 (dC (litR (.int 1)) (dC (o2 .add (argVar 11) (gV (litR (.int 1)))) (dN)))) (sYes) (oG .len (gC (gV (clR cl 4 (dC (varR 11) (dC (varR 7) (dC (varR 8) (dN)))))) (gN)))) (dC (lcE [13, 8] (.nm 8) (itE .rng2 (dC (litR (.int 1)) (dC (o2 .add (argVar 11) (gV (litR (.int 1)))) (dN)))) (sYes) (get2R (argVar 12) (oD .tup (dC (varR 7) (dC (varR 8) (dN)))) (litR (.int 0)))) (dN)))))) (sRet (litR (.bl false))) (sEnd .nx))) (sRet (litR (.bl true))))))))))))))
def tb : List FD := [⟨"is_whole", 1, 1, 0, b_is_whole⟩, ⟨"is_size", 1, 1, 0, b_is_size⟩, ⟨"seen", 1, 4, 0, b_seen⟩, ⟨"all_rows", 1, 6, 0, b_all_rows⟩, ⟨"rows_seen", 3, 5, 0, b_rows_seen⟩, ⟨"look_at_seen", 3, 5, 0, b_look_at_seen⟩, ⟨"look_at_count", 2, 2, 0, b_look_at_count⟩, ⟨"count_seen", 2, 6, 0, b_count_seen⟩, ⟨"choose", 2, 4, 0, b_choose⟩, ⟨"count_both", 3, 3, 0, b_count_both⟩, ⟨"_law_draws", 1, 1, 1, b__law_draws⟩, ⟨"_law_draw", 2, 4, 2, b__law_draw⟩, ⟨"_law_same", 2, 4, 0, b__law_same⟩, ⟨"_law_both", 1, 9, 0, b__law_both⟩, ⟨"law", 1, 15, 0, b_law⟩]
structure Hd (K : PySem.W.Frag) (mg : Str → Option Value) (ex : Nat → Addr) : Prop where
  f_all : mg "all" = none
  f_bool : mg "bool" = none
  f_int : mg "int" = none
  f_isinstance : mg "isinstance" = none
  f_len : mg "len" = none
  f_list : mg "list" = none
  f_min : mg "min" = none
  f_range : mg "range" = none
  f_sorted : mg "sorted" = none
  f_str : mg "str" = none
  f_sum : mg "sum" = none
  f_tuple : mg "tuple" = none
  c_MOST_SIZE : ∃ t, mg "MOST_SIZE" = some (.int 6 t)
  e_BadPuzzle : ExcOk K mg "BadPuzzle" (ex 1)
section
variable {fa : FAd} {ex : Nat → Addr} {P : Program} {w : World} {K : PySem.W.Frag} {mg : Str → Option Value} {base : Heap} {k : Nat} {f : Addr} {cdv : Value} {A : Around} {outer : List Env} {s : Shared} {H : Hp} {E : XK} {Oc : Addr → Prop} {G : Hp} {io : Option Addr}
abbrev N_is_whole : List Str := ["value"]
theorem w_is_whole (m : Hd K mg ex) (h : AllCal tb fa ex P w K mg base k) (hr : Room k (A.deeper (envOfC "is_whole" (defScope (top 4)) s.heap.objs.size f cdv))) :
    PSs (cxd P w K mg base N_is_whole "is_whole" (defScope (top 4)) f cdv A outer s H E) (defBody (top 4)) (tS ⟨K, fa, ex, Oc, G, io⟩ (fun cls d _ H => E cls d H) (b_is_whole (callN tb k))) := by
  have c := ccd (P := P) (w := w) (K := K) (mg := mg) (base := base) (N := N_is_whole) (x := "is_whole") (sc := defScope (top 4)) (f := f) (cdv := cdv) (A := A) (outer := outer) (s := s) (H := H) (E := E) (fa := fa) (ex := ex) (Oc := Oc) (G := G) (io := io) hr (by decide +kernel)
  have hp := hpd (P := P) (w := w) (K := K) (mg := mg) (base := base) (N := N_is_whole) (x := "is_whole") (sc := defScope (top 4)) (f := f) (cdv := cdv) (A := A) (outer := outer) (s := s) (H := H) (E := E)
  refine SS_one ?_
  exact S_ret (E_and (E_isi (T := 0) c (G_b (i := 0) rfl (.inl (by rfl)) rfl rfl) (by rfl) (Hd.f_isinstance m) (by rfl) (Hd.f_int m) (by decide +kernel) (by decide) (by rfl) (by rfl)) (E_one (E_not (E_isi (T := 1) c (G_b (i := 0) rfl (.inl (by rfl)) rfl rfl) (by rfl) (Hd.f_isinstance m) (by rfl) (Hd.f_bool m) (by decide +kernel) (by decide) (by rfl) (by rfl)))))
abbrev N_is_size : List Str := ["value"]
theorem w_is_size (m : Hd K mg ex) (h : AllCal tb fa ex P w K mg base k) (hr : Room k (A.deeper (envOfC "is_size" (defScope (top 7)) s.heap.objs.size f cdv))) :
    PSs (cxd P w K mg base N_is_size "is_size" (defScope (top 7)) f cdv A outer s H E) (defBody (top 7)) (tS ⟨K, fa, ex, Oc, G, io⟩ (fun cls d _ H => E cls d H) (b_is_size (callN tb k))) := by
  have c := ccd (P := P) (w := w) (K := K) (mg := mg) (base := base) (N := N_is_size) (x := "is_size") (sc := defScope (top 7)) (f := f) (cdv := cdv) (A := A) (outer := outer) (s := s) (H := H) (E := E) (fa := fa) (ex := ex) (Oc := Oc) (G := G) (io := io) hr (by decide +kernel)
  have hp := hpd (P := P) (w := w) (K := K) (mg := mg) (base := base) (N := N_is_size) (x := "is_size") (sc := defScope (top 7)) (f := f) (cdv := cdv) (A := A) (outer := outer) (s := s) (H := H) (E := E)
  refine SS_one ?_
  exact S_ret (E_and (E_call c (h 0 _ rfl) rfl rfl (by rfl) (D_cons (E_var (i := 0) rfl (.inl (by rfl)) rfl rfl) (D_nil) (by rfl)) rfl (by rfl) (by rfl) (by rfl)) (E_one (E_chain c p_le p_le (E_int) (E_var (i := 0) rfl (.inl (by rfl)) rfl rfl) (E_con (by rfl) (Hd.c_MOST_SIZE m) (by rfl)) (by with_unfolding_all rfl))))
abbrev N_seen : List Str := ["row", "most", "found", "one"]
theorem w_seen (m : Hd K mg ex) (h : AllCal tb fa ex P w K mg base k) (hr : Room k (A.deeper (envOfC "seen" (defScope (top 8)) s.heap.objs.size f cdv))) :
    PSs (cxd P w K mg base N_seen "seen" (defScope (top 8)) f cdv A outer s H E) (defBody (top 8)) (tS ⟨K, fa, ex, Oc, G, io⟩ (fun cls d _ H => E cls d H) (b_seen (callN tb k))) := by
  have c := ccd (P := P) (w := w) (K := K) (mg := mg) (base := base) (N := N_seen) (x := "seen") (sc := defScope (top 8)) (f := f) (cdv := cdv) (A := A) (outer := outer) (s := s) (H := H) (E := E) (fa := fa) (ex := ex) (Oc := Oc) (G := G) (io := io) hr (by decide +kernel)
  have hp := hpd (P := P) (w := w) (K := K) (mg := mg) (base := base) (N := N_seen) (x := "seen") (sc := defScope (top 8)) (f := f) (cdv := cdv) (A := A) (outer := outer) (s := s) (H := H) (E := E)
  refine SS_cons ?_ ?_
  · exact S_unp (tg := .tp [1, 2]) (E_tup (D_cons (E_int) (D_cons (E_int) (D_nil) (by rfl)) (by rfl))) (Tg_tp c (Tgs_cons (tg_nm (i := 1) (Cc.nd c) rfl (.inl rfl) (.inl rfl)) (Tgs_cons (tg_nm (i := 2) (Cc.nd c) rfl (.inl rfl) (.inl rfl)) (tgs_nil) (by rfl)) (by rfl)) rfl (by rfl) (by rfl)) (by rfl) (by rfl) (by rfl)
  · refine SS_cons ?_ ?_
    · refine S_for c hp ?_ ?_ ?_ (by intro _; rfl)
      · exact I_seq c (E_var (i := 0) rfl (.inl (by rfl)) rfl rfl)
      · exact tg_nm (i := 3) (Cc.nd c) rfl (.inl rfl) (.inl rfl)
      · refine SS_one ?_
        refine S_if ?_ ?_ ?_
        · exact T_cmp c p_gt (G_b (i := 3) rfl (.inl (by rfl)) rfl rfl) (G_b (i := 1) rfl (.inl (by rfl)) rfl rfl) (by with_unfolding_all rfl)
        · refine SS_one ?_
          exact S_par (i := 1) (j := 2) c rfl rfl (by decide) (by rfl) (by rfl) (O_v (E_var (i := 3) rfl (.inl (by rfl)) rfl rfl)) (O_v (E_bin c p_add (G_b (i := 2) rfl (.inl (by rfl)) rfl rfl) (G_v (E_int)))) (by rfl) (by rfl) (by rfl) (by rfl)
        · exact SS_nil
    · refine SS_one ?_
      exact S_ret (E_var (i := 2) rfl (.inl (by rfl)) rfl rfl)
abbrev N_all_rows : List Str := ["size", "rows", "_", ".0", "row", "one"]
theorem w_all_rows (m : Hd K mg ex) (h : AllCal tb fa ex P w K mg base k) (hr : Room k (A.deeper (envOfC "all_rows" (defScope (top 9)) s.heap.objs.size f cdv))) :
    PSs (cxd P w K mg base N_all_rows "all_rows" (defScope (top 9)) f cdv A outer s H E) (defBody (top 9)) (tS ⟨K, fa, ex, Oc, G, io⟩ (fun cls d _ H => E cls d H) (b_all_rows (callN tb k))) := by
  have c := ccd (P := P) (w := w) (K := K) (mg := mg) (base := base) (N := N_all_rows) (x := "all_rows") (sc := defScope (top 9)) (f := f) (cdv := cdv) (A := A) (outer := outer) (s := s) (H := H) (E := E) (fa := fa) (ex := ex) (Oc := Oc) (G := G) (io := io) hr (by decide +kernel)
  have hp := hpd (P := P) (w := w) (K := K) (mg := mg) (base := base) (N := N_all_rows) (x := "all_rows") (sc := defScope (top 9)) (f := f) (cdv := cdv) (A := A) (outer := outer) (s := s) (H := H) (E := E)
  refine SS_cons ?_ ?_
  · refine S_if ?_ ?_ ?_
    · exact T_not (T_val (E_call c (h 1 _ rfl) rfl rfl (by rfl) (D_cons (E_var (i := 0) rfl (.inr (.inl (by rfl))) rfl rfl) (D_nil) (by rfl)) rfl (by rfl) (by rfl) (by rfl)) (by intro _; rfl))
    · refine SS_one ?_
      exact S_raise (c := 1) c (Hd.e_BadPuzzle m) (by rfl) (by rfl)
    · exact SS_nil
  · refine SS_cons ?_ ?_
    · exact S_set (i := 1) c rfl (.inl rfl) (O_v (E_lst (D_cons (E_tup (D_nil)) (D_nil) (by rfl)))) (.inl rfl) (by rfl)
    · refine SS_cons ?_ ?_
      · refine S_for c hp ?_ ?_ ?_ (by intro _; rfl)
        · exact I_r1 (by rfl) (Hd.f_range m) (D_cons (E_var (i := 0) rfl (.inr (.inl (by rfl))) rfl rfl) (D_nil) (by rfl)) (by rfl)
        · exact tg_nm (i := 2) (Cc.nd c) rfl (.inl rfl) (.inl rfl)
        · refine SS_one ?_
          exact S_lc2 (own := [(".0", 3), ("row", 4), ("one", 5)]) (tg := .nm 4) (tg2 := .nm 5) c (j := 1) rfl rfl rfl (I_seq c (E_var (i := 1) rfl (.inl (by rfl)) rfl rfl)) (blkOk_by (by kernel_rfl)) (by decide) (by decide) (fun _ _ _ _ _ => tg_nm (i := 4) (Cc.nd (Cc.blk c)) rfl (.inl rfl) (.inr rfl)) (fun _ _ _ _ _ => Ts_nil) (fun _ _ _ _ _ => I_r2 (by rfl) (Hd.f_range m) (D_cons (E_int) (D_cons (E_bin (Cc.blk c) p_add (G_b (i := 0) rfl (.inr (.inl (by rfl))) rfl rfl) (G_v (E_int))) (D_nil) (by rfl)) (by rfl)) (by rfl) (by rfl)) (fun _ _ _ _ _ => tg_nm (i := 5) (Cc.nd (Cc.blk c)) rfl (.inl rfl) (.inr rfl)) (fun _ _ _ _ _ => Ts_one (T_cmp (Cc.blk c) (p_notIn (Cc.un (Cc.blk c))) (G_b (i := 5) rfl (.inl (by rfl)) rfl rfl) (G_b (i := 4) rfl (.inl (by rfl)) rfl rfl) (by with_unfolding_all rfl))) (fun _ _ _ _ _ => E_bin (Cc.blk c) p_add (G_b (i := 4) rfl (.inl (by rfl)) rfl rfl) (G_v (E_tup (D_cons (E_var (i := 5) rfl (.inl (by rfl)) rfl rfl) (D_nil) (by rfl))))) (by intro _; rfl) (by intro _ _; rfl)
      · refine SS_one ?_
        exact S_ret (E_ty c p_tupleOf (by rfl) (Hd.f_tuple m) (by decide +kernel) (A_cons (G_b (i := 1) rfl (.inl (by rfl)) rfl rfl) (A_nil) (by rfl)) (by decide) (by rfl) (by rfl) (by rfl))
abbrev N_rows_seen : List Str := ["size", "first", "last", ".0", "row"]
theorem w_rows_seen (m : Hd K mg ex) (h : AllCal tb fa ex P w K mg base k) (hr : Room k (A.deeper (envOfC "rows_seen" (defScope (top 10)) s.heap.objs.size f cdv))) :
    PSs (cxd P w K mg base N_rows_seen "rows_seen" (defScope (top 10)) f cdv A outer s H E) (defBody (top 10)) (tS ⟨K, fa, ex, Oc, G, io⟩ (fun cls d _ H => E cls d H) (b_rows_seen (callN tb k))) := by
  have c := ccd (P := P) (w := w) (K := K) (mg := mg) (base := base) (N := N_rows_seen) (x := "rows_seen") (sc := defScope (top 10)) (f := f) (cdv := cdv) (A := A) (outer := outer) (s := s) (H := H) (E := E) (fa := fa) (ex := ex) (Oc := Oc) (G := G) (io := io) hr (by decide +kernel)
  have hp := hpd (P := P) (w := w) (K := K) (mg := mg) (base := base) (N := N_rows_seen) (x := "rows_seen") (sc := defScope (top 10)) (f := f) (cdv := cdv) (A := A) (outer := outer) (s := s) (H := H) (E := E)
  refine SS_cons ?_ ?_
  · exact S_exp (E_call c (h 5 _ rfl) rfl rfl (by rfl) (D_cons (E_var (i := 0) rfl (.inl (by rfl)) rfl rfl) (D_cons (E_var (i := 1) rfl (.inr (.inl (by rfl))) rfl rfl) (D_cons (E_var (i := 2) rfl (.inr (.inl (by rfl))) rfl rfl) (D_nil) (by rfl)) (by rfl)) (by rfl)) rfl (by rfl) (by rfl) (by rfl)) (by rfl)
  · refine SS_one ?_
    exact S_ret (E_ty c p_tupleOf (by rfl) (Hd.f_tuple m) (by decide +kernel) (A_cons (G_v (E_lc (own := [(".0", 3), ("row", 4)]) (tg := .nm 4) c (I_seq c (E_call c (h 3 _ rfl) rfl rfl (by rfl) (D_cons (E_var (i := 0) rfl (.inl (by rfl)) rfl rfl) (D_nil) (by rfl)) rfl (by rfl) (by rfl) (by rfl))) (blkOk_by (by kernel_rfl)) (by decide) (fun _ _ _ _ _ => tg_nm (i := 4) (Cc.nd (Cc.blk c)) rfl (.inl rfl) (.inr rfl)) (fun _ _ _ _ _ => Ts_one (T_w (W_and (T_cmp (Cc.blk c) (p_isIn (Cc.un (Cc.blk c))) (G_b (i := 1) rfl (.inr (.inl (by rfl))) rfl rfl) (G_v (E_tup (D_cons (E_int) (D_cons (E_call (Cc.blk c) (h 2 _ rfl) rfl rfl (by rfl) (D_cons (E_var (i := 4) rfl (.inl (by rfl)) rfl rfl) (D_nil) (by rfl)) rfl (by rfl) (by rfl) (by rfl)) (D_nil) (by rfl)) (by rfl)))) (by with_unfolding_all rfl)) (W_and1 (T_cmp (Cc.blk c) (p_isIn (Cc.un (Cc.blk c))) (G_b (i := 2) rfl (.inr (.inl (by rfl))) rfl rfl) (G_v (E_tup (D_cons (E_int) (D_cons (E_call (Cc.blk c) (h 2 _ rfl) rfl rfl (by rfl) (D_cons (E_rev (Cc.blk c) (G_b (i := 4) rfl (.inl (by rfl)) rfl rfl)) (D_nil) (by rfl)) rfl (by rfl) (by rfl) (by rfl)) (D_nil) (by rfl)) (by rfl)))) (by with_unfolding_all rfl)))))) (fun _ _ _ _ _ => E_var (i := 4) rfl (.inl (by rfl)) rfl rfl) (by intro _; rfl))) (A_nil) (by rfl)) (by decide) (by rfl) (by rfl) (by rfl))
abbrev N_look_at_seen : List Str := ["size", "first", "last", ".0", "one"]
theorem w_look_at_seen (m : Hd K mg ex) (h : AllCal tb fa ex P w K mg base k) (hr : Room k (A.deeper (envOfC "look_at_seen" (defScope (top 11)) s.heap.objs.size f cdv))) :
    PSs (cxd P w K mg base N_look_at_seen "look_at_seen" (defScope (top 11)) f cdv A outer s H E) (defBody (top 11)) (tS ⟨K, fa, ex, Oc, G, io⟩ (fun cls d _ H => E cls d H) (b_look_at_seen (callN tb k))) := by
  have c := ccd (P := P) (w := w) (K := K) (mg := mg) (base := base) (N := N_look_at_seen) (x := "look_at_seen") (sc := defScope (top 11)) (f := f) (cdv := cdv) (A := A) (outer := outer) (s := s) (H := H) (E := E) (fa := fa) (ex := ex) (Oc := Oc) (G := G) (io := io) hr (by decide +kernel)
  have hp := hpd (P := P) (w := w) (K := K) (mg := mg) (base := base) (N := N_look_at_seen) (x := "look_at_seen") (sc := defScope (top 11)) (f := f) (cdv := cdv) (A := A) (outer := outer) (s := s) (H := H) (E := E)
  refine SS_one ?_
  refine S_if ?_ ?_ ?_
  · exact T_w (W_or (T_not (T_val (E_call c (h 1 _ rfl) rfl rfl (by rfl) (D_cons (E_var (i := 0) rfl (.inr (.inl (by rfl))) rfl rfl) (D_nil) (by rfl)) rfl (by rfl) (by rfl) (by rfl)) (by intro _; rfl))) (W_or1 (T_not (T_val (E_blt c (p_all (Cc.calm c)) (by rfl) (Hd.f_all m) (by decide +kernel) (A_cons (G_v (E_lc (own := [(".0", 3), ("one", 4)]) (tg := .nm 4) c (I_seq c (E_tup (D_cons (E_var (i := 1) rfl (.inl (by rfl)) rfl rfl) (D_cons (E_var (i := 2) rfl (.inl (by rfl)) rfl rfl) (D_nil) (by rfl)) (by rfl)))) (blkOk_by (by kernel_rfl)) (by decide) (fun _ _ _ _ _ => tg_nm (i := 4) (Cc.nd (Cc.blk c)) rfl (.inl rfl) (.inr rfl)) (fun _ _ _ _ _ => Ts_nil) (fun _ _ _ _ _ => E_and (E_call (Cc.blk c) (h 0 _ rfl) rfl rfl (by rfl) (D_cons (E_var (i := 4) rfl (.inl (by rfl)) rfl rfl) (D_nil) (by rfl)) rfl (by rfl) (by rfl) (by rfl)) (E_one (E_chain (Cc.blk c) p_le p_le (E_int) (E_var (i := 4) rfl (.inl (by rfl)) rfl rfl) (E_var (i := 0) rfl (.inr (.inl (by rfl))) rfl rfl) (by with_unfolding_all rfl)))) (by intro _; rfl))) (A_nil) (by rfl)) (by decide) (by rfl) (by rfl) (by rfl)) (by intro _; rfl)))))
  · refine SS_one ?_
    exact S_raise (c := 1) c (Hd.e_BadPuzzle m) (by rfl) (by rfl)
  · exact SS_nil
abbrev N_look_at_count : List Str := ["size", "many"]
theorem w_look_at_count (m : Hd K mg ex) (h : AllCal tb fa ex P w K mg base k) (hr : Room k (A.deeper (envOfC "look_at_count" (defScope (top 12)) s.heap.objs.size f cdv))) :
    PSs (cxd P w K mg base N_look_at_count "look_at_count" (defScope (top 12)) f cdv A outer s H E) (defBody (top 12)) (tS ⟨K, fa, ex, Oc, G, io⟩ (fun cls d _ H => E cls d H) (b_look_at_count (callN tb k))) := by
  have c := ccd (P := P) (w := w) (K := K) (mg := mg) (base := base) (N := N_look_at_count) (x := "look_at_count") (sc := defScope (top 12)) (f := f) (cdv := cdv) (A := A) (outer := outer) (s := s) (H := H) (E := E) (fa := fa) (ex := ex) (Oc := Oc) (G := G) (io := io) hr (by decide +kernel)
  have hp := hpd (P := P) (w := w) (K := K) (mg := mg) (base := base) (N := N_look_at_count) (x := "look_at_count") (sc := defScope (top 12)) (f := f) (cdv := cdv) (A := A) (outer := outer) (s := s) (H := H) (E := E)
  refine SS_one ?_
  refine S_if ?_ ?_ ?_
  · exact T_w (W_or (T_not (T_val (E_call c (h 0 _ rfl) rfl rfl (by rfl) (D_cons (E_var (i := 0) rfl (.inl (by rfl)) rfl rfl) (D_nil) (by rfl)) rfl (by rfl) (by rfl) (by rfl)) (by intro _; rfl))) (W_or (T_not (T_chain c p_le p_le (E_int) (E_var (i := 0) rfl (.inl (by rfl)) rfl rfl) (E_int) (by with_unfolding_all rfl))) (W_or (T_not (T_val (E_call c (h 0 _ rfl) rfl rfl (by rfl) (D_cons (E_var (i := 1) rfl (.inl (by rfl)) rfl rfl) (D_nil) (by rfl)) rfl (by rfl) (by rfl) (by rfl)) (by intro _; rfl))) (W_or1 (T_cmp c p_lt (G_b (i := 1) rfl (.inl (by rfl)) rfl rfl) (G_v (E_int)) (by with_unfolding_all rfl))))))
  · refine SS_one ?_
    exact S_raise (c := 1) c (Hd.e_BadPuzzle m) (by rfl) (by rfl)
  · exact SS_nil
abbrev N_count_seen : List Str := ["size", "many", "row", "at", ".0", "k"]
theorem w_count_seen (m : Hd K mg ex) (h : AllCal tb fa ex P w K mg base k) (hr : Room k (A.deeper (envOfC "count_seen" (defScope (top 13)) s.heap.objs.size f cdv))) :
    PSs (cxd P w K mg base N_count_seen "count_seen" (defScope (top 13)) f cdv A outer s H E) (defBody (top 13)) (tS ⟨K, fa, ex, Oc, G, io⟩ (fun cls d _ H => E cls d H) (b_count_seen (callN tb k))) := by
  have c := ccd (P := P) (w := w) (K := K) (mg := mg) (base := base) (N := N_count_seen) (x := "count_seen") (sc := defScope (top 13)) (f := f) (cdv := cdv) (A := A) (outer := outer) (s := s) (H := H) (E := E) (fa := fa) (ex := ex) (Oc := Oc) (G := G) (io := io) hr (by decide +kernel)
  have hp := hpd (P := P) (w := w) (K := K) (mg := mg) (base := base) (N := N_count_seen) (x := "count_seen") (sc := defScope (top 13)) (f := f) (cdv := cdv) (A := A) (outer := outer) (s := s) (H := H) (E := E)
  refine SS_cons ?_ ?_
  · exact S_exp (E_call c (h 6 _ rfl) rfl rfl (by rfl) (D_cons (E_var (i := 0) rfl (.inl (by rfl)) rfl rfl) (D_cons (E_var (i := 1) rfl (.inl (by rfl)) rfl rfl) (D_nil) (by rfl)) (by rfl)) rfl (by rfl) (by rfl) (by rfl)) (by rfl)
  · refine SS_cons ?_ ?_
    · exact S_set (i := 2) c rfl (.inr rfl) (O_v (E_lst (D_cons (E_int) (D_nil) (by rfl)))) (.inl rfl) (by rfl)
    · refine SS_cons ?_ ?_
      · refine S_for c hp ?_ ?_ ?_ (by intro _; rfl)
        · exact I_r1 (by rfl) (Hd.f_range m) (D_cons (E_var (i := 0) rfl (.inl (by rfl)) rfl rfl) (D_nil) (by rfl)) (by rfl)
        · exact tg_nm (i := 3) (Cc.nd c) rfl (.inr rfl) (.inl rfl)
        · refine SS_one ?_
          exact S_set (i := 2) c rfl (.inr rfl) (O_v (E_lc (own := [(".0", 4), ("k", 5)]) (tg := .nm 5) c (I_r1 (by rfl) (Hd.f_range m) (D_cons (E_bin c p_add (G_v (E_blt c p_len (by rfl) (Hd.f_len m) (by decide +kernel) (A_cons (G_b (i := 2) rfl (.inr (.inl (by rfl))) rfl rfl) (A_nil) (by rfl)) (by decide) (by rfl) (by rfl) (by rfl))) (G_v (E_int))) (D_nil) (by rfl)) (by rfl)) (blkOk_by (by kernel_rfl)) (by decide) (fun _ _ _ _ _ => tg_nm (i := 5) (Cc.nd (Cc.blk c)) rfl (.inl rfl) (.inr rfl)) (fun _ _ _ _ _ => Ts_nil) (fun _ _ _ _ _ => E_bin (Cc.blk c) p_add (G_v (E_bin (Cc.blk c) p_mul (G_b (i := 3) rfl (.inr (.inl (by rfl))) rfl rfl) (G_v (E_if (T_cmp (Cc.blk c) p_lt (G_b (i := 5) rfl (.inl (by rfl)) rfl rfl) (G_v (E_blt (Cc.blk c) p_len (by rfl) (Hd.f_len m) (by decide +kernel) (A_cons (G_b (i := 2) rfl (.inr (.inl (by rfl))) rfl rfl) (A_nil) (by rfl)) (by decide) (by rfl) (by rfl) (by rfl))) (by with_unfolding_all rfl)) (E_ix (Cc.blk c) (G_b (i := 2) rfl (.inr (.inl (by rfl))) rfl rfl) (G_b (i := 5) rfl (.inl (by rfl)) rfl rfl) (fun _ _ => rfl)) (E_int))))) (G_v (E_if (T_cmp (Cc.blk c) p_gt (G_b (i := 5) rfl (.inl (by rfl)) rfl rfl) (G_v (E_int)) (by with_unfolding_all rfl)) (E_ix (Cc.blk c) (G_b (i := 2) rfl (.inr (.inl (by rfl))) rfl rfl) (G_v (E_bin (Cc.blk c) p_sub (G_b (i := 5) rfl (.inl (by rfl)) rfl rfl) (G_v (E_int)))) (fun _ _ => rfl)) (E_int)))) (by intro _; rfl))) (.inl rfl) (by rfl)
      · refine SS_one ?_
        exact S_ret (E_if (T_cmp c p_lt (G_b (i := 1) rfl (.inl (by rfl)) rfl rfl) (G_v (E_blt c p_len (by rfl) (Hd.f_len m) (by decide +kernel) (A_cons (G_b (i := 2) rfl (.inr (.inl (by rfl))) rfl rfl) (A_nil) (by rfl)) (by decide) (by rfl) (by rfl) (by rfl))) (by with_unfolding_all rfl)) (E_ix c (G_b (i := 2) rfl (.inr (.inl (by rfl))) rfl rfl) (G_b (i := 1) rfl (.inl (by rfl)) rfl rfl) (fun _ _ => rfl)) (E_int))
abbrev N_choose : List Str := ["many", "some", "found", "at"]
theorem w_choose (m : Hd K mg ex) (h : AllCal tb fa ex P w K mg base k) (hr : Room k (A.deeper (envOfC "choose" (defScope (top 14)) s.heap.objs.size f cdv))) :
    PSs (cxd P w K mg base N_choose "choose" (defScope (top 14)) f cdv A outer s H E) (defBody (top 14)) (tS ⟨K, fa, ex, Oc, G, io⟩ (fun cls d _ H => E cls d H) (b_choose (callN tb k))) := by
  have c := ccd (P := P) (w := w) (K := K) (mg := mg) (base := base) (N := N_choose) (x := "choose") (sc := defScope (top 14)) (f := f) (cdv := cdv) (A := A) (outer := outer) (s := s) (H := H) (E := E) (fa := fa) (ex := ex) (Oc := Oc) (G := G) (io := io) hr (by decide +kernel)
  have hp := hpd (P := P) (w := w) (K := K) (mg := mg) (base := base) (N := N_choose) (x := "choose") (sc := defScope (top 14)) (f := f) (cdv := cdv) (A := A) (outer := outer) (s := s) (H := H) (E := E)
  refine SS_cons ?_ ?_
  · refine S_if ?_ ?_ ?_
    · exact T_not (T_chain c p_le p_le (E_int) (E_var (i := 1) rfl (.inl (by rfl)) rfl rfl) (E_var (i := 0) rfl (.inl (by rfl)) rfl rfl) (by with_unfolding_all rfl))
    · refine SS_one ?_
      exact S_ret (E_int)
    · exact SS_nil
  · refine SS_cons ?_ ?_
    · exact S_set (i := 2) c rfl (.inl rfl) (O_v (E_int)) (.inl rfl) (by rfl)
    · refine SS_cons ?_ ?_
      · refine S_for c hp ?_ ?_ ?_ (by intro _; rfl)
        · exact I_r1 (by rfl) (Hd.f_range m) (D_cons (E_var (i := 1) rfl (.inl (by rfl)) rfl rfl) (D_nil) (by rfl)) (by rfl)
        · exact tg_nm (i := 3) (Cc.nd c) rfl (.inl rfl) (.inl rfl)
        · refine SS_one ?_
          exact S_set (i := 2) c rfl (.inl rfl) (O_v (E_bin c p_fdiv (G_v (E_bin c p_mul (G_b (i := 2) rfl (.inl (by rfl)) rfl rfl) (G_v (E_bin c p_sub (G_b (i := 0) rfl (.inl (by rfl)) rfl rfl) (G_b (i := 3) rfl (.inl (by rfl)) rfl rfl))))) (G_v (E_bin c p_add (G_b (i := 3) rfl (.inl (by rfl)) rfl rfl) (G_v (E_int)))))) (.inl rfl) (by rfl)
      · refine SS_one ?_
        exact S_ret (E_var (i := 2) rfl (.inl (by rfl)) rfl rfl)
abbrev N_count_both : List Str := ["size", "first", "last"]
theorem w_count_both (m : Hd K mg ex) (h : AllCal tb fa ex P w K mg base k) (hr : Room k (A.deeper (envOfC "count_both" (defScope (top 15)) s.heap.objs.size f cdv))) :
    PSs (cxd P w K mg base N_count_both "count_both" (defScope (top 15)) f cdv A outer s H E) (defBody (top 15)) (tS ⟨K, fa, ex, Oc, G, io⟩ (fun cls d _ H => E cls d H) (b_count_both (callN tb k))) := by
  have c := ccd (P := P) (w := w) (K := K) (mg := mg) (base := base) (N := N_count_both) (x := "count_both") (sc := defScope (top 15)) (f := f) (cdv := cdv) (A := A) (outer := outer) (s := s) (H := H) (E := E) (fa := fa) (ex := ex) (Oc := Oc) (G := G) (io := io) hr (by decide +kernel)
  have hp := hpd (P := P) (w := w) (K := K) (mg := mg) (base := base) (N := N_count_both) (x := "count_both") (sc := defScope (top 15)) (f := f) (cdv := cdv) (A := A) (outer := outer) (s := s) (H := H) (E := E)
  refine SS_cons ?_ ?_
  · exact S_exp (E_call c (h 6 _ rfl) rfl rfl (by rfl) (D_cons (E_var (i := 0) rfl (.inl (by rfl)) rfl rfl) (D_cons (E_var (i := 1) rfl (.inl (by rfl)) rfl rfl) (D_nil) (by rfl)) (by rfl)) rfl (by rfl) (by rfl) (by rfl)) (by rfl)
  · refine SS_cons ?_ ?_
    · exact S_exp (E_call c (h 6 _ rfl) rfl rfl (by rfl) (D_cons (E_var (i := 0) rfl (.inl (by rfl)) rfl rfl) (D_cons (E_var (i := 2) rfl (.inl (by rfl)) rfl rfl) (D_nil) (by rfl)) (by rfl)) rfl (by rfl) (by rfl) (by rfl)) (by rfl)
    · refine SS_cons ?_ ?_
      · refine S_if ?_ ?_ ?_
        · exact T_w (W_or (T_cmp c (p_eq (Cc.un4 c)) (G_b (i := 0) rfl (.inl (by rfl)) rfl rfl) (G_v (E_int)) (by with_unfolding_all rfl)) (W_or (T_cmp c (p_eq (Cc.un4 c)) (G_b (i := 1) rfl (.inl (by rfl)) rfl rfl) (G_v (E_int)) (by with_unfolding_all rfl)) (W_or1 (T_cmp c (p_eq (Cc.un4 c)) (G_b (i := 2) rfl (.inl (by rfl)) rfl rfl) (G_v (E_int)) (by with_unfolding_all rfl)))))
        · refine SS_one ?_
          exact S_ret (E_ty c p_int (by rfl) (Hd.f_int m) (by decide +kernel) (A_cons (G_v (E_and (E_cmp c (p_eq (Cc.un4 c)) (G_b (i := 0) rfl (.inl (by rfl)) rfl rfl) (G_v (E_int)) (by with_unfolding_all rfl)) (E_and (E_cmp c (p_eq (Cc.un4 c)) (G_b (i := 1) rfl (.inl (by rfl)) rfl rfl) (G_v (E_int)) (by with_unfolding_all rfl)) (E_one (E_cmp c (p_eq (Cc.un4 c)) (G_b (i := 2) rfl (.inl (by rfl)) rfl rfl) (G_v (E_int)) (by with_unfolding_all rfl)))))) (A_nil) (by rfl)) (by decide) (by rfl) (by rfl) (by rfl))
        · exact SS_nil
      · refine SS_cons ?_ ?_
        · refine S_if ?_ ?_ ?_
          · exact T_cmp c p_gt (G_v (E_bin c p_sub (G_v (E_bin c p_add (G_b (i := 1) rfl (.inl (by rfl)) rfl rfl) (G_b (i := 2) rfl (.inl (by rfl)) rfl rfl))) (G_v (E_int)))) (G_b (i := 0) rfl (.inl (by rfl)) rfl rfl) (by with_unfolding_all rfl)
          · refine SS_one ?_
            exact S_ret (E_int)
          · exact SS_nil
        · refine SS_one ?_
          exact S_ret (E_bin c p_mul (G_v (E_call c (h 8 _ rfl) rfl rfl (by rfl) (D_cons (E_bin c p_sub (G_v (E_bin c p_add (G_b (i := 1) rfl (.inl (by rfl)) rfl rfl) (G_b (i := 2) rfl (.inl (by rfl)) rfl rfl))) (G_v (E_int))) (D_cons (E_bin c p_sub (G_b (i := 1) rfl (.inl (by rfl)) rfl rfl) (G_v (E_int))) (D_nil) (by rfl)) (by rfl)) rfl (by rfl) (by rfl) (by rfl))) (G_v (E_call c (h 7 _ rfl) rfl rfl (by rfl) (D_cons (E_bin c p_sub (G_b (i := 0) rfl (.inl (by rfl)) rfl rfl) (G_v (E_int))) (D_cons (E_bin c p_sub (G_v (E_bin c p_add (G_b (i := 1) rfl (.inl (by rfl)) rfl rfl) (G_b (i := 2) rfl (.inl (by rfl)) rfl rfl))) (G_v (E_int))) (D_nil) (by rfl)) (by rfl)) rfl (by rfl) (by rfl) (by rfl))))
abbrev N__law_draws : List Str := ["script"]
theorem w__law_draws (m : Hd K mg ex) (h : AllCal tb fa ex P w K mg base k) (hr : Room k (A.deeper (envOfC "_law_draws" (defScope (top 17)) s.heap.objs.size f cdv))) :
    PSs (cxd P w K mg base N__law_draws "_law_draws" (defScope (top 17)) f cdv A outer s H E) (defBody (top 17)) (tS ⟨K, fa, ex, Oc, G, io⟩ (fun cls d _ H => E cls d H) (b__law_draws (callN tb k))) := by
  have c := ccd (P := P) (w := w) (K := K) (mg := mg) (base := base) (N := N__law_draws) (x := "_law_draws") (sc := defScope (top 17)) (f := f) (cdv := cdv) (A := A) (outer := outer) (s := s) (H := H) (E := E) (fa := fa) (ex := ex) (Oc := Oc) (G := G) (io := io) hr (by decide +kernel)
  have hp := hpd (P := P) (w := w) (K := K) (mg := mg) (base := base) (N := N__law_draws) (x := "_law_draws") (sc := defScope (top 17)) (f := f) (cdv := cdv) (A := A) (outer := outer) (s := s) (H := H) (E := E)
  refine SS_one ?_
  exact S_retf (O_lst (D_cons (E_ty c p_listOf (by rfl) (Hd.f_list m) (by decide +kernel) (A_cons (G_b (i := 0) rfl (.inl (by rfl)) rfl rfl) (A_nil) (by rfl)) (by decide) (by rfl) (by rfl) (by rfl)) (D_cons (E_int) (D_cons (E_int) (D_cons (E_int) (D_nil) (by rfl)) (by rfl)) (by rfl)) (by rfl)))
abbrev N__law_draw : List Str := ["draws", "limit", "cell", "value"]
theorem w__law_draw (m : Hd K mg ex) (h : AllCal tb fa ex P w K mg base k) (hr : Room k (A.deeper (envOfC "_law_draw" (defScope (top 18)) s.heap.objs.size f cdv))) :
    PSs (cxd P w K mg base N__law_draw "_law_draw" (defScope (top 18)) f cdv A outer s H E) (defBody (top 18)) (tS ⟨K, fa, ex, Oc, G, io⟩ (fun cls d _ H => E cls d H) (b__law_draw (callN tb k))) := by
  have c := ccd (P := P) (w := w) (K := K) (mg := mg) (base := base) (N := N__law_draw) (x := "_law_draw") (sc := defScope (top 18)) (f := f) (cdv := cdv) (A := A) (outer := outer) (s := s) (H := H) (E := E) (fa := fa) (ex := ex) (Oc := Oc) (G := G) (io := io) hr (by decide +kernel)
  have hp := hpd (P := P) (w := w) (K := K) (mg := mg) (base := base) (N := N__law_draw) (x := "_law_draw") (sc := defScope (top 18)) (f := f) (cdv := cdv) (A := A) (outer := outer) (s := s) (H := H) (E := E)
  refine SS_cons ?_ ?_
  · refine S_if ?_ ?_ ?_
    · exact T_w (W_and (T_cmp c (p_eq (Cc.un4 c)) (G_v (E_ix c (G_b (i := 0) rfl (.inl (by rfl)) rfl rfl) (G_v (E_int)) (fun _ _ => rfl))) (G_v (E_int)) (by with_unfolding_all rfl)) (W_and1 (T_cmp c p_lt (G_v (E_ix c (G_b (i := 0) rfl (.inl (by rfl)) rfl rfl) (G_v (E_int)) (fun _ _ => rfl))) (G_v (E_blt c p_len (by rfl) (Hd.f_len m) (by decide +kernel) (A_cons (G_v (E_ix c (G_b (i := 0) rfl (.inl (by rfl)) rfl rfl) (G_v (E_int)) (fun _ _ => rfl))) (A_nil) (by rfl)) (by decide) (by rfl) (by rfl) (by rfl))) (by with_unfolding_all rfl))))
    · refine SS_cons ?_ ?_
      · exact S_set (i := 2) c rfl (.inl rfl) (O_v (E_ix c (G_v (E_ix c (G_b (i := 0) rfl (.inl (by rfl)) rfl rfl) (G_v (E_int)) (fun _ _ => rfl))) (G_v (E_ix c (G_b (i := 0) rfl (.inl (by rfl)) rfl rfl) (G_v (E_int)) (fun _ _ => rfl))) (fun _ _ => rfl))) (.inl rfl) (by rfl)
      · refine SS_cons ?_ ?_
        · exact S_put (i := 0) c rfl (.inl (by rfl)) rfl rfl (E_int) (E_bin c p_add (G_v (E_ix c (G_b (i := 0) rfl (.inl (by rfl)) rfl rfl) (G_v (E_int)) (fun _ _ => rfl))) (G_v (E_int))) (by intro _; rfl) (by rfl) (by rfl) (by rfl)
        · refine SS_cons ?_ ?_
          · refine S_if ?_ ?_ ?_
            · exact T_cmp c p_ge (G_b (i := 2) rfl (.inl (by rfl)) rfl rfl) (G_v (E_bin c p_pow (G_v (E_int)) (G_v (E_int)))) (by with_unfolding_all rfl)
            · refine SS_one ?_
              exact S_put (i := 0) c rfl (.inl (by rfl)) rfl rfl (E_int) (E_var (i := 2) rfl (.inl (by rfl)) rfl rfl) (by intro _; rfl) (by rfl) (by rfl) (by rfl)
            · exact SS_nil
          · refine SS_one ?_
            exact S_put (i := 0) c rfl (.inl (by rfl)) rfl rfl (E_int) (E_bin c p_mod (G_v (E_ty c p_int (by rfl) (Hd.f_int m) (by decide +kernel) (A_cons (G_v (E_bin c p_add (G_v (E_bin c p_add (G_v (E_bin c p_mul (G_v (E_ix c (G_b (i := 0) rfl (.inl (by rfl)) rfl rfl) (G_v (E_int)) (fun _ _ => rfl))) (G_v (E_int)))) (G_b (i := 2) rfl (.inl (by rfl)) rfl rfl))) (G_v (E_int)))) (A_nil) (by rfl)) (by decide) (by rfl) (by rfl) (by rfl))) (G_v (E_int))) (by intro _; rfl) (by rfl) (by rfl) (by rfl)
    · exact SS_nil
  · refine SS_cons ?_ ?_
    · refine S_if ?_ ?_ ?_
      · exact T_cmp c p_gt (G_v (E_ix c (G_b (i := 0) rfl (.inl (by rfl)) rfl rfl) (G_v (E_int)) (fun _ _ => rfl))) (G_v (E_int)) (by with_unfolding_all rfl)
      · refine SS_cons ?_ ?_
        · exact S_set (i := 3) c rfl (.inl rfl) (O_v (E_bin c p_mod (G_v (E_ty c p_int (by rfl) (Hd.f_int m) (by decide +kernel) (A_cons (G_v (E_ix c (G_b (i := 0) rfl (.inl (by rfl)) rfl rfl) (G_v (E_int)) (fun _ _ => rfl))) (A_nil) (by rfl)) (by decide) (by rfl) (by rfl) (by rfl))) (G_b (i := 1) rfl (.inl (by rfl)) rfl rfl))) (.inl rfl) (by rfl)
        · refine SS_cons ?_ ?_
          · exact S_put (i := 0) c rfl (.inl (by rfl)) rfl rfl (E_int) (E_bin c p_fdiv (G_v (E_ix c (G_b (i := 0) rfl (.inl (by rfl)) rfl rfl) (G_v (E_int)) (fun _ _ => rfl))) (G_b (i := 1) rfl (.inl (by rfl)) rfl rfl)) (by intro _; rfl) (by rfl) (by rfl) (by rfl)
          · refine SS_one ?_
            exact S_ret (E_var (i := 3) rfl (.inl (by rfl)) rfl rfl)
      · exact SS_nil
    · refine SS_cons ?_ ?_
      · exact S_put (i := 0) c rfl (.inl (by rfl)) rfl rfl (E_int) (E_bin c p_mod (G_v (E_ty c p_int (by rfl) (Hd.f_int m) (by decide +kernel) (A_cons (G_v (E_bin c p_add (G_v (E_bin c p_mul (G_v (E_ix c (G_b (i := 0) rfl (.inl (by rfl)) rfl rfl) (G_v (E_int)) (fun _ _ => rfl))) (G_v (E_int)))) (G_v (E_int)))) (A_nil) (by rfl)) (by decide) (by rfl) (by rfl) (by rfl))) (G_v (E_int))) (by intro _; rfl) (by rfl) (by rfl) (by rfl)
      · refine SS_one ?_
        exact S_ret (E_bin c p_mod (G_v (E_ty c p_int (by rfl) (Hd.f_int m) (by decide +kernel) (A_cons (G_v (E_bin c p_fdiv (G_v (E_ix c (G_b (i := 0) rfl (.inl (by rfl)) rfl rfl) (G_v (E_int)) (fun _ _ => rfl))) (G_v (E_int)))) (A_nil) (by rfl)) (by decide) (by rfl) (by rfl) (by rfl))) (G_b (i := 1) rfl (.inl (by rfl)) rfl rfl))
abbrev N__law_same : List Str := ["actual", "expected", ".0", "k"]
theorem w__law_same (m : Hd K mg ex) (h : AllCal tb fa ex P w K mg base k) (hr : Room k (A.deeper (envOfC "_law_same" (defScope (top 19)) s.heap.objs.size f cdv))) :
    PSs (cxd P w K mg base N__law_same "_law_same" (defScope (top 19)) f cdv A outer s H E) (defBody (top 19)) (tS ⟨K, fa, ex, Oc, G, io⟩ (fun cls d _ H => E cls d H) (b__law_same (callN tb k))) := by
  have c := ccd (P := P) (w := w) (K := K) (mg := mg) (base := base) (N := N__law_same) (x := "_law_same") (sc := defScope (top 19)) (f := f) (cdv := cdv) (A := A) (outer := outer) (s := s) (H := H) (E := E) (fa := fa) (ex := ex) (Oc := Oc) (G := G) (io := io) hr (by decide +kernel)
  have hp := hpd (P := P) (w := w) (K := K) (mg := mg) (base := base) (N := N__law_same) (x := "_law_same") (sc := defScope (top 19)) (f := f) (cdv := cdv) (A := A) (outer := outer) (s := s) (H := H) (E := E)
  refine SS_cons ?_ ?_
  · refine S_if ?_ ?_ ?_
    · exact T_w (W_or (T_val (E_isi (T := 2) c (G_b (i := 1) rfl (.inr (.inl (by rfl))) rfl rfl) (by rfl) (Hd.f_isinstance m) (by rfl) (Hd.f_tuple m) (by decide +kernel) (by decide) (by rfl) (by rfl)) (by intro _; rfl)) (W_or1 (T_val (E_isi (T := 3) c (G_b (i := 1) rfl (.inr (.inl (by rfl))) rfl rfl) (by rfl) (Hd.f_isinstance m) (by rfl) (Hd.f_list m) (by decide +kernel) (by decide) (by rfl) (by rfl)) (by intro _; rfl))))
    · refine SS_cons ?_ ?_
      · refine S_if ?_ ?_ ?_
        · exact T_w (W_or (T_cmp c (p_ne (Cc.un4 c)) (G_v (E_isi (T := 2) c (G_b (i := 1) rfl (.inr (.inl (by rfl))) rfl rfl) (by rfl) (Hd.f_isinstance m) (by rfl) (Hd.f_tuple m) (by decide +kernel) (by decide) (by rfl) (by rfl))) (G_v (E_isi (T := 2) c (G_b (i := 0) rfl (.inr (.inl (by rfl))) rfl rfl) (by rfl) (Hd.f_isinstance m) (by rfl) (Hd.f_tuple m) (by decide +kernel) (by decide) (by rfl) (by rfl))) (by with_unfolding_all rfl)) (W_or1 (T_cmp c (p_ne (Cc.un4 c)) (G_v (E_isi (T := 3) c (G_b (i := 1) rfl (.inr (.inl (by rfl))) rfl rfl) (by rfl) (Hd.f_isinstance m) (by rfl) (Hd.f_list m) (by decide +kernel) (by decide) (by rfl) (by rfl))) (G_v (E_isi (T := 3) c (G_b (i := 0) rfl (.inr (.inl (by rfl))) rfl rfl) (by rfl) (Hd.f_isinstance m) (by rfl) (Hd.f_list m) (by decide +kernel) (by decide) (by rfl) (by rfl))) (by with_unfolding_all rfl))))
        · refine SS_one ?_
          exact S_ret (E_bl)
        · exact SS_nil
      · refine SS_cons ?_ ?_
        · refine S_if ?_ ?_ ?_
          · exact T_cmp c (p_ne (Cc.un4 c)) (G_v (E_blt c p_len (by rfl) (Hd.f_len m) (by decide +kernel) (A_cons (G_b (i := 0) rfl (.inr (.inl (by rfl))) rfl rfl) (A_nil) (by rfl)) (by decide) (by rfl) (by rfl) (by rfl))) (G_v (E_blt c p_len (by rfl) (Hd.f_len m) (by decide +kernel) (A_cons (G_b (i := 1) rfl (.inr (.inl (by rfl))) rfl rfl) (A_nil) (by rfl)) (by decide) (by rfl) (by rfl) (by rfl))) (by with_unfolding_all rfl)
          · refine SS_one ?_
            exact S_ret (E_bl)
          · exact SS_nil
        · refine SS_one ?_
          exact S_ret (E_cmp c (p_eq (Cc.un4 c)) (G_v (E_blt c p_len (by rfl) (Hd.f_len m) (by decide +kernel) (A_cons (G_v (E_lc (own := [(".0", 2), ("k", 3)]) (tg := .nm 3) c (I_r1 (by rfl) (Hd.f_range m) (D_cons (E_blt c p_len (by rfl) (Hd.f_len m) (by decide +kernel) (A_cons (G_b (i := 1) rfl (.inr (.inl (by rfl))) rfl rfl) (A_nil) (by rfl)) (by decide) (by rfl) (by rfl) (by rfl)) (D_nil) (by rfl)) (by rfl)) (blkOk_by (by kernel_rfl)) (by decide) (fun _ _ _ _ _ => tg_nm (i := 3) (Cc.nd (Cc.blk c)) rfl (.inl rfl) (.inr rfl)) (fun _ _ _ _ _ => Ts_one (T_not (T_val (E_call (Cc.blk c) (h 12 _ rfl) rfl rfl (by rfl) (D_cons (E_ix (Cc.blk c) (G_b (i := 0) rfl (.inr (.inl (by rfl))) rfl rfl) (G_b (i := 3) rfl (.inl (by rfl)) rfl rfl) (fun _ _ => rfl)) (D_cons (E_ix (Cc.blk c) (G_b (i := 1) rfl (.inr (.inl (by rfl))) rfl rfl) (G_b (i := 3) rfl (.inl (by rfl)) rfl rfl) (fun _ _ => rfl)) (D_nil) (by rfl)) (by rfl)) rfl (by rfl) (by rfl) (by rfl)) (by intro _; rfl)))) (fun _ _ _ _ _ => E_var (i := 3) rfl (.inl (by rfl)) rfl rfl) (by intro _; rfl))) (A_nil) (by rfl)) (by decide) (by rfl) (by rfl) (by rfl))) (G_v (E_int)) (by with_unfolding_all rfl))
    · exact SS_nil
  · refine SS_cons ?_ ?_
    · refine S_if ?_ ?_ ?_
      · exact T_val (E_isi (T := 4) c (G_b (i := 1) rfl (.inr (.inl (by rfl))) rfl rfl) (by rfl) (Hd.f_isinstance m) (by rfl) (Hd.f_str m) (by decide +kernel) (by decide) (by rfl) (by rfl)) (by intro _; rfl)
      · refine SS_one ?_
        exact S_ret (E_and (E_isi (T := 4) c (G_b (i := 0) rfl (.inr (.inl (by rfl))) rfl rfl) (by rfl) (Hd.f_isinstance m) (by rfl) (Hd.f_str m) (by decide +kernel) (by decide) (by rfl) (by rfl)) (E_one (E_cmp c (p_eq (Cc.un4 c)) (G_b (i := 0) rfl (.inr (.inl (by rfl))) rfl rfl) (G_b (i := 1) rfl (.inr (.inl (by rfl))) rfl rfl) (by with_unfolding_all rfl))))
      · exact SS_nil
    · refine SS_cons ?_ ?_
      · refine S_if ?_ ?_ ?_
        · exact T_cmp c p_isN (G_b (i := 1) rfl (.inr (.inl (by rfl))) rfl rfl) (G_v (E_non)) (by with_unfolding_all rfl)
        · refine SS_one ?_
          exact S_ret (E_cmp c p_isN (G_b (i := 0) rfl (.inr (.inl (by rfl))) rfl rfl) (G_v (E_non)) (by with_unfolding_all rfl))
        · exact SS_nil
      · refine SS_cons ?_ ?_
        · refine S_if ?_ ?_ ?_
          · exact T_w (W_or (T_val (E_isi (T := 1) c (G_b (i := 1) rfl (.inr (.inl (by rfl))) rfl rfl) (by rfl) (Hd.f_isinstance m) (by rfl) (Hd.f_bool m) (by decide +kernel) (by decide) (by rfl) (by rfl)) (by intro _; rfl)) (W_or1 (T_val (E_isi (T := 1) c (G_b (i := 0) rfl (.inr (.inl (by rfl))) rfl rfl) (by rfl) (Hd.f_isinstance m) (by rfl) (Hd.f_bool m) (by decide +kernel) (by decide) (by rfl) (by rfl)) (by intro _; rfl))))
          · refine SS_one ?_
            exact S_ret (E_and (E_isi (T := 1) c (G_b (i := 1) rfl (.inr (.inl (by rfl))) rfl rfl) (by rfl) (Hd.f_isinstance m) (by rfl) (Hd.f_bool m) (by decide +kernel) (by decide) (by rfl) (by rfl)) (E_and (E_isi (T := 1) c (G_b (i := 0) rfl (.inr (.inl (by rfl))) rfl rfl) (by rfl) (Hd.f_isinstance m) (by rfl) (Hd.f_bool m) (by decide +kernel) (by decide) (by rfl) (by rfl)) (E_one (E_cmp c (p_eq (Cc.un4 c)) (G_b (i := 0) rfl (.inr (.inl (by rfl))) rfl rfl) (G_b (i := 1) rfl (.inr (.inl (by rfl))) rfl rfl) (by with_unfolding_all rfl)))))
          · exact SS_nil
        · refine SS_one ?_
          exact S_ret (E_and (E_isi (T := 0) c (G_b (i := 0) rfl (.inr (.inl (by rfl))) rfl rfl) (by rfl) (Hd.f_isinstance m) (by rfl) (Hd.f_int m) (by decide +kernel) (by decide) (by rfl) (by rfl)) (E_and (E_isi (T := 0) c (G_b (i := 1) rfl (.inr (.inl (by rfl))) rfl rfl) (by rfl) (Hd.f_isinstance m) (by rfl) (Hd.f_int m) (by decide +kernel) (by decide) (by rfl) (by rfl)) (E_one (E_cmp c (p_eq (Cc.un4 c)) (G_b (i := 0) rfl (.inr (.inl (by rfl))) rfl rfl) (G_b (i := 1) rfl (.inr (.inl (by rfl))) rfl rfl) (by with_unfolding_all rfl)))))
abbrev N__law_both : List Str := ["size", "rows", "many", "more", "first", "last", "ways", "pair", "by"]
theorem w__law_both (m : Hd K mg ex) (h : AllCal tb fa ex P w K mg base k) (hr : Room k (A.deeper (envOfC "_law_both" (defScope (top 20)) s.heap.objs.size f cdv))) :
    PSs (cxd P w K mg base N__law_both "_law_both" (defScope (top 20)) f cdv A outer s H E) (defBody (top 20)) (tS ⟨K, fa, ex, Oc, G, io⟩ (fun cls d _ H => E cls d H) (b__law_both (callN tb k))) := by
  have c := ccd (P := P) (w := w) (K := K) (mg := mg) (base := base) (N := N__law_both) (x := "_law_both") (sc := defScope (top 20)) (f := f) (cdv := cdv) (A := A) (outer := outer) (s := s) (H := H) (E := E) (fa := fa) (ex := ex) (Oc := Oc) (G := G) (io := io) hr (by decide +kernel)
  have hp := hpd (P := P) (w := w) (K := K) (mg := mg) (base := base) (N := N__law_both) (x := "_law_both") (sc := defScope (top 20)) (f := f) (cdv := cdv) (A := A) (outer := outer) (s := s) (H := H) (E := E)
  refine SS_cons ?_ ?_
  · exact S_set (i := 1) c rfl (.inl rfl) (O_v (E_dct1T c (E_tup (D_cons (E_int) (D_cons (E_int) (D_nil) (by rfl)) (by rfl))) (E_int))) (.inl rfl) (by rfl)
  · refine SS_cons ?_ ?_
    · refine S_for c hp ?_ ?_ ?_ (by intro _; rfl)
      · exact I_r2 (by rfl) (Hd.f_range m) (D_cons (E_int) (D_cons (E_var (i := 0) rfl (.inl (by rfl)) rfl rfl) (D_nil) (by rfl)) (by rfl)) (by rfl) (by rfl)
      · exact tg_nm (i := 2) (Cc.nd c) rfl (.inl rfl) (.inl rfl)
      · refine SS_cons ?_ ?_
        · exact S_set (i := 3) c rfl (.inl rfl) (O_dnewT) (.inl rfl) (by rfl)
        · refine SS_cons ?_ ?_
          · refine S_for c hp ?_ ?_ ?_ (by intro _; rfl)
            · exact I_seq c (E_sorted c (by rfl) (Hd.f_sorted m) (A_cons (G_b (i := 1) rfl (.inl (by rfl)) rfl rfl) (A_nil) (by rfl)) (by rfl) (by rfl))
            · exact Tg_tp c (Tgs_cons (tg_nm (i := 4) (Cc.nd c) rfl (.inl rfl) (.inl rfl)) (Tgs_cons (tg_nm (i := 5) (Cc.nd c) rfl (.inl rfl) (.inl rfl)) (tgs_nil) (by rfl)) (by rfl)) rfl (by rfl) (by rfl)
            · refine SS_cons ?_ ?_
              · exact S_set (i := 6) c rfl (.inl rfl) (O_v (E_ix c (G_b (i := 1) rfl (.inl (by rfl)) rfl rfl) (G_v (E_tup (D_cons (E_var (i := 4) rfl (.inl (by rfl)) rfl rfl) (D_cons (E_var (i := 5) rfl (.inl (by rfl)) rfl rfl) (D_nil) (by rfl)) (by rfl)))) (fun _ _ => rfl))) (.inl rfl) (by rfl)
              · refine SS_one ?_
                refine S_for c hp ?_ ?_ ?_ (by intro _; rfl)
                · exact I_seq c (E_lst (D_cons (E_tup (D_cons (E_tup (D_cons (E_bin c p_add (G_b (i := 4) rfl (.inl (by rfl)) rfl rfl) (G_v (E_int))) (D_cons (E_var (i := 5) rfl (.inl (by rfl)) rfl rfl) (D_nil) (by rfl)) (by rfl))) (D_cons (E_int) (D_nil) (by rfl)) (by rfl))) (D_cons (E_tup (D_cons (E_tup (D_cons (E_var (i := 4) rfl (.inl (by rfl)) rfl rfl) (D_cons (E_bin c p_add (G_b (i := 5) rfl (.inl (by rfl)) rfl rfl) (G_v (E_int))) (D_nil) (by rfl)) (by rfl))) (D_cons (E_int) (D_nil) (by rfl)) (by rfl))) (D_cons (E_tup (D_cons (E_tup (D_cons (E_var (i := 4) rfl (.inl (by rfl)) rfl rfl) (D_cons (E_var (i := 5) rfl (.inl (by rfl)) rfl rfl) (D_nil) (by rfl)) (by rfl))) (D_cons (E_bin c p_sub (G_b (i := 2) rfl (.inl (by rfl)) rfl rfl) (G_v (E_int))) (D_nil) (by rfl)) (by rfl))) (D_nil) (by rfl)) (by rfl)) (by rfl)))
                · exact Tg_tp c (Tgs_cons (tg_nm (i := 7) (Cc.nd c) rfl (.inl rfl) (.inl rfl)) (Tgs_cons (tg_nm (i := 8) (Cc.nd c) rfl (.inl rfl) (.inl rfl)) (tgs_nil) (by rfl)) (by rfl)) rfl (by rfl) (by rfl)
                · refine SS_one ?_
                  exact S_put (i := 3) c rfl (.inl (by rfl)) rfl rfl (E_var (i := 7) rfl (.inl (by rfl)) rfl rfl) (E_bin c p_add (G_v (E_get2 c (G_b (i := 3) rfl (.inl (by rfl)) rfl rfl) (E_var (i := 7) rfl (.inl (by rfl)) rfl rfl) (E_int) (m2_of (by rfl) (by rfl) (by rfl) (by rfl)))) (G_v (E_bin c p_mul (G_b (i := 6) rfl (.inl (by rfl)) rfl rfl) (G_b (i := 8) rfl (.inl (by rfl)) rfl rfl)))) (by intro _; rfl) (by rfl) (by rfl) (by rfl)
          · refine SS_one ?_
            exact S_set (i := 1) c rfl (.inl rfl) (O_v (E_var (i := 3) rfl (.inl (by rfl)) rfl rfl)) (.inl rfl) (by rfl)
    · refine SS_one ?_
      exact S_ret (E_var (i := 1) rfl (.inl (by rfl)) rfl rfl)
abbrev N_law : List Str := ["script", "draws", "size", "rows", "whole", "k", "turn", "first", "last", "far", "due", "small", "own", ".0", "pair"]
theorem w_law (m : Hd K mg ex) (h : AllCal tb fa ex P w K mg base k) (hr : Room k (A.deeper (envOfC "law" (defScope (top 21)) s.heap.objs.size f cdv))) :
    PSs (cxd P w K mg base N_law "law" (defScope (top 21)) f cdv A outer s H E) (defBody (top 21)) (tS ⟨K, fa, ex, Oc, G, io⟩ (fun cls d _ H => E cls d H) (b_law (callN tb k))) := by
  have c := ccd (P := P) (w := w) (K := K) (mg := mg) (base := base) (N := N_law) (x := "law") (sc := defScope (top 21)) (f := f) (cdv := cdv) (A := A) (outer := outer) (s := s) (H := H) (E := E) (fa := fa) (ex := ex) (Oc := Oc) (G := G) (io := io) hr (by decide +kernel)
  have hp := hpd (P := P) (w := w) (K := K) (mg := mg) (base := base) (N := N_law) (x := "law") (sc := defScope (top 21)) (f := f) (cdv := cdv) (A := A) (outer := outer) (s := s) (H := H) (E := E)
  refine SS_cons ?_ ?_
  · exact S_set (i := 1) c rfl (.inl rfl) (O_call c (h 10 _ rfl) rfl rfl (by rfl) (D_cons (E_var (i := 0) rfl (.inl (by rfl)) rfl rfl) (D_nil) (by rfl)) rfl (by rfl) (by rfl) (by rfl)) (.inl rfl) (by rfl)
  · refine SS_cons ?_ ?_
    · exact S_set (i := 2) c rfl (.inr rfl) (O_v (E_bin c p_add (G_v (E_int)) (G_v (E_callio (j := 1) c (h 11 _ rfl) rfl rfl (by rfl) (by rfl) (.inl (by rfl)) (by rfl) (by rfl) (D_cons (E_int) (D_nil) (by rfl)) rfl (by rfl) (by rfl) (by rfl))))) (.inl rfl) (by rfl)
    · refine SS_cons ?_ ?_
      · exact S_unp (tg := .tp [3, 4]) (E_tup (D_cons (E_call c (h 13 _ rfl) rfl rfl (by rfl) (D_cons (E_var (i := 2) rfl (.inr (.inl (by rfl))) rfl rfl) (D_nil) (by rfl)) rfl (by rfl) (by rfl) (by rfl)) (D_cons (E_int) (D_nil) (by rfl)) (by rfl))) (Tg_tp c (Tgs_cons (tg_nm (i := 3) (Cc.nd c) rfl (.inr rfl) (.inl rfl)) (Tgs_cons (tg_nm (i := 4) (Cc.nd c) rfl (.inl rfl) (.inl rfl)) (tgs_nil) (by rfl)) (by rfl)) rfl (by rfl) (by rfl)) (by rfl) (by rfl) (by rfl)
      · refine SS_cons ?_ ?_
        · refine S_for c hp ?_ ?_ ?_ (by intro _; rfl)
          · exact I_r2 (by rfl) (Hd.f_range m) (D_cons (E_int) (D_cons (E_bin c p_add (G_b (i := 2) rfl (.inr (.inl (by rfl))) rfl rfl) (G_v (E_int))) (D_nil) (by rfl)) (by rfl)) (by rfl) (by rfl)
          · exact tg_nm (i := 5) (Cc.nd c) rfl (.inl rfl) (.inl rfl)
          · refine SS_one ?_
            exact S_set (i := 4) c rfl (.inl rfl) (O_v (E_bin c p_mul (G_b (i := 4) rfl (.inl (by rfl)) rfl rfl) (G_b (i := 5) rfl (.inl (by rfl)) rfl rfl))) (.inl rfl) (by rfl)
        · refine SS_cons ?_ ?_
          · refine S_if ?_ ?_ ?_
            · exact T_cmp c (p_ne (Cc.un4 c)) (G_v (E_blt c (p_sum (Cc.calm c)) (by rfl) (Hd.f_sum m) (by decide +kernel) (A_cons (G_v (E_lc (own := [(".0", 13), ("pair", 14)]) (tg := .nm 14) c (I_seq c (E_sorted c (by rfl) (Hd.f_sorted m) (A_cons (G_b (i := 3) rfl (.inr (.inl (by rfl))) rfl rfl) (A_nil) (by rfl)) (by rfl) (by rfl))) (blkOk_by (by kernel_rfl)) (by decide) (fun _ _ _ _ _ => tg_nm (i := 14) (Cc.nd (Cc.blk c)) rfl (.inl rfl) (.inr rfl)) (fun _ _ _ _ _ => Ts_nil) (fun _ _ _ _ _ => E_ix (Cc.blk c) (G_b (i := 3) rfl (.inr (.inl (by rfl))) rfl rfl) (G_b (i := 14) rfl (.inl (by rfl)) rfl rfl) (fun _ _ => rfl)) (by intro _; rfl))) (A_nil) (by rfl)) (by decide) (by rfl) (by rfl) (by rfl))) (G_b (i := 4) rfl (.inl (by rfl)) rfl rfl) (by with_unfolding_all rfl)
            · refine SS_one ?_
              exact S_ret (E_bl)
            · exact SS_nil
          · refine SS_cons ?_ ?_
            · refine S_for c hp ?_ ?_ ?_ (by intro _; rfl)
              · exact I_r1 (by rfl) (Hd.f_range m) (D_cons (E_int) (D_nil) (by rfl)) (by rfl)
              · exact tg_nm (i := 6) (Cc.nd c) rfl (.inl rfl) (.inl rfl)
              · refine SS_cons ?_ ?_
                · exact S_unp (tg := .tp [7, 8]) (E_tup (D_cons (E_callio (j := 1) c (h 11 _ rfl) rfl rfl (by rfl) (by rfl) (.inl (by rfl)) (by rfl) (by rfl) (D_cons (E_bin c p_add (G_v (E_blt c (p_min2 (Cc.calm c)) (by rfl) (Hd.f_min m) (by decide +kernel) (A_cons (G_b (i := 2) rfl (.inr (.inl (by rfl))) rfl rfl) (A_cons (G_v (E_int)) (A_nil) (by rfl)) (by rfl)) (by decide) (by rfl) (by rfl) (by rfl))) (G_v (E_int))) (D_nil) (by rfl)) rfl (by rfl) (by rfl) (by rfl)) (D_cons (E_callio (j := 1) c (h 11 _ rfl) rfl rfl (by rfl) (by rfl) (.inl (by rfl)) (by rfl) (by rfl) (D_cons (E_bin c p_add (G_v (E_blt c (p_min2 (Cc.calm c)) (by rfl) (Hd.f_min m) (by decide +kernel) (A_cons (G_b (i := 2) rfl (.inr (.inl (by rfl))) rfl rfl) (A_cons (G_v (E_int)) (A_nil) (by rfl)) (by rfl)) (by decide) (by rfl) (by rfl) (by rfl))) (G_v (E_int))) (D_nil) (by rfl)) rfl (by rfl) (by rfl) (by rfl)) (D_nil) (by rfl)) (by rfl))) (Tg_tp c (Tgs_cons (tg_nm (i := 7) (Cc.nd c) rfl (.inr rfl) (.inl rfl)) (Tgs_cons (tg_nm (i := 8) (Cc.nd c) rfl (.inl rfl) (.inl rfl)) (tgs_nil) (by rfl)) (by rfl)) rfl (by rfl) (by rfl)) (by rfl) (by rfl) (by rfl)
                · refine SS_one ?_
                  refine S_if ?_ ?_ ?_
                  · exact T_not (T_val (E_call c (h 12 _ rfl) rfl rfl (by rfl) (D_cons (E_call c (h 9 _ rfl) rfl rfl (by rfl) (D_cons (E_var (i := 2) rfl (.inr (.inl (by rfl))) rfl rfl) (D_cons (E_var (i := 7) rfl (.inr (.inl (by rfl))) rfl rfl) (D_cons (E_var (i := 8) rfl (.inl (by rfl)) rfl rfl) (D_nil) (by rfl)) (by rfl)) (by rfl)) rfl (by rfl) (by rfl) (by rfl)) (D_cons (E_get2 c (G_b (i := 3) rfl (.inr (.inl (by rfl))) rfl rfl) (E_tup (D_cons (E_var (i := 7) rfl (.inr (.inl (by rfl))) rfl rfl) (D_cons (E_var (i := 8) rfl (.inl (by rfl)) rfl rfl) (D_nil) (by rfl)) (by rfl))) (E_int) (m2_of (by rfl) (by rfl) (by rfl) (by rfl))) (D_nil) (by rfl)) (by rfl)) rfl (by rfl) (by rfl) (by rfl)) (by intro _; rfl))
                  · refine SS_one ?_
                    exact S_ret (E_bl)
                  · exact SS_nil
            · refine SS_cons ?_ ?_
              · exact S_set (i := 9) c rfl (.inl rfl) (O_v (E_bin c p_add (G_v (E_bin c p_add (G_b (i := 2) rfl (.inr (.inl (by rfl))) rfl rfl) (G_v (E_int)))) (G_v (E_callio (j := 1) c (h 11 _ rfl) rfl rfl (by rfl) (by rfl) (.inl (by rfl)) (by rfl) (by rfl) (D_cons (E_bin c p_pow (G_v (E_int)) (G_v (E_int))) (D_nil) (by rfl)) rfl (by rfl) (by rfl) (by rfl))))) (.inl rfl) (by rfl)
              · refine SS_cons ?_ ?_
                · refine S_if ?_ ?_ ?_
                  · exact T_not (T_val (E_call c (h 12 _ rfl) rfl rfl (by rfl) (D_cons (E_lst (D_cons (E_call c (h 9 _ rfl) rfl rfl (by rfl) (D_cons (E_var (i := 2) rfl (.inr (.inl (by rfl))) rfl rfl) (D_cons (E_var (i := 9) rfl (.inl (by rfl)) rfl rfl) (D_cons (E_int) (D_nil) (by rfl)) (by rfl)) (by rfl)) rfl (by rfl) (by rfl) (by rfl)) (D_cons (E_call c (h 9 _ rfl) rfl rfl (by rfl) (D_cons (E_var (i := 2) rfl (.inr (.inl (by rfl))) rfl rfl) (D_cons (E_int) (D_cons (E_var (i := 9) rfl (.inl (by rfl)) rfl rfl) (D_nil) (by rfl)) (by rfl)) (by rfl)) rfl (by rfl) (by rfl) (by rfl)) (D_cons (E_call c (h 7 _ rfl) rfl rfl (by rfl) (D_cons (E_var (i := 2) rfl (.inr (.inl (by rfl))) rfl rfl) (D_cons (E_var (i := 9) rfl (.inl (by rfl)) rfl rfl) (D_nil) (by rfl)) (by rfl)) rfl (by rfl) (by rfl) (by rfl)) (D_nil) (by rfl)) (by rfl)) (by rfl))) (D_cons (E_lst (D_cons (E_int) (D_cons (E_int) (D_cons (E_int) (D_nil) (by rfl)) (by rfl)) (by rfl))) (D_nil) (by rfl)) (by rfl)) rfl (by rfl) (by rfl) (by rfl)) (by intro _; rfl))
                  · refine SS_one ?_
                    exact S_ret (E_bl)
                  · exact SS_nil
                · refine SS_cons ?_ ?_
                  · refine S_for c hp ?_ ?_ ?_ (by intro _; rfl)
                    · exact I_r1 (by rfl) (Hd.f_range m) (D_cons (E_bin c p_add (G_b (i := 2) rfl (.inr (.inl (by rfl))) rfl rfl) (G_v (E_int))) (D_nil) (by rfl)) (by rfl)
                    · exact tg_nm (i := 7) (Cc.nd c) rfl (.inr rfl) (.inl rfl)
                    · refine SS_cons ?_ ?_
                      · exact S_set (i := 10) c rfl (.inl rfl) (O_v (E_blt c (p_sum (Cc.calm c)) (by rfl) (Hd.f_sum m) (by decide +kernel) (A_cons (G_v (E_lc (own := [(".0", 13), ("pair", 14)]) (tg := .nm 14) c (I_seq c (E_sorted c (by rfl) (Hd.f_sorted m) (A_cons (G_b (i := 3) rfl (.inr (.inl (by rfl))) rfl rfl) (A_nil) (by rfl)) (by rfl) (by rfl))) (blkOk_by (by kernel_rfl)) (by decide) (fun _ _ _ _ _ => tg_nm (i := 14) (Cc.nd (Cc.blk c)) rfl (.inl rfl) (.inr rfl)) (fun _ _ _ _ _ => Ts_one (T_cmp (Cc.blk c) (p_eq (Cc.un4 (Cc.blk c))) (G_v (E_ix (Cc.blk c) (G_b (i := 14) rfl (.inl (by rfl)) rfl rfl) (G_v (E_int)) (fun _ _ => rfl))) (G_b (i := 7) rfl (.inr (.inl (by rfl))) rfl rfl) (by with_unfolding_all rfl))) (fun _ _ _ _ _ => E_ix (Cc.blk c) (G_b (i := 3) rfl (.inr (.inl (by rfl))) rfl rfl) (G_b (i := 14) rfl (.inl (by rfl)) rfl rfl) (fun _ _ => rfl)) (by intro _; rfl))) (A_nil) (by rfl)) (by decide) (by rfl) (by rfl) (by rfl))) (.inl rfl) (by rfl)
                      · refine SS_one ?_
                        refine S_if ?_ ?_ ?_
                        · exact T_not (T_val (E_call c (h 12 _ rfl) rfl rfl (by rfl) (D_cons (E_lst (D_cons (E_call c (h 7 _ rfl) rfl rfl (by rfl) (D_cons (E_var (i := 2) rfl (.inr (.inl (by rfl))) rfl rfl) (D_cons (E_var (i := 7) rfl (.inr (.inl (by rfl))) rfl rfl) (D_nil) (by rfl)) (by rfl)) rfl (by rfl) (by rfl) (by rfl)) (D_cons (E_blt c (p_sum (Cc.calm c)) (by rfl) (Hd.f_sum m) (by decide +kernel) (A_cons (G_v (E_lc (own := [(".0", 13), ("last", 8)]) (tg := .nm 8) c (I_r1 (by rfl) (Hd.f_range m) (D_cons (E_bin c p_add (G_b (i := 2) rfl (.inr (.inl (by rfl))) rfl rfl) (G_v (E_int))) (D_nil) (by rfl)) (by rfl)) (blkOk_by (by kernel_rfl)) (by decide) (fun _ _ _ _ _ => tg_nm (i := 8) (Cc.nd (Cc.blk c)) rfl (.inl rfl) (.inr rfl)) (fun _ _ _ _ _ => Ts_nil) (fun _ _ _ _ _ => E_call (Cc.blk c) (h 9 _ rfl) rfl rfl (by rfl) (D_cons (E_var (i := 2) rfl (.inr (.inl (by rfl))) rfl rfl) (D_cons (E_var (i := 7) rfl (.inr (.inl (by rfl))) rfl rfl) (D_cons (E_var (i := 8) rfl (.inl (by rfl)) rfl rfl) (D_nil) (by rfl)) (by rfl)) (by rfl)) rfl (by rfl) (by rfl) (by rfl)) (by intro _; rfl))) (A_nil) (by rfl)) (by decide) (by rfl) (by rfl) (by rfl)) (D_nil) (by rfl)) (by rfl))) (D_cons (E_lst (D_cons (E_var (i := 10) rfl (.inl (by rfl)) rfl rfl) (D_cons (E_var (i := 10) rfl (.inl (by rfl)) rfl rfl) (D_nil) (by rfl)) (by rfl))) (D_nil) (by rfl)) (by rfl)) rfl (by rfl) (by rfl) (by rfl)) (by intro _; rfl))
                        · refine SS_one ?_
                          exact S_ret (E_bl)
                        · exact SS_nil
                  · refine SS_cons ?_ ?_
                    · exact S_set (i := 11) c rfl (.inr rfl) (O_v (E_bin c p_add (G_v (E_int)) (G_v (E_callio (j := 1) c (h 11 _ rfl) rfl rfl (by rfl) (by rfl) (.inl (by rfl)) (by rfl) (by rfl) (D_cons (E_int) (D_nil) (by rfl)) rfl (by rfl) (by rfl) (by rfl))))) (.inl rfl) (by rfl)
                    · refine SS_cons ?_ ?_
                      · exact S_set (i := 12) c rfl (.inr rfl) (O_v (E_call c (h 13 _ rfl) rfl rfl (by rfl) (D_cons (E_var (i := 11) rfl (.inr (.inl (by rfl))) rfl rfl) (D_nil) (by rfl)) rfl (by rfl) (by rfl) (by rfl))) (.inl rfl) (by rfl)
                      · refine SS_cons ?_ ?_
                        · refine S_for c hp ?_ ?_ ?_ (by intro _; rfl)
                          · exact I_r2 (by rfl) (Hd.f_range m) (D_cons (E_int) (D_cons (E_bin c p_add (G_b (i := 11) rfl (.inr (.inl (by rfl))) rfl rfl) (G_v (E_int))) (D_nil) (by rfl)) (by rfl)) (by rfl) (by rfl)
                          · exact tg_nm (i := 7) (Cc.nd c) rfl (.inr rfl) (.inl rfl)
                          · refine SS_one ?_
                            refine S_if ?_ ?_ ?_
                            · exact T_not (T_val (E_call c (h 12 _ rfl) rfl rfl (by rfl) (D_cons (E_lc (own := [(".0", 13), ("last", 8)]) (tg := .nm 8) c (I_r2 (by rfl) (Hd.f_range m) (D_cons (E_int) (D_cons (E_bin c p_add (G_b (i := 11) rfl (.inr (.inl (by rfl))) rfl rfl) (G_v (E_int))) (D_nil) (by rfl)) (by rfl)) (by rfl) (by rfl)) (blkOk_by (by kernel_rfl)) (by decide) (fun _ _ _ _ _ => tg_nm (i := 8) (Cc.nd (Cc.blk c)) rfl (.inl rfl) (.inr rfl)) (fun _ _ _ _ _ => Ts_nil) (fun _ _ _ _ _ => E_blt (Cc.blk c) p_len (by rfl) (Hd.f_len m) (by decide +kernel) (A_cons (G_v (E_call (Cc.blk c) (h 4 _ rfl) rfl rfl (by rfl) (D_cons (E_var (i := 11) rfl (.inr (.inl (by rfl))) rfl rfl) (D_cons (E_var (i := 7) rfl (.inr (.inl (by rfl))) rfl rfl) (D_cons (E_var (i := 8) rfl (.inl (by rfl)) rfl rfl) (D_nil) (by rfl)) (by rfl)) (by rfl)) rfl (by rfl) (by rfl) (by rfl))) (A_nil) (by rfl)) (by decide) (by rfl) (by rfl) (by rfl)) (by intro _; rfl)) (D_cons (E_lc (own := [(".0", 13), ("last", 8)]) (tg := .nm 8) c (I_r2 (by rfl) (Hd.f_range m) (D_cons (E_int) (D_cons (E_bin c p_add (G_b (i := 11) rfl (.inr (.inl (by rfl))) rfl rfl) (G_v (E_int))) (D_nil) (by rfl)) (by rfl)) (by rfl) (by rfl)) (blkOk_by (by kernel_rfl)) (by decide) (fun _ _ _ _ _ => tg_nm (i := 8) (Cc.nd (Cc.blk c)) rfl (.inl rfl) (.inr rfl)) (fun _ _ _ _ _ => Ts_nil) (fun _ _ _ _ _ => E_get2 (Cc.blk c) (G_b (i := 12) rfl (.inr (.inl (by rfl))) rfl rfl) (E_tup (D_cons (E_var (i := 7) rfl (.inr (.inl (by rfl))) rfl rfl) (D_cons (E_var (i := 8) rfl (.inl (by rfl)) rfl rfl) (D_nil) (by rfl)) (by rfl))) (E_int) (m2_of (by rfl) (by rfl) (by rfl) (by rfl))) (by intro _; rfl)) (D_nil) (by rfl)) (by rfl)) rfl (by rfl) (by rfl) (by rfl)) (by intro _; rfl))
                            · refine SS_one ?_
                              exact S_ret (E_bl)
                            · exact SS_nil
                        · refine SS_one ?_
                          exact S_ret (E_bl)
end
def d_is_whole : He.DefD := ⟨("is_whole", none), "is_whole", "is_whole", defArgs (top 4), defBody (top 4), defScope (top 4), [], []⟩
def d_is_size : He.DefD := ⟨("is_size", none), "is_size", "is_size", defArgs (top 7), defBody (top 7), defScope (top 7), [], []⟩
def d_seen : He.DefD := ⟨("seen", none), "seen", "seen", defArgs (top 8), defBody (top 8), defScope (top 8), [], []⟩
def d_all_rows : He.DefD := ⟨("all_rows", none), "all_rows", "all_rows", defArgs (top 9), defBody (top 9), defScope (top 9), [], []⟩
def d_rows_seen : He.DefD := ⟨("rows_seen", none), "rows_seen", "rows_seen", defArgs (top 10), defBody (top 10), defScope (top 10), [], []⟩
def d_look_at_seen : He.DefD := ⟨("look_at_seen", none), "look_at_seen", "look_at_seen", defArgs (top 11), defBody (top 11), defScope (top 11), [], []⟩
def d_look_at_count : He.DefD := ⟨("look_at_count", none), "look_at_count", "look_at_count", defArgs (top 12), defBody (top 12), defScope (top 12), [], []⟩
def d_count_seen : He.DefD := ⟨("count_seen", none), "count_seen", "count_seen", defArgs (top 13), defBody (top 13), defScope (top 13), [], []⟩
def d_choose : He.DefD := ⟨("choose", none), "choose", "choose", defArgs (top 14), defBody (top 14), defScope (top 14), [], []⟩
def d_count_both : He.DefD := ⟨("count_both", none), "count_both", "count_both", defArgs (top 15), defBody (top 15), defScope (top 15), [], []⟩
def d__law_draws : He.DefD := ⟨("_law_draws", none), "_law_draws", "_law_draws", defArgs (top 17), defBody (top 17), defScope (top 17), [], []⟩
def d__law_draw : He.DefD := ⟨("_law_draw", none), "_law_draw", "_law_draw", defArgs (top 18), defBody (top 18), defScope (top 18), [], []⟩
def d__law_same : He.DefD := ⟨("_law_same", none), "_law_same", "_law_same", defArgs (top 19), defBody (top 19), defScope (top 19), [], []⟩
def d__law_both : He.DefD := ⟨("_law_both", none), "_law_both", "_law_both", defArgs (top 20), defBody (top 20), defScope (top 20), [], []⟩
def d_law : He.DefD := ⟨("law", none), "law", "law", defArgs (top 21), defBody (top 21), defScope (top 21), [], []⟩
def fns : List He.DefD := [d_is_whole, d_is_size, d_seen, d_all_rows, d_rows_seen, d_look_at_seen, d_look_at_count, d_count_seen, d_choose, d_count_both, d__law_draws, d__law_draw, d__law_same, d__law_both, d_law]
def fcs : List He.Fa := [.glo "is_whole", .glo "is_size", .glo "seen", .glo "all_rows", .glo "rows_seen", .glo "look_at_seen", .glo "look_at_count", .glo "count_seen", .glo "choose", .glo "count_both", .glo "_law_draws", .glo "_law_draw", .glo "_law_same", .glo "_law_both", .glo "law", .free "all", .free "bool", .free "int", .free "isinstance", .free "len", .free "list", .free "min", .free "range", .free "sorted", .free "str", .free "sum", .free "tuple", .int "MOST_SIZE" 6, .glo "BadPuzzle", .exc "BadPuzzle"]
def excs : List Str := ["PencilError", "BadPuzzle"]
def exA (K : PySem.W.Frag) : Nat → Addr := fun c => He.ga K ((excs[c]?).getD "")
def faA (K : PySem.W.Frag) : FAd := fun i => (fns[i]?).map fun d => He.fAd K d.at_
section
variable {P : Program} {w : World} {K : PySem.W.Frag} {h : Heap} {mg : Str → Option Value}
theorem hd_of (X : K.In h) (G : h.Ns mainGlobals mg) (c : He.SaysD fcs fns K) : Hd K mg (exA K) where
  f_all := He.free_ok X G (c.fact 15 (f := .free "all") rfl)
  f_bool := He.free_ok X G (c.fact 16 (f := .free "bool") rfl)
  f_int := He.free_ok X G (c.fact 17 (f := .free "int") rfl)
  f_isinstance := He.free_ok X G (c.fact 18 (f := .free "isinstance") rfl)
  f_len := He.free_ok X G (c.fact 19 (f := .free "len") rfl)
  f_list := He.free_ok X G (c.fact 20 (f := .free "list") rfl)
  f_min := He.free_ok X G (c.fact 21 (f := .free "min") rfl)
  f_range := He.free_ok X G (c.fact 22 (f := .free "range") rfl)
  f_sorted := He.free_ok X G (c.fact 23 (f := .free "sorted") rfl)
  f_str := He.free_ok X G (c.fact 24 (f := .free "str") rfl)
  f_sum := He.free_ok X G (c.fact 25 (f := .free "sum") rfl)
  f_tuple := He.free_ok X G (c.fact 26 (f := .free "tuple") rfl)
  c_MOST_SIZE := He.int_ok X G (c.fact 27 (f := .int "MOST_SIZE" 6) rfl)
  e_BadPuzzle := by
    obtain ⟨q1, q2, q3, q4⟩ := He.exc_ok (c.fact 29 (f := .exc "BadPuzzle") rfl)
    exact ⟨⟨_, _, _, _, PySem.F.excBase_ValueError, q1⟩, He.glo_ok X G (c.fact 28 (f := .glo "BadPuzzle") rfl), q2, q3, q4⟩
theorem s_is_whole : FnScope N_is_whole ["value"] (defScope (top 4)) := ⟨rfl, rfl, rfl, by decide +kernel, rfl, by decide +kernel, by decide +kernel⟩
theorem s_is_size : FnScope N_is_size ["value"] (defScope (top 7)) := ⟨rfl, rfl, rfl, by decide +kernel, rfl, by decide +kernel, by decide +kernel⟩
theorem s_seen : FnScope N_seen ["row"] (defScope (top 8)) := ⟨rfl, rfl, rfl, by decide +kernel, rfl, by decide +kernel, by decide +kernel⟩
theorem s_all_rows : FnScope N_all_rows ["size"] (defScope (top 9)) := ⟨rfl, rfl, rfl, by decide +kernel, rfl, by decide +kernel, by decide +kernel⟩
theorem s_rows_seen : FnScope N_rows_seen ["size", "first", "last"] (defScope (top 10)) := ⟨rfl, rfl, rfl, by decide +kernel, rfl, by decide +kernel, by decide +kernel⟩
theorem s_look_at_seen : FnScope N_look_at_seen ["size", "first", "last"] (defScope (top 11)) := ⟨rfl, rfl, rfl, by decide +kernel, rfl, by decide +kernel, by decide +kernel⟩
theorem s_look_at_count : FnScope N_look_at_count ["size", "many"] (defScope (top 12)) := ⟨rfl, rfl, rfl, by decide +kernel, rfl, by decide +kernel, by decide +kernel⟩
theorem s_count_seen : FnScope N_count_seen ["size", "many"] (defScope (top 13)) := ⟨rfl, rfl, rfl, by decide +kernel, rfl, by decide +kernel, by decide +kernel⟩
theorem s_choose : FnScope N_choose ["many", "some"] (defScope (top 14)) := ⟨rfl, rfl, rfl, by decide +kernel, rfl, by decide +kernel, by decide +kernel⟩
theorem s_count_both : FnScope N_count_both ["size", "first", "last"] (defScope (top 15)) := ⟨rfl, rfl, rfl, by decide +kernel, rfl, by decide +kernel, by decide +kernel⟩
theorem s__law_draws : FnScope N__law_draws ["script"] (defScope (top 17)) := ⟨rfl, rfl, rfl, by decide +kernel, rfl, by decide +kernel, by decide +kernel⟩
theorem s__law_draw : FnScope N__law_draw ["draws", "limit"] (defScope (top 18)) := ⟨rfl, rfl, rfl, by decide +kernel, rfl, by decide +kernel, by decide +kernel⟩
theorem s__law_same : FnScope N__law_same ["actual", "expected"] (defScope (top 19)) := ⟨rfl, rfl, rfl, by decide +kernel, rfl, by decide +kernel, by decide +kernel⟩
theorem s__law_both : FnScope N__law_both ["size"] (defScope (top 20)) := ⟨rfl, rfl, rfl, by decide +kernel, rfl, by decide +kernel, by decide +kernel⟩
theorem s_law : FnScope N_law ["script"] (defScope (top 21)) := ⟨rfl, rfl, rfl, by decide +kernel, rfl, by decide +kernel, by decide +kernel⟩
theorem defs_ok {base : Heap} (X : K.In h) (G : h.Ns mainGlobals mg) (c : He.SaysD fcs fns K) : ∀ i d, tb[i]? = some d → DefOk tb (faA K) (exA K) P w K mg base i d
  | 0, _, rfl => by
    obtain ⟨fd, F⟩ := c.def_ 0 (d := d_is_whole) rfl
    exact ⟨_, fd, N_is_whole, ["value"], _, _, _, F, s_is_whole, rfl, rfl, He.glo_ok X G (c.fact 0 (f := .glo "is_whole") rfl), rfl, FunD.bindsN F fun _ _ _ _ _ _ us hl => (match us, hl with | [_], _ => rfl), fun k hk cdv A outer s H E Oc G0 io hr => w_is_whole (hd_of X G c) hk hr⟩
  | 1, _, rfl => by
    obtain ⟨fd, F⟩ := c.def_ 1 (d := d_is_size) rfl
    exact ⟨_, fd, N_is_size, ["value"], _, _, _, F, s_is_size, rfl, rfl, He.glo_ok X G (c.fact 1 (f := .glo "is_size") rfl), rfl, FunD.bindsN F fun _ _ _ _ _ _ us hl => (match us, hl with | [_], _ => rfl), fun k hk cdv A outer s H E Oc G0 io hr => w_is_size (hd_of X G c) hk hr⟩
  | 2, _, rfl => by
    obtain ⟨fd, F⟩ := c.def_ 2 (d := d_seen) rfl
    exact ⟨_, fd, N_seen, ["row"], _, _, _, F, s_seen, rfl, rfl, He.glo_ok X G (c.fact 2 (f := .glo "seen") rfl), rfl, FunD.bindsN F fun _ _ _ _ _ _ us hl => (match us, hl with | [_], _ => rfl), fun k hk cdv A outer s H E Oc G0 io hr => w_seen (hd_of X G c) hk hr⟩
  | 3, _, rfl => by
    obtain ⟨fd, F⟩ := c.def_ 3 (d := d_all_rows) rfl
    exact ⟨_, fd, N_all_rows, ["size"], _, _, _, F, s_all_rows, rfl, rfl, He.glo_ok X G (c.fact 3 (f := .glo "all_rows") rfl), rfl, FunD.bindsN F fun _ _ _ _ _ _ us hl => (match us, hl with | [_], _ => rfl), fun k hk cdv A outer s H E Oc G0 io hr => w_all_rows (hd_of X G c) hk hr⟩
  | 4, _, rfl => by
    obtain ⟨fd, F⟩ := c.def_ 4 (d := d_rows_seen) rfl
    exact ⟨_, fd, N_rows_seen, ["size", "first", "last"], _, _, _, F, s_rows_seen, rfl, rfl, He.glo_ok X G (c.fact 4 (f := .glo "rows_seen") rfl), rfl, FunD.bindsN F fun _ _ _ _ _ _ us hl => (match us, hl with | [_, _, _], _ => rfl), fun k hk cdv A outer s H E Oc G0 io hr => w_rows_seen (hd_of X G c) hk hr⟩
  | 5, _, rfl => by
    obtain ⟨fd, F⟩ := c.def_ 5 (d := d_look_at_seen) rfl
    exact ⟨_, fd, N_look_at_seen, ["size", "first", "last"], _, _, _, F, s_look_at_seen, rfl, rfl, He.glo_ok X G (c.fact 5 (f := .glo "look_at_seen") rfl), rfl, FunD.bindsN F fun _ _ _ _ _ _ us hl => (match us, hl with | [_, _, _], _ => rfl), fun k hk cdv A outer s H E Oc G0 io hr => w_look_at_seen (hd_of X G c) hk hr⟩
  | 6, _, rfl => by
    obtain ⟨fd, F⟩ := c.def_ 6 (d := d_look_at_count) rfl
    exact ⟨_, fd, N_look_at_count, ["size", "many"], _, _, _, F, s_look_at_count, rfl, rfl, He.glo_ok X G (c.fact 6 (f := .glo "look_at_count") rfl), rfl, FunD.bindsN F fun _ _ _ _ _ _ us hl => (match us, hl with | [_, _], _ => rfl), fun k hk cdv A outer s H E Oc G0 io hr => w_look_at_count (hd_of X G c) hk hr⟩
  | 7, _, rfl => by
    obtain ⟨fd, F⟩ := c.def_ 7 (d := d_count_seen) rfl
    exact ⟨_, fd, N_count_seen, ["size", "many"], _, _, _, F, s_count_seen, rfl, rfl, He.glo_ok X G (c.fact 7 (f := .glo "count_seen") rfl), rfl, FunD.bindsN F fun _ _ _ _ _ _ us hl => (match us, hl with | [_, _], _ => rfl), fun k hk cdv A outer s H E Oc G0 io hr => w_count_seen (hd_of X G c) hk hr⟩
  | 8, _, rfl => by
    obtain ⟨fd, F⟩ := c.def_ 8 (d := d_choose) rfl
    exact ⟨_, fd, N_choose, ["many", "some"], _, _, _, F, s_choose, rfl, rfl, He.glo_ok X G (c.fact 8 (f := .glo "choose") rfl), rfl, FunD.bindsN F fun _ _ _ _ _ _ us hl => (match us, hl with | [_, _], _ => rfl), fun k hk cdv A outer s H E Oc G0 io hr => w_choose (hd_of X G c) hk hr⟩
  | 9, _, rfl => by
    obtain ⟨fd, F⟩ := c.def_ 9 (d := d_count_both) rfl
    exact ⟨_, fd, N_count_both, ["size", "first", "last"], _, _, _, F, s_count_both, rfl, rfl, He.glo_ok X G (c.fact 9 (f := .glo "count_both") rfl), rfl, FunD.bindsN F fun _ _ _ _ _ _ us hl => (match us, hl with | [_, _, _], _ => rfl), fun k hk cdv A outer s H E Oc G0 io hr => w_count_both (hd_of X G c) hk hr⟩
  | 10, _, rfl => by
    obtain ⟨fd, F⟩ := c.def_ 10 (d := d__law_draws) rfl
    exact ⟨_, fd, N__law_draws, ["script"], _, _, _, F, s__law_draws, rfl, rfl, He.glo_ok X G (c.fact 10 (f := .glo "_law_draws") rfl), rfl, FunD.bindsN F fun _ _ _ _ _ _ us hl => (match us, hl with | [_], _ => rfl), fun k hk cdv A outer s H E Oc G0 io hr => w__law_draws (hd_of X G c) hk hr⟩
  | 11, _, rfl => by
    obtain ⟨fd, F⟩ := c.def_ 11 (d := d__law_draw) rfl
    exact ⟨_, fd, N__law_draw, ["draws", "limit"], _, _, _, F, s__law_draw, rfl, rfl, He.glo_ok X G (c.fact 11 (f := .glo "_law_draw") rfl), rfl, FunD.bindsN F fun _ _ _ _ _ _ us hl => (match us, hl with | [_, _], _ => rfl), fun k hk cdv A outer s H E Oc G0 io hr => w__law_draw (hd_of X G c) hk hr⟩
  | 12, _, rfl => by
    obtain ⟨fd, F⟩ := c.def_ 12 (d := d__law_same) rfl
    exact ⟨_, fd, N__law_same, ["actual", "expected"], _, _, _, F, s__law_same, rfl, rfl, He.glo_ok X G (c.fact 12 (f := .glo "_law_same") rfl), rfl, FunD.bindsN F fun _ _ _ _ _ _ us hl => (match us, hl with | [_, _], _ => rfl), fun k hk cdv A outer s H E Oc G0 io hr => w__law_same (hd_of X G c) hk hr⟩
  | 13, _, rfl => by
    obtain ⟨fd, F⟩ := c.def_ 13 (d := d__law_both) rfl
    exact ⟨_, fd, N__law_both, ["size"], _, _, _, F, s__law_both, rfl, rfl, He.glo_ok X G (c.fact 13 (f := .glo "_law_both") rfl), rfl, FunD.bindsN F fun _ _ _ _ _ _ us hl => (match us, hl with | [_], _ => rfl), fun k hk cdv A outer s H E Oc G0 io hr => w__law_both (hd_of X G c) hk hr⟩
  | 14, _, rfl => by
    obtain ⟨fd, F⟩ := c.def_ 14 (d := d_law) rfl
    exact ⟨_, fd, N_law, ["script"], _, _, _, F, s_law, rfl, rfl, He.glo_ok X G (c.fact 14 (f := .glo "law") rfl), rfl, FunD.bindsN F fun _ _ _ _ _ _ us hl => (match us, hl with | [_], _ => rfl), fun k hk cdv A outer s H E Oc G0 io hr => w_law (hd_of X G c) hk hr⟩
  | i + 15, d, e => by cases e
end
abbrev lawRow : PySem.W.OpenLaw := PySem.Challenge.rw_pencilrows_k94_whole_great_orders_of_hei
abbrev Rw : PySem.W.OpenRow := PySem.W.OpenLaw.row lawRow
def looseN : List Str := ["PencilError", "BadPuzzle", "is_whole", "MOST_SIZE", "is_size", "seen", "all_rows", "rows_seen", "look_at_seen", "look_at_count", "count_seen", "choose", "count_both", "_law_draws", "_law_draw", "_law_same", "_law_both"]
abbrev hk : PySem.W.Hook := He.hookD 6 fcs fns
def ob (s : PySem.W.SharedT) : He.AlD := He.obsDG 6 fcs fns (HandSHeadRun.getT s)
theorem ob_eq (s : PySem.W.SharedT) : ob s = hk.obs s.abs := He.obsDG_eq (HandSHeadRun.getT_eq s)
theorem run (w : World) : HandSHeadRun.RunEq Rw (PySem.W.view Rw.prog [21]) hk ob 3000 looseN w := by
  intro os
  kernel_rfl
def plainLaw : Prop := ∀ ns : List Int, ns.length ≤ 63 → callN tb 30 14 [.scr ns] = .ok (.bl true)
theorem facts {P : Program} {w : World} {K : PySem.W.Frag} {h : Heap} {mg : Str → Option Value} {f : Addr} (X : K.In h) (G : h.Ns mainGlobals mg) (hfa : mg ("law" : Str) = some (.ref f)) (c : He.SaysD fcs fns K) :
    ∃ fd : FuncData, (∀ (s : Shared) (v : Value), BindsTo s fd ⟨[v], []⟩ [("script", v)]) ∧ ∀ base : Heap, K.In base → base.Ns mainGlobals mg → FnOk P w K mg base (L2.CX P w) 30 f fd ["script"] (spP K (faA K) (exA K) 1 (callN tb 30 14)) := by
  obtain ⟨fd, F⟩ := c.def_ 14 (d := d_law) rfl
  have e := hfa.symm.trans (He.glo_ok X G (c.fact 14 (f := .glo "law") rfl))
  cases e
  have b := FunD.bindsA (ps := ["script"]) F fun _ _ _ _ _ _ us hl => (match us, hl with | [_], _ => rfl)
  refine ⟨fd, fun s v => b s [v] rfl, fun base kb gb => ?_⟩
  exact law_ok (d := ⟨"law", 1, 15, 0, b_law⟩) F s_law rfl rfl rfl rfl (defs_ok (P := P) (w := w) (base := base) X G c) fun k hk cdv A outer s H E Oc G0 io hr => w_law (hd_of X G c) hk hr
open PySem.W in
theorem holds_of (hl : plainLaw) : (lawRow).Holds := by
  w_on; o_law
  refine HandSHeadRun.head_any (r := OpenLaw.row lawRow) (q := view (OpenLaw.row lawRow).prog [21]) (H := hk) (ob := ob) (M := 3000) (loose := looseN) (d := HandSHeadRun.topDef (OpenLaw.row lawRow).prog 21) (kwd := []) ob_eq
    (by kernel_rfl) (fun s => by kernel_rfl) run (by kernel_rfl) (by kernel_rfl) (by kernel_rfl) (by rfl) (by first | assumption | decide +kernel) (by decide +kernel) ⟨rfl, rfl, rfl, rfl, rfl, by decide +kernel⟩ ?hw ?hc
  case hw => w_witness2
  case hc =>
    refine Ev.walk_evE (l := lawRow) (n := 63) (k := 30) (x := "script") (CX := fun w => L2.CX (lawRow).prog w) rfl (by decide) (by kernel_rfl) ⟨rfl, by decide, by decide⟩ ?F fun _ _ _ _ _ h => Ev.cx_none h
    intro w mg f h Y G hmg0
    obtain ⟨K, X, c⟩ := Y
    have hm : mg ("law" : PySem.Str) = some (.ref f) := by
      have e : (HandSHeadRun.topDef (OpenLaw.row lawRow).prog 21).name = ("law" : PySem.Str) := by kernel_rfl
      rw [← e]
      exact hmg0
    obtain ⟨fd, hb, hF⟩ := facts (P := (lawRow).prog) (w := w) X G hm c
    exact ⟨K, fd, spP K (faA K) (exA K) 1 (callN tb 30 14), X, hb, fun H a ns hl2 ho hs => law_sp (hl ns hl2) ho hs, hF⟩

end Ev.K94
set_option Elab.async false
set_option linter.all false
set_option maxRecDepth 100000
set_option maxHeartbeats 4000000
namespace Ev.K94
open PySem PySem.Spec PyProof.Rows L2

def C : Nat → Nat → Nat
  | _, 0 => 1
  | 0, _ + 1 => 0
  | n + 1, k + 1 => C n k + C n (k + 1)
theorem C_zero (n : Nat) : C n 0 = 1 := by cases n <;> rfl
theorem C_big : ∀ {n k : Nat}, n < k → C n k = 0
  | 0, k + 1, _ => rfl
  | n + 1, k + 1, h => by
    show C n k + C n (k + 1) = 0
    rw [C_big (by omega), C_big (by omega)]
theorem C_step : ∀ (n j : Nat), j ≤ n → C n (j + 1) * (j + 1) = C n j * (n - j)
  | 0, 0, _ => rfl
  | n + 1, 0, _ => by
    have := C_step n 0 (Nat.zero_le _)
    rw [C_zero, Nat.sub_zero] at this
    have e : C (n + 1) (0 + 1) = C n 0 + C n (0 + 1) := rfl
    rw [e, C_zero, C_zero]
    omega
  | n + 1, j + 1, h => by
    have h1 := C_step n j (by omega)
    show (C n (j + 1) + C n (j + 2)) * (j + 2) = (C n j + C n (j + 1)) * (n + 1 - (j + 1))
    rw [show n + 1 - (j + 1) = n - j from by omega, Nat.add_mul (C n j), ← h1]
    by_cases h3 : j + 1 ≤ n
    · have h2 := C_step n (j + 1) h3
      rw [Nat.add_mul (C n (j + 1)), show C n (j + 2) * (j + 2) = C n (j + 1) * (n - (j + 1)) from h2, ← Nat.mul_add, ← Nat.mul_add]
      congr 1
      omega
    · rw [C_big (by omega : n < j + 1), C_big (by omega : n < j + 2)]; omega
theorem C_le : ∀ n k : Nat, C n k ≤ 2 ^ n
  | n, 0 => by rw [C_zero]; exact Nat.one_le_two_pow
  | 0, k + 1 => Nat.zero_le _
  | n + 1, k + 1 => by
    show C n k + C n (k + 1) ≤ 2 ^ (n + 1)
    have := C_le n k
    have := C_le n (k + 1)
    rw [Nat.pow_succ]; omega
theorem small_of {i : Int} (h1 : 0 ≤ i) (h2 : i < 2 ^ 64) : small i = true := decide_eq_true ⟨by omega, h2⟩
theorem choose_ok {k : Nat} {a b : Nat} (hb : b ≤ a) (ha : a ≤ 60) : callN tb (k + 1) 8 [.int a, .int b] = .ok (.int (C a b)) := by
  show bodyR (b_choose (callN tb k) [.val (.int a), .val (.int b), .und, .und]) = _
  unfold b_choose
  have c1 : decide ((0 : Int) ≤ (b : Int)) = true := decide_eq_true (by omega)
  have c2 : decide ((b : Int) ≤ (a : Int)) = true := decide_eq_true (by omega)
  have c3 : bnd (b : Int) = true := decide_eq_true (by omega)
  have L := forGo_st (tg := .nm 3) (b := sSet 2 (oV (o2 .fdiv (gV (o2 .mul (argVar 2) (gV (o2 .sub (argVar 0) (argVar 3))))) (gV (o2 .add (argVar 3) (gV (litR (.int 1)))))))) (xs := rngD 0 1 (b : Int).toNat)
    (fun j => [.val (.int a), .val (.int b), .val (.int (C a j)), if j = 0 then .und else .val (.int (j - 1 : Nat))]) (fun j hj => ?_)
  · have e0 : C a 0 = 1 := C_zero a
    simp only [e0, if_true, rngD_len] at L
    rw [show ((1 : Nat) : Int) = 1 from rfl] at L
    simp only [v_bind, v_bindx, v_gt0, v_gtS, v_set0, v_setS, v_lit, v_var, v_varV, v_varO, v_varR, v_arg, v_argV, v_argO, v_gV, v_dN, v_dC, v_gN, v_gC, v_d1, v_o1, v_o2, v_o3, v_oD, v_oG, v_opR, v_opRx, v_opF, v_opG, v_opD, v_opDx, v_ds0, v_dsV, v_dsB, v_dsBV, v_dsBO, v_map, v_ch, v_chT, v_chF, v_tB, v_asB, v_asBx, v_tAnd, v_tOr, v_tNot, v_eAnd, v_eOr, v_eNot, v_eIf, v_itE, v_itR, v_itG, v_r1, v_r2, v_seqT, v_seqL, v_clR, v_callR, v_callRx, v_clG, v_clGx, v_clf, v_callf, v_clfG, v_clio, v_cioF, v_cioG, v_cioH, v_oV, v_vlR, v_vlRx, v_oO, v_owL, v_owD, v_sSet, v_setR, v_setRx, v_okV, v_okS, v_sUnp, v_unpR, v_unpG, v_put1, v_putT, v_puts0, v_putsS, v_sPar, v_parR, v_sPut, v_putR, v_putG, v_own, v_putL, v_putD, v_aug, v_augG, v_augH, v_app, v_appF, v_appG, v_sExp, v_expR, v_expRx, v_sRet, v_retR, v_retRx, v_sRetf, v_retf, v_sEnd, v_sRaise, v_sIf, v_ifR, v_ifRx, v_sFor, v_forR, v_sSeq, v_seqN, v_seqR, v_seqx, v_sYes, v_get1, v_get2, v_isD, v_getR1, v_getR2, v_dct1, v_add, v_addT, v_addL, v_sub, v_mul, v_fdiv, v_mod, v_pow, v_neg, v_lt, v_le, v_gtp, v_ge, v_eqI, v_neI, v_eqB, v_neB, v_isN, v_inT, v_ninT, v_ixT, v_ixL, v_ixD, v_revT, v_tup, v_lst, v_dnew, v_dnewT, v_lenT, v_lenL, v_lenD, v_tofT, v_tofL, v_lofS, v_sumL, v_min2, v_max2, v_intI, v_intB, v_allL, v_isi, isi, if_true, if_false, Bool.and_self, Bool.and_true, Bool.true_and, Bool.and_false, Bool.false_and, Bool.or_true, Bool.true_or, Bool.or_false, Bool.false_or, Bool.not_true, Bool.not_false, Bool.false_eq_true, List.length_cons, List.length_nil, Nat.reduceAdd, Nat.reduceLeDiff, decide_true, decide_false, List.set_cons_zero, List.set_cons_succ, c1, c2, c3, L, bodyR]
    rfl
  · rw [rngD_len] at hj
    rw [rngD_at]
    have hj' : j < b := by omega
    refine ⟨_, v_put1, ?_⟩
    have h1 := C_step a j (by omega)
    have l1 : small ((a : Int) - (0 + (j : Int) * 1)) = true := decide_eq_true (by omega)
    have d1 : decide (0 < (0 + (j : Int) * 1) + 1 ∧ (0 + (j : Int) * 1) + 1 < 1073741824) = true := decide_eq_true (by omega)
    have e1 : ((C a j : Nat) : Int) * ((a : Int) - (0 + (j : Int) * 1)) / (0 + (j : Int) * 1 + 1) = ((C a (j + 1) : Nat) : Int) := by
      rw [show (0 + (j : Int) * 1) = j from by omega, show ((a : Int) - j) = ((a - j : Nat) : Int) from by omega, ← Int.natCast_mul, ← h1, Int.natCast_mul]
      exact Int.mul_ediv_cancel _ (by omega)
    simp only [v_bind, v_bindx, v_gt0, v_gtS, v_set0, v_setS, v_lit, v_var, v_varV, v_varO, v_varR, v_arg, v_argV, v_argO, v_gV, v_dN, v_dC, v_gN, v_gC, v_d1, v_o1, v_o2, v_o3, v_oD, v_oG, v_opR, v_opRx, v_opF, v_opG, v_opD, v_opDx, v_ds0, v_dsV, v_dsB, v_dsBV, v_dsBO, v_map, v_ch, v_chT, v_chF, v_tB, v_asB, v_asBx, v_tAnd, v_tOr, v_tNot, v_eAnd, v_eOr, v_eNot, v_eIf, v_itE, v_itR, v_itG, v_r1, v_r2, v_seqT, v_seqL, v_clR, v_callR, v_callRx, v_clG, v_clGx, v_clf, v_callf, v_clfG, v_clio, v_cioF, v_cioG, v_cioH, v_oV, v_vlR, v_vlRx, v_oO, v_owL, v_owD, v_sSet, v_setR, v_setRx, v_okV, v_okS, v_sUnp, v_unpR, v_unpG, v_put1, v_putT, v_puts0, v_putsS, v_sPar, v_parR, v_sPut, v_putR, v_putG, v_own, v_putL, v_putD, v_aug, v_augG, v_augH, v_app, v_appF, v_appG, v_sExp, v_expR, v_expRx, v_sRet, v_retR, v_retRx, v_sRetf, v_retf, v_sEnd, v_sRaise, v_sIf, v_ifR, v_ifRx, v_sFor, v_forR, v_sSeq, v_seqN, v_seqR, v_seqx, v_sYes, v_get1, v_get2, v_isD, v_getR1, v_getR2, v_dct1, v_add, v_addT, v_addL, v_sub, v_mul, v_fdiv, v_mod, v_pow, v_neg, v_lt, v_le, v_gtp, v_ge, v_eqI, v_neI, v_eqB, v_neB, v_isN, v_inT, v_ninT, v_ixT, v_ixL, v_ixD, v_revT, v_tup, v_lst, v_dnew, v_dnewT, v_lenT, v_lenL, v_lenD, v_tofT, v_tofL, v_lofS, v_sumL, v_min2, v_max2, v_intI, v_intB, v_allL, v_isi, isi, if_true, if_false, Bool.and_self, Bool.and_true, Bool.true_and, Bool.and_false, Bool.false_and, Bool.or_true, Bool.true_or, Bool.or_false, Bool.false_or, Bool.not_true, Bool.not_false, Bool.false_eq_true, List.length_cons, List.length_nil, Nat.reduceAdd, Nat.reduceLeDiff, decide_true, decide_false, List.set_cons_zero, List.set_cons_succ, l1, d1, e1]
    simp

def S : Nat → Nat → Nat
  | 0, 0 => 1
  | 0, _ + 1 => 0
  | n + 1, 0 => n * S n 0
  | n + 1, k + 1 => n * S n (k + 1) + S n k
theorem S_big : ∀ {n k : Nat}, n < k → S n k = 0
  | 0, k + 1, _ => rfl
  | n + 1, k + 1, h => by
    show n * S n (k + 1) + S n k = 0
    rw [S_big (by omega), S_big (by omega), Nat.mul_zero]
def rowD (n : Nat) : List D := (List.range (n + 1)).map fun k => D.int (S n k : Nat)
theorem rowD_len {n : Nat} : (rowD n).length = n + 1 := by unfold rowD; rw [List.length_map, List.length_range]
theorem rowD_at {n k : Nat} (h : k ≤ n) : (rowD n)[k]? = some (.int (S n k : Nat)) := by
  unfold rowD
  rw [List.getElem?_map, List.getElem?_range (by omega)]
  rfl
abbrev elt_cs : En → R D := o2 .add (gV (o2 .mul (argVar 3) (gV (eIf (tB (o2 .lt (argVar 5) (gV (oG .len (gC (argVar 2) (gN)))))) (o2 .ix (argVar 2) (argVar 5)) (litR (.int 0)))))) (gV (eIf (tB (o2 .gt (argVar 5) (gV (litR (.int 0))))) (o2 .ix (argVar 2) (gV (o2 .sub (argVar 5) (gV (litR (.int 1)))))) (litR (.int 0))))
theorem look_count_ok {k : Nat} {a b : Nat} (ha : a ≤ 40) : callN tb (k + 2) 6 [.int a, .int b] = .ok .non := by
  show bodyR (b_look_at_count (callN tb (k + 1)) [.val (.int a), .val (.int b)]) = _
  unfold b_look_at_count
  have w : ∀ i : Int, callN tb (k + 1) 0 [.int i] = .ok (.bl true) := fun i => by with_unfolding_all rfl
  have c1 : decide ((0 : Int) ≤ (a : Int)) = true := decide_eq_true (by omega)
  have c2 : decide ((a : Int) ≤ 40) = true := decide_eq_true (by omega)
  have c3 : decide ((b : Int) < 0) = false := decide_eq_false (by omega)
  simp only [v_bind, v_bindx, v_gt0, v_gtS, v_set0, v_setS, v_lit, v_var, v_varV, v_varO, v_varR, v_arg, v_argV, v_argO, v_gV, v_dN, v_dC, v_gN, v_gC, v_d1, v_o1, v_o2, v_o3, v_oD, v_oG, v_opR, v_opRx, v_opF, v_opG, v_opD, v_opDx, v_ds0, v_dsV, v_dsB, v_dsBV, v_dsBO, v_map, v_ch, v_chT, v_chF, v_tB, v_asB, v_asBx, v_tAnd, v_tOr, v_tNot, v_eAnd, v_eOr, v_eNot, v_eIf, v_itE, v_itR, v_itG, v_r1, v_r2, v_seqT, v_seqL, v_clR, v_callR, v_callRx, v_clG, v_clGx, v_clf, v_callf, v_clfG, v_clio, v_cioF, v_cioG, v_cioH, v_oV, v_vlR, v_vlRx, v_oO, v_owL, v_owD, v_sSet, v_setR, v_setRx, v_okV, v_okS, v_sUnp, v_unpR, v_unpG, v_put1, v_putT, v_puts0, v_putsS, v_sPar, v_parR, v_sPut, v_putR, v_putG, v_own, v_putL, v_putD, v_aug, v_augG, v_augH, v_app, v_appF, v_appG, v_sExp, v_expR, v_expRx, v_sRet, v_retR, v_retRx, v_sRetf, v_retf, v_sEnd, v_sRaise, v_sIf, v_ifR, v_ifRx, v_sFor, v_forR, v_sSeq, v_seqN, v_seqR, v_seqx, v_sYes, v_get1, v_get2, v_isD, v_getR1, v_getR2, v_dct1, v_add, v_addT, v_addL, v_sub, v_mul, v_fdiv, v_mod, v_pow, v_neg, v_lt, v_le, v_gtp, v_ge, v_eqI, v_neI, v_eqB, v_neB, v_isN, v_inT, v_ninT, v_ixT, v_ixL, v_ixD, v_revT, v_tup, v_lst, v_dnew, v_dnewT, v_lenT, v_lenL, v_lenD, v_tofT, v_tofL, v_lofS, v_sumL, v_min2, v_max2, v_intI, v_intB, v_allL, v_isi, isi, if_true, if_false, Bool.and_self, Bool.and_true, Bool.true_and, Bool.and_false, Bool.false_and, Bool.or_true, Bool.true_or, Bool.or_false, Bool.false_or, Bool.not_true, Bool.not_false, Bool.false_eq_true, List.length_cons, List.length_nil, Nat.reduceAdd, Nat.reduceLeDiff, decide_true, decide_false, List.set_cons_zero, List.set_cons_succ, c1, c2, c3, w, bodyR]
theorem elt_cs_ok {n many : Int} {j i : Nat} (hj : j ≤ 60) (hi : i ≤ j + 1) : elt_cs [.val (.int n), .val (.int many), .val (.lst (rowD j)), .val (.int j), .und, .val (.int i)] = .ok (.int (S (j + 1) i : Nat)) [.val (.int n), .val (.int many), .val (.lst (rowD j)), .val (.int j), .und, .val (.int i)] := by
  have l1 : small (j : Int) = true := decide_eq_true (by omega)
  unfold elt_cs
  by_cases h1 : i ≤ j
  · have c1 : decide ((i : Int) < ((rowD j).length : Nat)) = true := decide_eq_true (by rw [rowD_len]; omega)
    have x1 : L2.atI (rowD j) (i : Int) = some (.int (S j i : Nat)) := atI_nat (rowD_at h1)
    cases i with
    | zero =>
      have c2 : decide ((0 : Int) < ((0 : Nat) : Int)) = false := rfl
      have e : S (j + 1) 0 = j * S j 0 := rfl
      simp only [v_bind, v_bindx, v_gt0, v_gtS, v_set0, v_setS, v_lit, v_var, v_varV, v_varO, v_varR, v_arg, v_argV, v_argO, v_gV, v_dN, v_dC, v_gN, v_gC, v_d1, v_o1, v_o2, v_o3, v_oD, v_oG, v_opR, v_opRx, v_opF, v_opG, v_opD, v_opDx, v_ds0, v_dsV, v_dsB, v_dsBV, v_dsBO, v_map, v_ch, v_chT, v_chF, v_tB, v_asB, v_asBx, v_tAnd, v_tOr, v_tNot, v_eAnd, v_eOr, v_eNot, v_eIf, v_itE, v_itR, v_itG, v_r1, v_r2, v_seqT, v_seqL, v_clR, v_callR, v_callRx, v_clG, v_clGx, v_clf, v_callf, v_clfG, v_clio, v_cioF, v_cioG, v_cioH, v_oV, v_vlR, v_vlRx, v_oO, v_owL, v_owD, v_sSet, v_setR, v_setRx, v_okV, v_okS, v_sUnp, v_unpR, v_unpG, v_put1, v_putT, v_puts0, v_putsS, v_sPar, v_parR, v_sPut, v_putR, v_putG, v_own, v_putL, v_putD, v_aug, v_augG, v_augH, v_app, v_appF, v_appG, v_sExp, v_expR, v_expRx, v_sRet, v_retR, v_retRx, v_sRetf, v_retf, v_sEnd, v_sRaise, v_sIf, v_ifR, v_ifRx, v_sFor, v_forR, v_sSeq, v_seqN, v_seqR, v_seqx, v_sYes, v_get1, v_get2, v_isD, v_getR1, v_getR2, v_dct1, v_add, v_addT, v_addL, v_sub, v_mul, v_fdiv, v_mod, v_pow, v_neg, v_lt, v_le, v_gtp, v_ge, v_eqI, v_neI, v_eqB, v_neB, v_isN, v_inT, v_ninT, v_ixT, v_ixL, v_ixD, v_revT, v_tup, v_lst, v_dnew, v_dnewT, v_lenT, v_lenL, v_lenD, v_tofT, v_tofL, v_lofS, v_sumL, v_min2, v_max2, v_intI, v_intB, v_allL, v_isi, isi, if_true, if_false, Bool.and_self, Bool.and_true, Bool.true_and, Bool.and_false, Bool.false_and, Bool.or_true, Bool.true_or, Bool.or_false, Bool.false_or, Bool.not_true, Bool.not_false, Bool.false_eq_true, List.length_cons, List.length_nil, Nat.reduceAdd, Nat.reduceLeDiff, decide_true, decide_false, List.set_cons_zero, List.set_cons_succ, c1, c2, x1, l1, e]
      simp
    | succ i =>
      have c2 : decide ((0 : Int) < ((i + 1 : Nat) : Int)) = true := decide_eq_true (by omega)
      have x2 : L2.atI (rowD j) (((i + 1 : Nat) : Int) - 1) = some (.int (S j i : Nat)) := by
        rw [show ((i + 1 : Nat) : Int) - 1 = (i : Int) from by omega]
        exact atI_nat (rowD_at (by omega))
      have e : S (j + 1) (i + 1) = j * S j (i + 1) + S j i := rfl
      simp only [v_bind, v_bindx, v_gt0, v_gtS, v_set0, v_setS, v_lit, v_var, v_varV, v_varO, v_varR, v_arg, v_argV, v_argO, v_gV, v_dN, v_dC, v_gN, v_gC, v_d1, v_o1, v_o2, v_o3, v_oD, v_oG, v_opR, v_opRx, v_opF, v_opG, v_opD, v_opDx, v_ds0, v_dsV, v_dsB, v_dsBV, v_dsBO, v_map, v_ch, v_chT, v_chF, v_tB, v_asB, v_asBx, v_tAnd, v_tOr, v_tNot, v_eAnd, v_eOr, v_eNot, v_eIf, v_itE, v_itR, v_itG, v_r1, v_r2, v_seqT, v_seqL, v_clR, v_callR, v_callRx, v_clG, v_clGx, v_clf, v_callf, v_clfG, v_clio, v_cioF, v_cioG, v_cioH, v_oV, v_vlR, v_vlRx, v_oO, v_owL, v_owD, v_sSet, v_setR, v_setRx, v_okV, v_okS, v_sUnp, v_unpR, v_unpG, v_put1, v_putT, v_puts0, v_putsS, v_sPar, v_parR, v_sPut, v_putR, v_putG, v_own, v_putL, v_putD, v_aug, v_augG, v_augH, v_app, v_appF, v_appG, v_sExp, v_expR, v_expRx, v_sRet, v_retR, v_retRx, v_sRetf, v_retf, v_sEnd, v_sRaise, v_sIf, v_ifR, v_ifRx, v_sFor, v_forR, v_sSeq, v_seqN, v_seqR, v_seqx, v_sYes, v_get1, v_get2, v_isD, v_getR1, v_getR2, v_dct1, v_add, v_addT, v_addL, v_sub, v_mul, v_fdiv, v_mod, v_pow, v_neg, v_lt, v_le, v_gtp, v_ge, v_eqI, v_neI, v_eqB, v_neB, v_isN, v_inT, v_ninT, v_ixT, v_ixL, v_ixD, v_revT, v_tup, v_lst, v_dnew, v_dnewT, v_lenT, v_lenL, v_lenD, v_tofT, v_tofL, v_lofS, v_sumL, v_min2, v_max2, v_intI, v_intB, v_allL, v_isi, isi, if_true, if_false, Bool.and_self, Bool.and_true, Bool.true_and, Bool.and_false, Bool.false_and, Bool.or_true, Bool.true_or, Bool.or_false, Bool.false_or, Bool.not_true, Bool.not_false, Bool.false_eq_true, List.length_cons, List.length_nil, Nat.reduceAdd, Nat.reduceLeDiff, decide_true, decide_false, List.set_cons_zero, List.set_cons_succ, c1, c2, x1, x2, l1, e]
      simp
  · have ei : i = j + 1 := by omega
    subst ei
    have c1 : decide (((j + 1 : Nat) : Int) < ((rowD j).length : Nat)) = false := decide_eq_false (by rw [rowD_len]; omega)
    have c2 : decide ((0 : Int) < ((j + 1 : Nat) : Int)) = true := decide_eq_true (by omega)
    have x2 : L2.atI (rowD j) (((j + 1 : Nat) : Int) - 1) = some (.int (S j j : Nat)) := by
      rw [show ((j + 1 : Nat) : Int) - 1 = (j : Int) from by omega]
      exact atI_nat (rowD_at (Nat.le_refl _))
    have e : S (j + 1) (j + 1) = j * S j (j + 1) + S j j := rfl
    simp only [v_bind, v_bindx, v_gt0, v_gtS, v_set0, v_setS, v_lit, v_var, v_varV, v_varO, v_varR, v_arg, v_argV, v_argO, v_gV, v_dN, v_dC, v_gN, v_gC, v_d1, v_o1, v_o2, v_o3, v_oD, v_oG, v_opR, v_opRx, v_opF, v_opG, v_opD, v_opDx, v_ds0, v_dsV, v_dsB, v_dsBV, v_dsBO, v_map, v_ch, v_chT, v_chF, v_tB, v_asB, v_asBx, v_tAnd, v_tOr, v_tNot, v_eAnd, v_eOr, v_eNot, v_eIf, v_itE, v_itR, v_itG, v_r1, v_r2, v_seqT, v_seqL, v_clR, v_callR, v_callRx, v_clG, v_clGx, v_clf, v_callf, v_clfG, v_clio, v_cioF, v_cioG, v_cioH, v_oV, v_vlR, v_vlRx, v_oO, v_owL, v_owD, v_sSet, v_setR, v_setRx, v_okV, v_okS, v_sUnp, v_unpR, v_unpG, v_put1, v_putT, v_puts0, v_putsS, v_sPar, v_parR, v_sPut, v_putR, v_putG, v_own, v_putL, v_putD, v_aug, v_augG, v_augH, v_app, v_appF, v_appG, v_sExp, v_expR, v_expRx, v_sRet, v_retR, v_retRx, v_sRetf, v_retf, v_sEnd, v_sRaise, v_sIf, v_ifR, v_ifRx, v_sFor, v_forR, v_sSeq, v_seqN, v_seqR, v_seqx, v_sYes, v_get1, v_get2, v_isD, v_getR1, v_getR2, v_dct1, v_add, v_addT, v_addL, v_sub, v_mul, v_fdiv, v_mod, v_pow, v_neg, v_lt, v_le, v_gtp, v_ge, v_eqI, v_neI, v_eqB, v_neB, v_isN, v_inT, v_ninT, v_ixT, v_ixL, v_ixD, v_revT, v_tup, v_lst, v_dnew, v_dnewT, v_lenT, v_lenL, v_lenD, v_tofT, v_tofL, v_lofS, v_sumL, v_min2, v_max2, v_intI, v_intB, v_allL, v_isi, isi, if_true, if_false, Bool.and_self, Bool.and_true, Bool.true_and, Bool.and_false, Bool.false_and, Bool.or_true, Bool.true_or, Bool.or_false, Bool.false_or, Bool.not_true, Bool.not_false, Bool.false_eq_true, List.length_cons, List.length_nil, Nat.reduceAdd, Nat.reduceLeDiff, decide_true, decide_false, List.set_cons_zero, List.set_cons_succ, c1, c2, x2, l1, e, S_big (Nat.lt_succ_self j)]
    simp
theorem fm_map {α β : Type} {g : α → Option β} {f : α → β} : ∀ (l : List α), (∀ i ∈ l, g i = some (f i)) → l.filterMap g = l.map f
  | [], _ => rfl
  | x :: l, h => by rw [List.filterMap_cons_some (h x List.mem_cons_self), List.map_cons, fm_map l fun i hi => h i (List.mem_cons_of_mem _ hi)]
theorem filterMap_rng {n : Nat} {f : Nat → D} {g : D → Option D} (h : ∀ i < n, g (.int (i : Nat)) = some (f i)) : (rngD 0 1 n).filterMap g = (List.range n).map f := by
  unfold rngD
  rw [List.filterMap_map]
  refine fm_map _ fun i hi => ?_
  have := h i (List.mem_range.mp hi)
  show g (.int (0 + (i : Int) * 1)) = some (f i)
  rw [show 0 + (i : Int) * 1 = (i : Int) from by omega]
  exact this
theorem row_step {n many : Int} {j : Nat} (hj : j ≤ 60) : lcE [4, 5] (.nm 5) (itE .rng1 (dC (o2 .add (gV (oG .len (gC (argVar 2) (gN)))) (gV (litR (.int 1)))) (dN))) (sYes) elt_cs [.val (.int n), .val (.int many), .val (.lst (rowD j)), .val (.int j), .und, .und] = .ok (.lst (rowD (j + 1))) [.val (.int n), .val (.int many), .val (.lst (rowD j)), .val (.int j), .und, .und] := by
  have c3 : bnd (((rowD j).length : Nat) + 1 : Int) = true := decide_eq_true (by rw [rowD_len]; omega)
  refine (lcE_of (xs := rngD 0 1 (j + 2)) (l := rowD (j + 1)) (ε1 := [.val (.int n), .val (.int many), .val (.lst (rowD j)), .val (.int j), .und, .und]) (ε2 := [.val (.int n), .val (.int many), .val (.lst (rowD j)), .val (.int j), .und, .und]) ?_ rfl ?_).trans rfl
  · simp only [v_bind, v_bindx, v_gt0, v_gtS, v_set0, v_setS, v_lit, v_var, v_varV, v_varO, v_varR, v_arg, v_argV, v_argO, v_gV, v_dN, v_dC, v_gN, v_gC, v_d1, v_o1, v_o2, v_o3, v_oD, v_oG, v_opR, v_opRx, v_opF, v_opG, v_opD, v_opDx, v_ds0, v_dsV, v_dsB, v_dsBV, v_dsBO, v_map, v_ch, v_chT, v_chF, v_tB, v_asB, v_asBx, v_tAnd, v_tOr, v_tNot, v_eAnd, v_eOr, v_eNot, v_eIf, v_itE, v_itR, v_itG, v_r1, v_r2, v_seqT, v_seqL, v_clR, v_callR, v_callRx, v_clG, v_clGx, v_clf, v_callf, v_clfG, v_clio, v_cioF, v_cioG, v_cioH, v_oV, v_vlR, v_vlRx, v_oO, v_owL, v_owD, v_sSet, v_setR, v_setRx, v_okV, v_okS, v_sUnp, v_unpR, v_unpG, v_put1, v_putT, v_puts0, v_putsS, v_sPar, v_parR, v_sPut, v_putR, v_putG, v_own, v_putL, v_putD, v_aug, v_augG, v_augH, v_app, v_appF, v_appG, v_sExp, v_expR, v_expRx, v_sRet, v_retR, v_retRx, v_sRetf, v_retf, v_sEnd, v_sRaise, v_sIf, v_ifR, v_ifRx, v_sFor, v_forR, v_sSeq, v_seqN, v_seqR, v_seqx, v_sYes, v_get1, v_get2, v_isD, v_getR1, v_getR2, v_dct1, v_add, v_addT, v_addL, v_sub, v_mul, v_fdiv, v_mod, v_pow, v_neg, v_lt, v_le, v_gtp, v_ge, v_eqI, v_neI, v_eqB, v_neB, v_isN, v_inT, v_ninT, v_ixT, v_ixL, v_ixD, v_revT, v_tup, v_lst, v_dnew, v_dnewT, v_lenT, v_lenL, v_lenD, v_tofT, v_tofL, v_lofS, v_sumL, v_min2, v_max2, v_intI, v_intB, v_allL, v_isi, isi, if_true, if_false, Bool.and_self, Bool.and_true, Bool.true_and, Bool.and_false, Bool.false_and, Bool.or_true, Bool.true_or, Bool.or_false, Bool.false_or, Bool.not_true, Bool.not_false, Bool.false_eq_true, List.length_cons, List.length_nil, Nat.reduceAdd, Nat.reduceLeDiff, decide_true, decide_false, List.set_cons_zero, List.set_cons_succ, c3]
    rw [rowD_len]
    rfl
  · have := lcGo_fm (own := [4, 5]) (tg := .nm 5) (t := sYes) (e := elt_cs) (ε := [.val (.int n), .val (.int many), .val (.lst (rowD j)), .val (.int j), .und, .und]) (fun d => match d with | .int i => some (.int (S (j + 1) i.toNat : Nat)) | _ => none) (rngD 0 1 (j + 2)) [] (fun x hx => ?_) (by rw [rngD_len, List.length_nil]; show 0 + (j + 2) ≤ 16777216; omega)
    · rw [List.nil_append, filterMap_rng (f := fun i => .int (S (j + 1) i : Nat)) (fun i _ => by rfl)] at this
      exact this
    · unfold rngD at hx
      obtain ⟨i, hi, rfl⟩ := List.mem_map.mp hx
      have hi := List.mem_range.mp hi
      rw [show 0 + (i : Int) * 1 = (i : Int) from by omega]
      exact ⟨_, v_put1, _, _, v_sYes, elt_cs_ok hj (by omega), rfl⟩
theorem count_seen_ok {k : Nat} {n m : Nat} (hn : n ≤ 40) : callN tb (k + 3) 7 [.int n, .int m] = .ok (.int (S n m : Nat)) := by
  show bodyR (b_count_seen (callN tb (k + 2)) [.val (.int n), .val (.int m), .und, .und, .und, .und]) = _
  unfold b_count_seen
  have w := look_count_ok (k := k) (b := m) hn
  have c3 : bnd (n : Int) = true := decide_eq_true (by omega)
  have L := forGo_st (tg := .nm 3) (b := sSet 2 (oV (lcE [4, 5] (.nm 5) (itE .rng1 (dC (o2 .add (gV (oG .len (gC (argVar 2) (gN)))) (gV (litR (.int 1)))) (dN))) (sYes) elt_cs))) (xs := rngD 0 1 (n : Int).toNat)
    (fun j => [.val (.int n), .val (.int m), .val (.lst (rowD j)), if j = 0 then .und else .val (.int (j - 1 : Nat)), .und, .und]) (fun j hj => ?_)
  · have e0 : rowD 0 = [.int 1] := rfl
    simp only [e0, if_true, rngD_len] at L
    by_cases h : m ≤ n
    · have c4 : decide ((m : Int) < ((rowD (n : Int).toNat).length : Nat)) = true := decide_eq_true (by rw [rowD_len]; omega)
      have x : L2.atI (rowD (n : Int).toNat) (m : Int) = some (.int (S n m : Nat)) := atI_nat (rowD_at h)
      simp only [v_bind, v_bindx, v_gt0, v_gtS, v_set0, v_setS, v_lit, v_var, v_varV, v_varO, v_varR, v_arg, v_argV, v_argO, v_gV, v_dN, v_dC, v_gN, v_gC, v_d1, v_o1, v_o2, v_o3, v_oD, v_oG, v_opR, v_opRx, v_opF, v_opG, v_opD, v_opDx, v_ds0, v_dsV, v_dsB, v_dsBV, v_dsBO, v_map, v_ch, v_chT, v_chF, v_tB, v_asB, v_asBx, v_tAnd, v_tOr, v_tNot, v_eAnd, v_eOr, v_eNot, v_eIf, v_itE, v_itR, v_itG, v_r1, v_r2, v_seqT, v_seqL, v_clR, v_callR, v_callRx, v_clG, v_clGx, v_clf, v_callf, v_clfG, v_clio, v_cioF, v_cioG, v_cioH, v_oV, v_vlR, v_vlRx, v_oO, v_owL, v_owD, v_sSet, v_setR, v_setRx, v_okV, v_okS, v_sUnp, v_unpR, v_unpG, v_put1, v_putT, v_puts0, v_putsS, v_sPar, v_parR, v_sPut, v_putR, v_putG, v_own, v_putL, v_putD, v_aug, v_augG, v_augH, v_app, v_appF, v_appG, v_sExp, v_expR, v_expRx, v_sRet, v_retR, v_retRx, v_sRetf, v_retf, v_sEnd, v_sRaise, v_sIf, v_ifR, v_ifRx, v_sFor, v_forR, v_sSeq, v_seqN, v_seqR, v_seqx, v_sYes, v_get1, v_get2, v_isD, v_getR1, v_getR2, v_dct1, v_add, v_addT, v_addL, v_sub, v_mul, v_fdiv, v_mod, v_pow, v_neg, v_lt, v_le, v_gtp, v_ge, v_eqI, v_neI, v_eqB, v_neB, v_isN, v_inT, v_ninT, v_ixT, v_ixL, v_ixD, v_revT, v_tup, v_lst, v_dnew, v_dnewT, v_lenT, v_lenL, v_lenD, v_tofT, v_tofL, v_lofS, v_sumL, v_min2, v_max2, v_intI, v_intB, v_allL, v_isi, isi, if_true, if_false, Bool.and_self, Bool.and_true, Bool.true_and, Bool.and_false, Bool.false_and, Bool.or_true, Bool.true_or, Bool.or_false, Bool.false_or, Bool.not_true, Bool.not_false, Bool.false_eq_true, List.length_cons, List.length_nil, Nat.reduceAdd, Nat.reduceLeDiff, decide_true, decide_false, List.set_cons_zero, List.set_cons_succ, w, c3, L, c4, x, bodyR, (by decide : (1 ≤ line) = True)]
    · have c4 : decide ((m : Int) < ((rowD (n : Int).toNat).length : Nat)) = false := decide_eq_false (by rw [rowD_len]; omega)
      simp only [v_bind, v_bindx, v_gt0, v_gtS, v_set0, v_setS, v_lit, v_var, v_varV, v_varO, v_varR, v_arg, v_argV, v_argO, v_gV, v_dN, v_dC, v_gN, v_gC, v_d1, v_o1, v_o2, v_o3, v_oD, v_oG, v_opR, v_opRx, v_opF, v_opG, v_opD, v_opDx, v_ds0, v_dsV, v_dsB, v_dsBV, v_dsBO, v_map, v_ch, v_chT, v_chF, v_tB, v_asB, v_asBx, v_tAnd, v_tOr, v_tNot, v_eAnd, v_eOr, v_eNot, v_eIf, v_itE, v_itR, v_itG, v_r1, v_r2, v_seqT, v_seqL, v_clR, v_callR, v_callRx, v_clG, v_clGx, v_clf, v_callf, v_clfG, v_clio, v_cioF, v_cioG, v_cioH, v_oV, v_vlR, v_vlRx, v_oO, v_owL, v_owD, v_sSet, v_setR, v_setRx, v_okV, v_okS, v_sUnp, v_unpR, v_unpG, v_put1, v_putT, v_puts0, v_putsS, v_sPar, v_parR, v_sPut, v_putR, v_putG, v_own, v_putL, v_putD, v_aug, v_augG, v_augH, v_app, v_appF, v_appG, v_sExp, v_expR, v_expRx, v_sRet, v_retR, v_retRx, v_sRetf, v_retf, v_sEnd, v_sRaise, v_sIf, v_ifR, v_ifRx, v_sFor, v_forR, v_sSeq, v_seqN, v_seqR, v_seqx, v_sYes, v_get1, v_get2, v_isD, v_getR1, v_getR2, v_dct1, v_add, v_addT, v_addL, v_sub, v_mul, v_fdiv, v_mod, v_pow, v_neg, v_lt, v_le, v_gtp, v_ge, v_eqI, v_neI, v_eqB, v_neB, v_isN, v_inT, v_ninT, v_ixT, v_ixL, v_ixD, v_revT, v_tup, v_lst, v_dnew, v_dnewT, v_lenT, v_lenL, v_lenD, v_tofT, v_tofL, v_lofS, v_sumL, v_min2, v_max2, v_intI, v_intB, v_allL, v_isi, isi, if_true, if_false, Bool.and_self, Bool.and_true, Bool.true_and, Bool.and_false, Bool.false_and, Bool.or_true, Bool.true_or, Bool.or_false, Bool.false_or, Bool.not_true, Bool.not_false, Bool.false_eq_true, List.length_cons, List.length_nil, Nat.reduceAdd, Nat.reduceLeDiff, decide_true, decide_false, List.set_cons_zero, List.set_cons_succ, w, c3, L, c4, bodyR, (by decide : (1 ≤ line) = True), S_big (by omega : n < m)]
      rfl
  · rw [rngD_len] at hj
    rw [rngD_at]
    have hj' : j < n := by omega
    refine ⟨_, v_put1, ?_⟩
    have r := row_step (n := n) (many := m) (j := j) (by omega)
    rw [show 0 + (j : Int) * 1 = (j : Int) from by omega]
    simp only [v_bind, v_bindx, v_gt0, v_gtS, v_set0, v_setS, v_lit, v_var, v_varV, v_varO, v_varR, v_arg, v_argV, v_argO, v_gV, v_dN, v_dC, v_gN, v_gC, v_d1, v_o1, v_o2, v_o3, v_oD, v_oG, v_opR, v_opRx, v_opF, v_opG, v_opD, v_opDx, v_ds0, v_dsV, v_dsB, v_dsBV, v_dsBO, v_map, v_ch, v_chT, v_chF, v_tB, v_asB, v_asBx, v_tAnd, v_tOr, v_tNot, v_eAnd, v_eOr, v_eNot, v_eIf, v_itE, v_itR, v_itG, v_r1, v_r2, v_seqT, v_seqL, v_clR, v_callR, v_callRx, v_clG, v_clGx, v_clf, v_callf, v_clfG, v_clio, v_cioF, v_cioG, v_cioH, v_oV, v_vlR, v_vlRx, v_oO, v_owL, v_owD, v_sSet, v_setR, v_setRx, v_okV, v_okS, v_sUnp, v_unpR, v_unpG, v_put1, v_putT, v_puts0, v_putsS, v_sPar, v_parR, v_sPut, v_putR, v_putG, v_own, v_putL, v_putD, v_aug, v_augG, v_augH, v_app, v_appF, v_appG, v_sExp, v_expR, v_expRx, v_sRet, v_retR, v_retRx, v_sRetf, v_retf, v_sEnd, v_sRaise, v_sIf, v_ifR, v_ifRx, v_sFor, v_forR, v_sSeq, v_seqN, v_seqR, v_seqx, v_sYes, v_get1, v_get2, v_isD, v_getR1, v_getR2, v_dct1, v_add, v_addT, v_addL, v_sub, v_mul, v_fdiv, v_mod, v_pow, v_neg, v_lt, v_le, v_gtp, v_ge, v_eqI, v_neI, v_eqB, v_neB, v_isN, v_inT, v_ninT, v_ixT, v_ixL, v_ixD, v_revT, v_tup, v_lst, v_dnew, v_dnewT, v_lenT, v_lenL, v_lenD, v_tofT, v_tofL, v_lofS, v_sumL, v_min2, v_max2, v_intI, v_intB, v_allL, v_isi, isi, if_true, if_false, Bool.and_self, Bool.and_true, Bool.true_and, Bool.and_false, Bool.false_and, Bool.or_true, Bool.true_or, Bool.or_false, Bool.false_or, Bool.not_true, Bool.not_false, Bool.false_eq_true, List.length_cons, List.length_nil, Nat.reduceAdd, Nat.reduceLeDiff, decide_true, decide_false, List.set_cons_zero, List.set_cons_succ, r]
    simp
end Ev.K94
set_option Elab.async false
set_option linter.all false
set_option maxRecDepth 100000
set_option maxHeartbeats 4000000
namespace Ev.K94
open PySem PySem.Spec PyProof.Rows L2
def B (n f l : Nat) : Nat := if f = 0 ∨ l = 0 then 0 else if n < f + l - 1 then 0 else C (f + l - 2) (f - 1) * S (n - 1) (f + l - 2)
theorem beq_nat {a b : Nat} : ((a : Int) == (b : Int)) = decide (a = b) := by
  by_cases h : a = b
  · rw [h]; simp
  · rw [decide_eq_false h]
    simp only [beq_eq_false_iff_ne, ne_eq]
    omega
theorem count_both_ok {k : Nat} {n f l : Nat} (h0 : 1 ≤ n) (hn : n ≤ 40) : callN tb (k + 4) 9 [.int n, .int f, .int l] = .ok (.int (B n f l : Nat)) := by
  show bodyR (b_count_both (callN tb (k + 3)) [.val (.int n), .val (.int f), .val (.int l)]) = _
  unfold b_count_both
  have w1 := look_count_ok (k := k + 1) (b := f) hn
  have w2 := look_count_ok (k := k + 1) (b := l) hn
  have e0 : ((n : Int) == 0) = false := by
    have := beq_nat (a := n) (b := 0)
    rw [decide_eq_false (by omega)] at this
    exact this
  have e1 : ((f : Int) == 0) = decide (f = 0) := beq_nat (b := 0)
  have e2 : ((l : Int) == 0) = decide (l = 0) := beq_nat (b := 0)
  by_cases hf : f = 0
  · subst hf
    have d1 : B n 0 l = 0 := by unfold B; rw [if_pos (.inl rfl)]
    rw [d1]
    simp only [v_bind, v_bindx, v_gt0, v_gtS, v_set0, v_setS, v_lit, v_var, v_varV, v_varO, v_varR, v_arg, v_argV, v_argO, v_gV, v_dN, v_dC, v_gN, v_gC, v_d1, v_o1, v_o2, v_o3, v_oD, v_oG, v_opR, v_opRx, v_opF, v_opG, v_opD, v_opDx, v_ds0, v_dsV, v_dsB, v_dsBV, v_dsBO, v_map, v_ch, v_chT, v_chF, v_tB, v_asB, v_asBx, v_tAnd, v_tOr, v_tNot, v_eAnd, v_eOr, v_eNot, v_eIf, v_itE, v_itR, v_itG, v_r1, v_r2, v_seqT, v_seqL, v_clR, v_callR, v_callRx, v_clG, v_clGx, v_clf, v_callf, v_clfG, v_clio, v_cioF, v_cioG, v_cioH, v_oV, v_vlR, v_vlRx, v_oO, v_owL, v_owD, v_sSet, v_setR, v_setRx, v_okV, v_okS, v_sUnp, v_unpR, v_unpG, v_put1, v_putT, v_puts0, v_putsS, v_sPar, v_parR, v_sPut, v_putR, v_putG, v_own, v_putL, v_putD, v_aug, v_augG, v_augH, v_app, v_appF, v_appG, v_sExp, v_expR, v_expRx, v_sRet, v_retR, v_retRx, v_sRetf, v_retf, v_sEnd, v_sRaise, v_sIf, v_ifR, v_ifRx, v_sFor, v_forR, v_sSeq, v_seqN, v_seqR, v_seqx, v_sYes, v_get1, v_get2, v_isD, v_getR1, v_getR2, v_dct1, v_add, v_addT, v_addL, v_sub, v_mul, v_fdiv, v_mod, v_pow, v_neg, v_lt, v_le, v_gtp, v_ge, v_eqI, v_neI, v_eqB, v_neB, v_isN, v_inT, v_ninT, v_ixT, v_ixL, v_ixD, v_revT, v_tup, v_lst, v_dnew, v_dnewT, v_lenT, v_lenL, v_lenD, v_tofT, v_tofL, v_lofS, v_sumL, v_min2, v_max2, v_intI, v_intB, v_allL, v_isi, isi, if_true, if_false, Bool.and_self, Bool.and_true, Bool.true_and, Bool.and_false, Bool.false_and, Bool.or_true, Bool.true_or, Bool.or_false, Bool.false_or, Bool.not_true, Bool.not_false, Bool.false_eq_true, List.length_cons, List.length_nil, Nat.reduceAdd, Nat.reduceLeDiff, decide_true, decide_false, List.set_cons_zero, List.set_cons_succ, w1, w2, e0, e1, bodyR]
    rfl
  · by_cases hl : l = 0
    · subst hl
      have d1 : B n f 0 = 0 := by unfold B; rw [if_pos (.inr rfl)]
      rw [d1]
      simp only [v_bind, v_bindx, v_gt0, v_gtS, v_set0, v_setS, v_lit, v_var, v_varV, v_varO, v_varR, v_arg, v_argV, v_argO, v_gV, v_dN, v_dC, v_gN, v_gC, v_d1, v_o1, v_o2, v_o3, v_oD, v_oG, v_opR, v_opRx, v_opF, v_opG, v_opD, v_opDx, v_ds0, v_dsV, v_dsB, v_dsBV, v_dsBO, v_map, v_ch, v_chT, v_chF, v_tB, v_asB, v_asBx, v_tAnd, v_tOr, v_tNot, v_eAnd, v_eOr, v_eNot, v_eIf, v_itE, v_itR, v_itG, v_r1, v_r2, v_seqT, v_seqL, v_clR, v_callR, v_callRx, v_clG, v_clGx, v_clf, v_callf, v_clfG, v_clio, v_cioF, v_cioG, v_cioH, v_oV, v_vlR, v_vlRx, v_oO, v_owL, v_owD, v_sSet, v_setR, v_setRx, v_okV, v_okS, v_sUnp, v_unpR, v_unpG, v_put1, v_putT, v_puts0, v_putsS, v_sPar, v_parR, v_sPut, v_putR, v_putG, v_own, v_putL, v_putD, v_aug, v_augG, v_augH, v_app, v_appF, v_appG, v_sExp, v_expR, v_expRx, v_sRet, v_retR, v_retRx, v_sRetf, v_retf, v_sEnd, v_sRaise, v_sIf, v_ifR, v_ifRx, v_sFor, v_forR, v_sSeq, v_seqN, v_seqR, v_seqx, v_sYes, v_get1, v_get2, v_isD, v_getR1, v_getR2, v_dct1, v_add, v_addT, v_addL, v_sub, v_mul, v_fdiv, v_mod, v_pow, v_neg, v_lt, v_le, v_gtp, v_ge, v_eqI, v_neI, v_eqB, v_neB, v_isN, v_inT, v_ninT, v_ixT, v_ixL, v_ixD, v_revT, v_tup, v_lst, v_dnew, v_dnewT, v_lenT, v_lenL, v_lenD, v_tofT, v_tofL, v_lofS, v_sumL, v_min2, v_max2, v_intI, v_intB, v_allL, v_isi, isi, if_true, if_false, Bool.and_self, Bool.and_true, Bool.true_and, Bool.and_false, Bool.false_and, Bool.or_true, Bool.true_or, Bool.or_false, Bool.false_or, Bool.not_true, Bool.not_false, Bool.false_eq_true, List.length_cons, List.length_nil, Nat.reduceAdd, Nat.reduceLeDiff, decide_true, decide_false, List.set_cons_zero, List.set_cons_succ, w1, w2, e0, e1, e2, decide_eq_false hf, bodyR]
      rfl
    · by_cases hg : n < f + l - 1
      · have d1 : B n f l = 0 := by unfold B; rw [if_neg (by omega), if_pos hg]
        have c1 : decide ((n : Int) < (f : Int) + (l : Int) - 1) = true := decide_eq_true (by omega)
        rw [d1]
        simp only [v_bind, v_bindx, v_gt0, v_gtS, v_set0, v_setS, v_lit, v_var, v_varV, v_varO, v_varR, v_arg, v_argV, v_argO, v_gV, v_dN, v_dC, v_gN, v_gC, v_d1, v_o1, v_o2, v_o3, v_oD, v_oG, v_opR, v_opRx, v_opF, v_opG, v_opD, v_opDx, v_ds0, v_dsV, v_dsB, v_dsBV, v_dsBO, v_map, v_ch, v_chT, v_chF, v_tB, v_asB, v_asBx, v_tAnd, v_tOr, v_tNot, v_eAnd, v_eOr, v_eNot, v_eIf, v_itE, v_itR, v_itG, v_r1, v_r2, v_seqT, v_seqL, v_clR, v_callR, v_callRx, v_clG, v_clGx, v_clf, v_callf, v_clfG, v_clio, v_cioF, v_cioG, v_cioH, v_oV, v_vlR, v_vlRx, v_oO, v_owL, v_owD, v_sSet, v_setR, v_setRx, v_okV, v_okS, v_sUnp, v_unpR, v_unpG, v_put1, v_putT, v_puts0, v_putsS, v_sPar, v_parR, v_sPut, v_putR, v_putG, v_own, v_putL, v_putD, v_aug, v_augG, v_augH, v_app, v_appF, v_appG, v_sExp, v_expR, v_expRx, v_sRet, v_retR, v_retRx, v_sRetf, v_retf, v_sEnd, v_sRaise, v_sIf, v_ifR, v_ifRx, v_sFor, v_forR, v_sSeq, v_seqN, v_seqR, v_seqx, v_sYes, v_get1, v_get2, v_isD, v_getR1, v_getR2, v_dct1, v_add, v_addT, v_addL, v_sub, v_mul, v_fdiv, v_mod, v_pow, v_neg, v_lt, v_le, v_gtp, v_ge, v_eqI, v_neI, v_eqB, v_neB, v_isN, v_inT, v_ninT, v_ixT, v_ixL, v_ixD, v_revT, v_tup, v_lst, v_dnew, v_dnewT, v_lenT, v_lenL, v_lenD, v_tofT, v_tofL, v_lofS, v_sumL, v_min2, v_max2, v_intI, v_intB, v_allL, v_isi, isi, if_true, if_false, Bool.and_self, Bool.and_true, Bool.true_and, Bool.and_false, Bool.false_and, Bool.or_true, Bool.true_or, Bool.or_false, Bool.false_or, Bool.not_true, Bool.not_false, Bool.false_eq_true, List.length_cons, List.length_nil, Nat.reduceAdd, Nat.reduceLeDiff, decide_true, decide_false, List.set_cons_zero, List.set_cons_succ, w1, w2, e0, e1, e2, decide_eq_false hf, decide_eq_false hl, c1, bodyR]
        rfl
      · have d1 : B n f l = C (f + l - 2) (f - 1) * S (n - 1) (f + l - 2) := by unfold B; rw [if_neg (by omega), if_neg hg]
        have c1 : decide ((n : Int) < (f : Int) + (l : Int) - 1) = false := decide_eq_false (by omega)
        have x1 : (f : Int) + (l : Int) - 2 = ((f + l - 2 : Nat) : Int) := by omega
        have x2 : (f : Int) - 1 = ((f - 1 : Nat) : Int) := by omega
        have x3 : (n : Int) - 1 = ((n - 1 : Nat) : Int) := by omega
        have w3 := choose_ok (k := k + 2) (a := f + l - 2) (b := f - 1) (by omega) (by omega)
        have w4 := count_seen_ok (k := k) (n := n - 1) (m := f + l - 2) (by omega)
        have s1 : small ((C (f + l - 2) (f - 1) : Nat) : Int) = true := by
          refine small_of (by omega) ?_
          have := C_le (f + l - 2) (f - 1)
          have h2 : 2 ^ (f + l - 2) ≤ 2 ^ 40 := Nat.pow_le_pow_right (by omega) (by omega)
          have : C (f + l - 2) (f - 1) ≤ 2 ^ 40 := Nat.le_trans this h2
          have h3 : (2 : Nat) ^ 40 = 1099511627776 := by decide
          rw [h3] at this
          have h4 : (2 : Int) ^ 64 = 18446744073709551616 := by decide
          rw [h4]
          omega
        rw [d1]
        simp only [v_bind, v_bindx, v_gt0, v_gtS, v_set0, v_setS, v_lit, v_var, v_varV, v_varO, v_varR, v_arg, v_argV, v_argO, v_gV, v_dN, v_dC, v_gN, v_gC, v_d1, v_o1, v_o2, v_o3, v_oD, v_oG, v_opR, v_opRx, v_opF, v_opG, v_opD, v_opDx, v_ds0, v_dsV, v_dsB, v_dsBV, v_dsBO, v_map, v_ch, v_chT, v_chF, v_tB, v_asB, v_asBx, v_tAnd, v_tOr, v_tNot, v_eAnd, v_eOr, v_eNot, v_eIf, v_itE, v_itR, v_itG, v_r1, v_r2, v_seqT, v_seqL, v_clR, v_callR, v_callRx, v_clG, v_clGx, v_clf, v_callf, v_clfG, v_clio, v_cioF, v_cioG, v_cioH, v_oV, v_vlR, v_vlRx, v_oO, v_owL, v_owD, v_sSet, v_setR, v_setRx, v_okV, v_okS, v_sUnp, v_unpR, v_unpG, v_put1, v_putT, v_puts0, v_putsS, v_sPar, v_parR, v_sPut, v_putR, v_putG, v_own, v_putL, v_putD, v_aug, v_augG, v_augH, v_app, v_appF, v_appG, v_sExp, v_expR, v_expRx, v_sRet, v_retR, v_retRx, v_sRetf, v_retf, v_sEnd, v_sRaise, v_sIf, v_ifR, v_ifRx, v_sFor, v_forR, v_sSeq, v_seqN, v_seqR, v_seqx, v_sYes, v_get1, v_get2, v_isD, v_getR1, v_getR2, v_dct1, v_add, v_addT, v_addL, v_sub, v_mul, v_fdiv, v_mod, v_pow, v_neg, v_lt, v_le, v_gtp, v_ge, v_eqI, v_neI, v_eqB, v_neB, v_isN, v_inT, v_ninT, v_ixT, v_ixL, v_ixD, v_revT, v_tup, v_lst, v_dnew, v_dnewT, v_lenT, v_lenL, v_lenD, v_tofT, v_tofL, v_lofS, v_sumL, v_min2, v_max2, v_intI, v_intB, v_allL, v_isi, isi, if_true, if_false, Bool.and_self, Bool.and_true, Bool.true_and, Bool.and_false, Bool.false_and, Bool.or_true, Bool.true_or, Bool.or_false, Bool.false_or, Bool.not_true, Bool.not_false, Bool.false_eq_true, List.length_cons, List.length_nil, Nat.reduceAdd, Nat.reduceLeDiff, decide_true, decide_false, List.set_cons_zero, List.set_cons_succ, w1, w2, e0, e1, e2, decide_eq_false hf, decide_eq_false hl, c1, x1, x2, x3, w3, w4, s1, bodyR]
        rw [Int.natCast_mul]
structure Dr (l : List D) : Prop where
  ex : ∃ (ns : List Int) (a : Nat) (b c : Int), l = [.lst (ns.map .int), .int a, .int b, .int c] ∧ 0 ≤ b
theorem draws_ok {k : Nat} {ns : List Int} : callN tb (k + 1) 10 [.scr ns] = .okf [.lst (ns.map .int), .int 0, .int 0, .int 1] := by
  show bodyF (b__law_draws (callN tb k) [.val (.scr ns)]) = _
  unfold b__law_draws
  simp only [v_bind, v_bindx, v_gt0, v_gtS, v_set0, v_setS, v_lit, v_var, v_varV, v_varO, v_varR, v_arg, v_argV, v_argO, v_gV, v_dN, v_dC, v_gN, v_gC, v_d1, v_o1, v_o2, v_o3, v_oD, v_oG, v_opR, v_opRx, v_opF, v_opG, v_opD, v_opDx, v_ds0, v_dsV, v_dsB, v_dsBV, v_dsBO, v_map, v_ch, v_chT, v_chF, v_tB, v_asB, v_asBx, v_tAnd, v_tOr, v_tNot, v_eAnd, v_eOr, v_eNot, v_eIf, v_itE, v_itR, v_itG, v_r1, v_r2, v_seqT, v_seqL, v_clR, v_callR, v_callRx, v_clG, v_clGx, v_clf, v_callf, v_clfG, v_clio, v_cioF, v_cioG, v_cioH, v_oV, v_vlR, v_vlRx, v_oO, v_owL, v_owD, v_sSet, v_setR, v_setRx, v_okV, v_okS, v_sUnp, v_unpR, v_unpG, v_put1, v_putT, v_puts0, v_putsS, v_sPar, v_parR, v_sPut, v_putR, v_putG, v_own, v_putL, v_putD, v_aug, v_augG, v_augH, v_app, v_appF, v_appG, v_sExp, v_expR, v_expRx, v_sRet, v_retR, v_retRx, v_sRetf, v_retf, v_sEnd, v_sRaise, v_sIf, v_ifR, v_ifRx, v_sFor, v_forR, v_sSeq, v_seqN, v_seqR, v_seqx, v_sYes, v_get1, v_get2, v_isD, v_getR1, v_getR2, v_dct1, v_add, v_addT, v_addL, v_sub, v_mul, v_fdiv, v_mod, v_pow, v_neg, v_lt, v_le, v_gtp, v_ge, v_eqI, v_neI, v_eqB, v_neB, v_isN, v_inT, v_ninT, v_ixT, v_ixL, v_ixD, v_revT, v_tup, v_lst, v_dnew, v_dnewT, v_lenT, v_lenL, v_lenD, v_tofT, v_tofL, v_lofS, v_sumL, v_min2, v_max2, v_intI, v_intB, v_allL, v_isi, isi, if_true, if_false, Bool.and_self, Bool.and_true, Bool.true_and, Bool.and_false, Bool.false_and, Bool.or_true, Bool.true_or, Bool.or_false, Bool.false_or, Bool.not_true, Bool.not_false, Bool.false_eq_true, List.length_cons, List.length_nil, Nat.reduceAdd, Nat.reduceLeDiff, decide_true, decide_false, List.set_cons_zero, List.set_cons_succ, bodyF, (by decide : (4 ≤ line) = True)]
theorem pow18 : pr .pow [.int 10, .int 18] = some (.int 1000000000000000000) := by rfl
theorem draw_ok {k : Nat} {l : List D} {m : Int} (h : Dr l) (h1 : 0 < m) (h2 : m < 1073741824) : ∃ v l', callN tb (k + 1) 11 [.lst l, .int m] = .okio (.int v) (.lst l') ∧ 0 ≤ v ∧ v < m ∧ Dr l' := by
  obtain ⟨ns, a, b, c, rfl, hb⟩ := h.ex
  have es : ∀ l m, callN tb (k + 1) 11 [.lst l, .int m] = bodyI (b__law_draw (callN tb k) [.own1 (.lst l), .val (.int m), .und, .und]) := fun _ _ => rfl
  rw [es]
  have lim : decide (0 < m ∧ m < 1073741824) = true := decide_eq_true ⟨h1, h2⟩
  have lim2 : decide (0 < m) = true := decide_eq_true h1
  let h2nd : En → R Fl := sSeq (sIf (tB (o2 .gt (gV (o2 .ix (argVar 0) (gV (litR (.int 2))))) (gV (litR (.int 0))))) (sSeq (sSet 3 (oV (o2 .mod (gV (oG .int (gC (gV (o2 .ix (argVar 0) (gV (litR (.int 2))))) (gN)))) (argVar 1)))) (sSeq (sPut 0 (litR (.int 2)) (o2 .fdiv (gV (o2 .ix (argVar 0) (gV (litR (.int 2))))) (argVar 1))) (sRet (varR 3)))) (sEnd .nx)) (sSeq (sPut 0 (litR (.int 3)) (o2 .mod (gV (oG .int (gC (gV (o2 .add (gV (o2 .mul (gV (o2 .ix (argVar 0) (gV (litR (.int 3))))) (gV (litR (.int 69621))))) (gV (litR (.int 7))))) (gN)))) (gV (litR (.int 2147483629))))) (sRet (o2 .mod (gV (oG .int (gC (gV (o2 .fdiv (gV (o2 .ix (argVar 0) (gV (litR (.int 3))))) (gV (litR (.int 11))))) (gN)))) (argVar 1))))
  have half : ∀ (a' : Nat) (b' c' : Int) (s2 : Sl), 0 ≤ b' → ∃ v l', bodyI (h2nd [.own1 (.lst [.lst (ns.map .int), .int a', .int b', .int c']), .val (.int m), s2, .und]) = .okio (.int v) (.lst l') ∧ 0 ≤ v ∧ v < m ∧ Dr l' := by
    intro a' b' c' s2 hb'
    show ∃ v l', bodyI ((sSeq _ _) _) = _ ∧ _
    have i2 : ∀ x y z w : D, L2.atI [x, y, z, w] 2 = some z := fun _ _ _ _ => rfl
    have i3 : ∀ x y z w : D, L2.atI [x, y, z, w] 3 = some w := fun _ _ _ _ => rfl
    have n2 : ixN 4 2 = some 2 := rfl
    have n3 : ixN 4 3 = some 3 := rfl
    have sm : ∀ x, (small x || small 69621) = true := fun x => by rw [show small 69621 = true from by decide]; simp
    have dm : decide ((0 : Int) < 2147483629) = true := rfl
    have d11 : decide ((0 : Int) < 11 ∧ (11 : Int) < 1073741824) = true := rfl
    by_cases hp : 0 < b'
    · refine ⟨b' % m, [.lst (ns.map .int), .int a', .int (b' / m), .int c'], ?_, Int.emod_nonneg _ (by omega), Int.emod_lt_of_pos _ h1, ⟨ns, a', b' / m, c', rfl, Int.ediv_nonneg hb' (by omega)⟩⟩
      simp only [v_bind, v_bindx, v_gt0, v_gtS, v_set0, v_setS, v_lit, v_var, v_varV, v_varO, v_varR, v_arg, v_argV, v_argO, v_gV, v_dN, v_dC, v_gN, v_gC, v_d1, v_o1, v_o2, v_o3, v_oD, v_oG, v_opR, v_opRx, v_opF, v_opG, v_opD, v_opDx, v_ds0, v_dsV, v_dsB, v_dsBV, v_dsBO, v_map, v_ch, v_chT, v_chF, v_tB, v_asB, v_asBx, v_tAnd, v_tOr, v_tNot, v_eAnd, v_eOr, v_eNot, v_eIf, v_itE, v_itR, v_itG, v_r1, v_r2, v_seqT, v_seqL, v_clR, v_callR, v_callRx, v_clG, v_clGx, v_clf, v_callf, v_clfG, v_clio, v_cioF, v_cioG, v_cioH, v_oV, v_vlR, v_vlRx, v_oO, v_owL, v_owD, v_sSet, v_setR, v_setRx, v_okV, v_okS, v_sUnp, v_unpR, v_unpG, v_put1, v_putT, v_puts0, v_putsS, v_sPar, v_parR, v_sPut, v_putR, v_putG, v_own, v_putL, v_putD, v_aug, v_augG, v_augH, v_app, v_appF, v_appG, v_sExp, v_expR, v_expRx, v_sRet, v_retR, v_retRx, v_sRetf, v_retf, v_sEnd, v_sRaise, v_sIf, v_ifR, v_ifRx, v_sFor, v_forR, v_sSeq, v_seqN, v_seqR, v_seqx, v_sYes, v_get1, v_get2, v_isD, v_getR1, v_getR2, v_dct1, v_add, v_addT, v_addL, v_sub, v_mul, v_fdiv, v_mod, v_pow, v_neg, v_lt, v_le, v_gtp, v_ge, v_eqI, v_neI, v_eqB, v_neB, v_isN, v_inT, v_ninT, v_ixT, v_ixL, v_ixD, v_revT, v_tup, v_lst, v_dnew, v_dnewT, v_lenT, v_lenL, v_lenD, v_tofT, v_tofL, v_lofS, v_sumL, v_min2, v_max2, v_intI, v_intB, v_allL, v_isi, isi, if_true, if_false, Bool.and_self, Bool.and_true, Bool.true_and, Bool.and_false, Bool.false_and, Bool.or_true, Bool.true_or, Bool.or_false, Bool.false_or, Bool.not_true, Bool.not_false, Bool.false_eq_true, List.length_cons, List.length_nil, Nat.reduceAdd, Nat.reduceLeDiff, decide_true, decide_false, List.set_cons_zero, List.set_cons_succ, i2, i3, n2, n3, sm, dm, d11, lim, lim2, decide_eq_true hp, bodyI, ioD]
    · refine ⟨(c' * 69621 + 7) % 2147483629 / 11 % m, [.lst (ns.map .int), .int a', .int b', .int ((c' * 69621 + 7) % 2147483629)], ?_, Int.emod_nonneg _ (by omega), Int.emod_lt_of_pos _ h1, ⟨ns, a', b', _, rfl, hb'⟩⟩
      simp only [v_bind, v_bindx, v_gt0, v_gtS, v_set0, v_setS, v_lit, v_var, v_varV, v_varO, v_varR, v_arg, v_argV, v_argO, v_gV, v_dN, v_dC, v_gN, v_gC, v_d1, v_o1, v_o2, v_o3, v_oD, v_oG, v_opR, v_opRx, v_opF, v_opG, v_opD, v_opDx, v_ds0, v_dsV, v_dsB, v_dsBV, v_dsBO, v_map, v_ch, v_chT, v_chF, v_tB, v_asB, v_asBx, v_tAnd, v_tOr, v_tNot, v_eAnd, v_eOr, v_eNot, v_eIf, v_itE, v_itR, v_itG, v_r1, v_r2, v_seqT, v_seqL, v_clR, v_callR, v_callRx, v_clG, v_clGx, v_clf, v_callf, v_clfG, v_clio, v_cioF, v_cioG, v_cioH, v_oV, v_vlR, v_vlRx, v_oO, v_owL, v_owD, v_sSet, v_setR, v_setRx, v_okV, v_okS, v_sUnp, v_unpR, v_unpG, v_put1, v_putT, v_puts0, v_putsS, v_sPar, v_parR, v_sPut, v_putR, v_putG, v_own, v_putL, v_putD, v_aug, v_augG, v_augH, v_app, v_appF, v_appG, v_sExp, v_expR, v_expRx, v_sRet, v_retR, v_retRx, v_sRetf, v_retf, v_sEnd, v_sRaise, v_sIf, v_ifR, v_ifRx, v_sFor, v_forR, v_sSeq, v_seqN, v_seqR, v_seqx, v_sYes, v_get1, v_get2, v_isD, v_getR1, v_getR2, v_dct1, v_add, v_addT, v_addL, v_sub, v_mul, v_fdiv, v_mod, v_pow, v_neg, v_lt, v_le, v_gtp, v_ge, v_eqI, v_neI, v_eqB, v_neB, v_isN, v_inT, v_ninT, v_ixT, v_ixL, v_ixD, v_revT, v_tup, v_lst, v_dnew, v_dnewT, v_lenT, v_lenL, v_lenD, v_tofT, v_tofL, v_lofS, v_sumL, v_min2, v_max2, v_intI, v_intB, v_allL, v_isi, isi, if_true, if_false, Bool.and_self, Bool.and_true, Bool.true_and, Bool.and_false, Bool.false_and, Bool.or_true, Bool.true_or, Bool.or_false, Bool.false_or, Bool.not_true, Bool.not_false, Bool.false_eq_true, List.length_cons, List.length_nil, Nat.reduceAdd, Nat.reduceLeDiff, decide_true, decide_false, List.set_cons_zero, List.set_cons_succ, i2, i3, n2, n3, sm, dm, d11, lim, lim2, decide_eq_false hp, bodyI, ioD]
  have eb : b__law_draw (callN tb k) = sSeq (sIf (tAnd (tB (o2 .eq (gV (o2 .ix (argVar 0) (gV (litR (.int 2))))) (gV (litR (.int 0))))) (tB (o2 .lt (gV (o2 .ix (argVar 0) (gV (litR (.int 1))))) (gV (oG .len (gC (gV (o2 .ix (argVar 0) (gV (litR (.int 0))))) (gN))))))) (sSeq (sSet 2 (oV (o2 .ix (gV (o2 .ix (argVar 0) (gV (litR (.int 0))))) (gV (o2 .ix (argVar 0) (gV (litR (.int 1)))))))) (sSeq (sPut 0 (litR (.int 1)) (o2 .add (gV (o2 .ix (argVar 0) (gV (litR (.int 1))))) (gV (litR (.int 1))))) (sSeq (sIf (tB (o2 .ge (argVar 2) (gV (o2 .pow (gV (litR (.int 10))) (gV (litR (.int 18))))))) (sPut 0 (litR (.int 2)) (varR 2)) (sEnd .nx)) (sPut 0 (litR (.int 3)) (o2 .mod (gV (oG .int (gC (gV (o2 .add (gV (o2 .add (gV (o2 .mul (gV (o2 .ix (argVar 0) (gV (litR (.int 3))))) (gV (litR (.int 48271))))) (argVar 2))) (gV (litR (.int 13))))) (gN)))) (gV (litR (.int 2147483647)))))))) (sEnd .nx)) h2nd := rfl
  clear_value h2nd
  rw [eb]
  have i0 : ∀ x y z w : D, L2.atI [x, y, z, w] 0 = some x := fun _ _ _ _ => rfl
  have i1 : ∀ x y z w : D, L2.atI [x, y, z, w] 1 = some y := fun _ _ _ _ => rfl
  have i2 : ∀ x y z w : D, L2.atI [x, y, z, w] 2 = some z := fun _ _ _ _ => rfl
  have i3 : ∀ x y z w : D, L2.atI [x, y, z, w] 3 = some w := fun _ _ _ _ => rfl
  have n1 : ixN 4 1 = some 1 := rfl
  have n2 : ixN 4 2 = some 2 := rfl
  have n3 : ixN 4 3 = some 3 := rfl
  have sm : ∀ x, (small x || small 48271) = true := fun x => by rw [show small 48271 = true from by decide]; simp
  have dm : decide ((0 : Int) < 2147483647) = true := rfl
  have dp : decide ((0 : Int) ≤ 18 ∧ (18 : Int) ≤ 1000000 ∧ (10 : Int).natAbs < 2 ^ 64) = true := rfl
  have ep : (10 : Int) ^ (18 : Int).toNat = 1000000000000000000 := by decide
  by_cases hb0 : b = 0
  · subst hb0
    have e0 : ((0 : Int) == 0) = true := rfl
    by_cases ha : a < ns.length
    · have c1 : decide ((a : Int) < (((ns.map D.int).length : Nat) : Int)) = true := decide_eq_true (by rw [List.length_map]; omega)
      have x1 : L2.atI (ns.map D.int) (a : Int) = some (.int ns[a]) := atI_nat (by rw [List.getElem?_map, List.getElem?_eq_getElem ha]; rfl)
      have ca : (a : Int) + 1 = ((a + 1 : Nat) : Int) := by omega
      by_cases hc : (1000000000000000000 : Int) ≤ ns[a]
      · have H := half (a + 1) ns[a] ((c * 48271 + ns[a] + 13) % 2147483647) (.val (.int ns[a])) (by omega)
        rw [v_sSeq]
        simp only [v_bind, v_bindx, v_gt0, v_gtS, v_set0, v_setS, v_lit, v_var, v_varV, v_varO, v_varR, v_arg, v_argV, v_argO, v_gV, v_dN, v_dC, v_gN, v_gC, v_d1, v_o1, v_o2, v_o3, v_oD, v_oG, v_opR, v_opRx, v_opF, v_opG, v_opD, v_opDx, v_ds0, v_dsV, v_dsB, v_dsBV, v_dsBO, v_map, v_ch, v_chT, v_chF, v_tB, v_asB, v_asBx, v_tAnd, v_tOr, v_tNot, v_eAnd, v_eOr, v_eNot, v_eIf, v_itE, v_itR, v_itG, v_r1, v_r2, v_seqT, v_seqL, v_clR, v_callR, v_callRx, v_clG, v_clGx, v_clf, v_callf, v_clfG, v_clio, v_cioF, v_cioG, v_cioH, v_oV, v_vlR, v_vlRx, v_oO, v_owL, v_owD, v_sSet, v_setR, v_setRx, v_okV, v_okS, v_sUnp, v_unpR, v_unpG, v_put1, v_putT, v_puts0, v_putsS, v_sPar, v_parR, v_sPut, v_putR, v_putG, v_own, v_putL, v_putD, v_aug, v_augG, v_augH, v_app, v_appF, v_appG, v_sExp, v_expR, v_expRx, v_sRet, v_retR, v_retRx, v_sRetf, v_retf, v_sEnd, v_sRaise, v_sIf, v_ifR, v_ifRx, v_sFor, v_forR, v_sSeq, v_seqN, v_seqR, v_seqx, v_sYes, v_get1, v_get2, v_isD, v_getR1, v_getR2, v_dct1, v_add, v_addT, v_addL, v_sub, v_mul, v_fdiv, v_mod, v_pow, v_neg, v_lt, v_le, v_gtp, v_ge, v_eqI, v_neI, v_eqB, v_neB, v_isN, v_inT, v_ninT, v_ixT, v_ixL, v_ixD, v_revT, v_tup, v_lst, v_dnew, v_dnewT, v_lenT, v_lenL, v_lenD, v_tofT, v_tofL, v_lofS, v_sumL, v_min2, v_max2, v_intI, v_intB, v_allL, v_isi, isi, if_true, if_false, Bool.and_self, Bool.and_true, Bool.true_and, Bool.and_false, Bool.false_and, Bool.or_true, Bool.true_or, Bool.or_false, Bool.false_or, Bool.not_true, Bool.not_false, Bool.false_eq_true, List.length_cons, List.length_nil, Nat.reduceAdd, Nat.reduceLeDiff, decide_true, decide_false, List.set_cons_zero, List.set_cons_succ, i0, i1, i2, i3, n1, n2, n3, sm, dm, dp, ep, e0, c1, x1, ca, decide_eq_true hc]
        exact H
      · have H := half (a + 1) 0 ((c * 48271 + ns[a] + 13) % 2147483647) (.val (.int ns[a])) (by omega)
        rw [v_sSeq]
        simp only [v_bind, v_bindx, v_gt0, v_gtS, v_set0, v_setS, v_lit, v_var, v_varV, v_varO, v_varR, v_arg, v_argV, v_argO, v_gV, v_dN, v_dC, v_gN, v_gC, v_d1, v_o1, v_o2, v_o3, v_oD, v_oG, v_opR, v_opRx, v_opF, v_opG, v_opD, v_opDx, v_ds0, v_dsV, v_dsB, v_dsBV, v_dsBO, v_map, v_ch, v_chT, v_chF, v_tB, v_asB, v_asBx, v_tAnd, v_tOr, v_tNot, v_eAnd, v_eOr, v_eNot, v_eIf, v_itE, v_itR, v_itG, v_r1, v_r2, v_seqT, v_seqL, v_clR, v_callR, v_callRx, v_clG, v_clGx, v_clf, v_callf, v_clfG, v_clio, v_cioF, v_cioG, v_cioH, v_oV, v_vlR, v_vlRx, v_oO, v_owL, v_owD, v_sSet, v_setR, v_setRx, v_okV, v_okS, v_sUnp, v_unpR, v_unpG, v_put1, v_putT, v_puts0, v_putsS, v_sPar, v_parR, v_sPut, v_putR, v_putG, v_own, v_putL, v_putD, v_aug, v_augG, v_augH, v_app, v_appF, v_appG, v_sExp, v_expR, v_expRx, v_sRet, v_retR, v_retRx, v_sRetf, v_retf, v_sEnd, v_sRaise, v_sIf, v_ifR, v_ifRx, v_sFor, v_forR, v_sSeq, v_seqN, v_seqR, v_seqx, v_sYes, v_get1, v_get2, v_isD, v_getR1, v_getR2, v_dct1, v_add, v_addT, v_addL, v_sub, v_mul, v_fdiv, v_mod, v_pow, v_neg, v_lt, v_le, v_gtp, v_ge, v_eqI, v_neI, v_eqB, v_neB, v_isN, v_inT, v_ninT, v_ixT, v_ixL, v_ixD, v_revT, v_tup, v_lst, v_dnew, v_dnewT, v_lenT, v_lenL, v_lenD, v_tofT, v_tofL, v_lofS, v_sumL, v_min2, v_max2, v_intI, v_intB, v_allL, v_isi, isi, if_true, if_false, Bool.and_self, Bool.and_true, Bool.true_and, Bool.and_false, Bool.false_and, Bool.or_true, Bool.true_or, Bool.or_false, Bool.false_or, Bool.not_true, Bool.not_false, Bool.false_eq_true, List.length_cons, List.length_nil, Nat.reduceAdd, Nat.reduceLeDiff, decide_true, decide_false, List.set_cons_zero, List.set_cons_succ, i0, i1, i2, i3, n1, n2, n3, sm, dm, dp, ep, e0, c1, x1, ca, decide_eq_false hc]
        exact H
    · have c1 : decide ((a : Int) < (((ns.map D.int).length : Nat) : Int)) = false := decide_eq_false (by rw [List.length_map]; omega)
      have H := half a 0 c .und (by omega)
      rw [v_sSeq]
      simp only [v_bind, v_bindx, v_gt0, v_gtS, v_set0, v_setS, v_lit, v_var, v_varV, v_varO, v_varR, v_arg, v_argV, v_argO, v_gV, v_dN, v_dC, v_gN, v_gC, v_d1, v_o1, v_o2, v_o3, v_oD, v_oG, v_opR, v_opRx, v_opF, v_opG, v_opD, v_opDx, v_ds0, v_dsV, v_dsB, v_dsBV, v_dsBO, v_map, v_ch, v_chT, v_chF, v_tB, v_asB, v_asBx, v_tAnd, v_tOr, v_tNot, v_eAnd, v_eOr, v_eNot, v_eIf, v_itE, v_itR, v_itG, v_r1, v_r2, v_seqT, v_seqL, v_clR, v_callR, v_callRx, v_clG, v_clGx, v_clf, v_callf, v_clfG, v_clio, v_cioF, v_cioG, v_cioH, v_oV, v_vlR, v_vlRx, v_oO, v_owL, v_owD, v_sSet, v_setR, v_setRx, v_okV, v_okS, v_sUnp, v_unpR, v_unpG, v_put1, v_putT, v_puts0, v_putsS, v_sPar, v_parR, v_sPut, v_putR, v_putG, v_own, v_putL, v_putD, v_aug, v_augG, v_augH, v_app, v_appF, v_appG, v_sExp, v_expR, v_expRx, v_sRet, v_retR, v_retRx, v_sRetf, v_retf, v_sEnd, v_sRaise, v_sIf, v_ifR, v_ifRx, v_sFor, v_forR, v_sSeq, v_seqN, v_seqR, v_seqx, v_sYes, v_get1, v_get2, v_isD, v_getR1, v_getR2, v_dct1, v_add, v_addT, v_addL, v_sub, v_mul, v_fdiv, v_mod, v_pow, v_neg, v_lt, v_le, v_gtp, v_ge, v_eqI, v_neI, v_eqB, v_neB, v_isN, v_inT, v_ninT, v_ixT, v_ixL, v_ixD, v_revT, v_tup, v_lst, v_dnew, v_dnewT, v_lenT, v_lenL, v_lenD, v_tofT, v_tofL, v_lofS, v_sumL, v_min2, v_max2, v_intI, v_intB, v_allL, v_isi, isi, if_true, if_false, Bool.and_self, Bool.and_true, Bool.true_and, Bool.and_false, Bool.false_and, Bool.or_true, Bool.true_or, Bool.or_false, Bool.false_or, Bool.not_true, Bool.not_false, Bool.false_eq_true, List.length_cons, List.length_nil, Nat.reduceAdd, Nat.reduceLeDiff, decide_true, decide_false, List.set_cons_zero, List.set_cons_succ, i0, i1, i2, i3, n1, n2, n3, sm, dm, dp, ep, e0, c1]
      exact H
  · have e0 : (b == 0) = false := by simp [hb0]
    have H := half a b c .und hb
    rw [v_sSeq]
    simp only [v_bind, v_bindx, v_gt0, v_gtS, v_set0, v_setS, v_lit, v_var, v_varV, v_varO, v_varR, v_arg, v_argV, v_argO, v_gV, v_dN, v_dC, v_gN, v_gC, v_d1, v_o1, v_o2, v_o3, v_oD, v_oG, v_opR, v_opRx, v_opF, v_opG, v_opD, v_opDx, v_ds0, v_dsV, v_dsB, v_dsBV, v_dsBO, v_map, v_ch, v_chT, v_chF, v_tB, v_asB, v_asBx, v_tAnd, v_tOr, v_tNot, v_eAnd, v_eOr, v_eNot, v_eIf, v_itE, v_itR, v_itG, v_r1, v_r2, v_seqT, v_seqL, v_clR, v_callR, v_callRx, v_clG, v_clGx, v_clf, v_callf, v_clfG, v_clio, v_cioF, v_cioG, v_cioH, v_oV, v_vlR, v_vlRx, v_oO, v_owL, v_owD, v_sSet, v_setR, v_setRx, v_okV, v_okS, v_sUnp, v_unpR, v_unpG, v_put1, v_putT, v_puts0, v_putsS, v_sPar, v_parR, v_sPut, v_putR, v_putG, v_own, v_putL, v_putD, v_aug, v_augG, v_augH, v_app, v_appF, v_appG, v_sExp, v_expR, v_expRx, v_sRet, v_retR, v_retRx, v_sRetf, v_retf, v_sEnd, v_sRaise, v_sIf, v_ifR, v_ifRx, v_sFor, v_forR, v_sSeq, v_seqN, v_seqR, v_seqx, v_sYes, v_get1, v_get2, v_isD, v_getR1, v_getR2, v_dct1, v_add, v_addT, v_addL, v_sub, v_mul, v_fdiv, v_mod, v_pow, v_neg, v_lt, v_le, v_gtp, v_ge, v_eqI, v_neI, v_eqB, v_neB, v_isN, v_inT, v_ninT, v_ixT, v_ixL, v_ixD, v_revT, v_tup, v_lst, v_dnew, v_dnewT, v_lenT, v_lenL, v_lenD, v_tofT, v_tofL, v_lofS, v_sumL, v_min2, v_max2, v_intI, v_intB, v_allL, v_isi, isi, if_true, if_false, Bool.and_self, Bool.and_true, Bool.true_and, Bool.and_false, Bool.false_and, Bool.or_true, Bool.true_or, Bool.or_false, Bool.false_or, Bool.not_true, Bool.not_false, Bool.false_eq_true, List.length_cons, List.length_nil, Nat.reduceAdd, Nat.reduceLeDiff, decide_true, decide_false, List.set_cons_zero, List.set_cons_succ, i0, i1, i2, i3, n1, n2, n3, sm, dm, dp, ep, e0]
    exact H
end Ev.K94
set_option Elab.async false
set_option linter.all false
set_option maxRecDepth 100000
set_option maxHeartbeats 4000000
namespace Ev.K94
open PySem PySem.Spec PyProof.Rows L2
theorem same_int {k : Nat} {a : Int} : callN tb (k + 1) 12 [.int a, .int a] = .ok (.bl true) := by
  show bodyR (b__law_same (callN tb k) [.val (.int a), .val (.int a), .und, .und]) = _
  unfold b__law_same
  simp only [v_bind, v_bindx, v_gt0, v_gtS, v_set0, v_setS, v_lit, v_var, v_varV, v_varO, v_varR, v_arg, v_argV, v_argO, v_gV, v_dN, v_dC, v_gN, v_gC, v_d1, v_o1, v_o2, v_o3, v_oD, v_oG, v_opR, v_opRx, v_opF, v_opG, v_opD, v_opDx, v_ds0, v_dsV, v_dsB, v_dsBV, v_dsBO, v_map, v_ch, v_chT, v_chF, v_tB, v_asB, v_asBx, v_tAnd, v_tOr, v_tNot, v_eAnd, v_eOr, v_eNot, v_eIf, v_itE, v_itR, v_itG, v_r1, v_r2, v_seqT, v_seqL, v_clR, v_callR, v_callRx, v_clG, v_clGx, v_clf, v_callf, v_clfG, v_clio, v_cioF, v_cioG, v_cioH, v_oV, v_vlR, v_vlRx, v_oO, v_owL, v_owD, v_sSet, v_setR, v_setRx, v_okV, v_okS, v_sUnp, v_unpR, v_unpG, v_put1, v_putT, v_puts0, v_putsS, v_sPar, v_parR, v_sPut, v_putR, v_putG, v_own, v_putL, v_putD, v_aug, v_augG, v_augH, v_app, v_appF, v_appG, v_sExp, v_expR, v_expRx, v_sRet, v_retR, v_retRx, v_sRetf, v_retf, v_sEnd, v_sRaise, v_sIf, v_ifR, v_ifRx, v_sFor, v_forR, v_sSeq, v_seqN, v_seqR, v_seqx, v_sYes, v_get1, v_get2, v_isD, v_getR1, v_getR2, v_dct1, v_add, v_addT, v_addL, v_sub, v_mul, v_fdiv, v_mod, v_pow, v_neg, v_lt, v_le, v_gtp, v_ge, v_eqI, v_neI, v_eqB, v_neB, v_isN, v_inT, v_ninT, v_ixT, v_ixL, v_ixD, v_revT, v_tup, v_lst, v_dnew, v_dnewT, v_lenT, v_lenL, v_lenD, v_tofT, v_tofL, v_lofS, v_sumL, v_min2, v_max2, v_intI, v_intB, v_allL, v_isi, isi, if_true, if_false, Bool.and_self, Bool.and_true, Bool.true_and, Bool.and_false, Bool.false_and, Bool.or_true, Bool.true_or, Bool.or_false, Bool.false_or, Bool.not_true, Bool.not_false, Bool.false_eq_true, List.length_cons, List.length_nil, Nat.reduceAdd, Nat.reduceLeDiff, decide_true, decide_false, List.set_cons_zero, List.set_cons_succ, bodyR, (by simp : (a == a) = true)]
theorem fm_none {α β : Type} {g : α → Option β} : ∀ (l : List α), (∀ i ∈ l, g i = none) → l.filterMap g = []
  | [], _ => rfl
  | x :: l, h => by rw [List.filterMap_cons_none (h x List.mem_cons_self), fm_none l fun i hi => h i (List.mem_cons_of_mem _ hi)]
theorem same_list {k : Nat} {ns : List Int} (hl : ns.length ≤ 1000) : callN tb (k + 2) 12 [.lst (ns.map .int), .lst (ns.map .int)] = .ok (.bl true) := by
  show bodyR (b__law_same (callN tb (k + 1)) [.val (.lst (ns.map .int)), .val (.lst (ns.map .int)), .und, .und]) = _
  unfold b__law_same
  have c3 : bnd (((ns.map D.int).length : Nat) : Int) = true := decide_eq_true (by rw [List.length_map]; omega)
  have L : lcE [2, 3] (.nm 3) (itE .rng1 (dC (oG .len (gC (argVar 1) (gN))) (dN))) (tNot (tB (clR (callN tb (k + 1)) 12 (dC (o2 .ix (argVar 0) (argVar 3)) (dC (o2 .ix (argVar 1) (argVar 3)) (dN)))))) (varR 3) [.val (.lst (ns.map .int)), .val (.lst (ns.map .int)), .und, .und] = .ok (.lst []) [.val (.lst (ns.map .int)), .val (.lst (ns.map .int)), .und, .und] := by
    refine (lcE_of (xs := rngD 0 1 ns.length) (l := []) (ε1 := [.val (.lst (ns.map .int)), .val (.lst (ns.map .int)), .und, .und]) (ε2 := [.val (.lst (ns.map .int)), .val (.lst (ns.map .int)), .und, .und]) ?_ rfl ?_).trans rfl
    · simp only [v_bind, v_bindx, v_gt0, v_gtS, v_set0, v_setS, v_lit, v_var, v_varV, v_varO, v_varR, v_arg, v_argV, v_argO, v_gV, v_dN, v_dC, v_gN, v_gC, v_d1, v_o1, v_o2, v_o3, v_oD, v_oG, v_opR, v_opRx, v_opF, v_opG, v_opD, v_opDx, v_ds0, v_dsV, v_dsB, v_dsBV, v_dsBO, v_map, v_ch, v_chT, v_chF, v_tB, v_asB, v_asBx, v_tAnd, v_tOr, v_tNot, v_eAnd, v_eOr, v_eNot, v_eIf, v_itE, v_itR, v_itG, v_r1, v_r2, v_seqT, v_seqL, v_clR, v_callR, v_callRx, v_clG, v_clGx, v_clf, v_callf, v_clfG, v_clio, v_cioF, v_cioG, v_cioH, v_oV, v_vlR, v_vlRx, v_oO, v_owL, v_owD, v_sSet, v_setR, v_setRx, v_okV, v_okS, v_sUnp, v_unpR, v_unpG, v_put1, v_putT, v_puts0, v_putsS, v_sPar, v_parR, v_sPut, v_putR, v_putG, v_own, v_putL, v_putD, v_aug, v_augG, v_augH, v_app, v_appF, v_appG, v_sExp, v_expR, v_expRx, v_sRet, v_retR, v_retRx, v_sRetf, v_retf, v_sEnd, v_sRaise, v_sIf, v_ifR, v_ifRx, v_sFor, v_forR, v_sSeq, v_seqN, v_seqR, v_seqx, v_sYes, v_get1, v_get2, v_isD, v_getR1, v_getR2, v_dct1, v_add, v_addT, v_addL, v_sub, v_mul, v_fdiv, v_mod, v_pow, v_neg, v_lt, v_le, v_gtp, v_ge, v_eqI, v_neI, v_eqB, v_neB, v_isN, v_inT, v_ninT, v_ixT, v_ixL, v_ixD, v_revT, v_tup, v_lst, v_dnew, v_dnewT, v_lenT, v_lenL, v_lenD, v_tofT, v_tofL, v_lofS, v_sumL, v_min2, v_max2, v_intI, v_intB, v_allL, v_isi, isi, if_true, if_false, Bool.and_self, Bool.and_true, Bool.true_and, Bool.and_false, Bool.false_and, Bool.or_true, Bool.true_or, Bool.or_false, Bool.false_or, Bool.not_true, Bool.not_false, Bool.false_eq_true, List.length_cons, List.length_nil, Nat.reduceAdd, Nat.reduceLeDiff, decide_true, decide_false, List.set_cons_zero, List.set_cons_succ, c3]
      simp
    · have := lcGo_fm (own := [2, 3]) (tg := .nm 3) (t := tNot (tB (clR (callN tb (k + 1)) 12 (dC (o2 .ix (argVar 0) (argVar 3)) (dC (o2 .ix (argVar 1) (argVar 3)) (dN)))))) (e := varR 3) (ε := [.val (.lst (ns.map .int)), .val (.lst (ns.map .int)), .und, .und]) (fun _ => none) (rngD 0 1 ns.length) [] (fun x hx => ?_) (by rw [rngD_len, List.length_nil]; show 0 + ns.length ≤ 16777216; omega)
      · rw [List.nil_append, fm_none _ fun _ _ => rfl] at this
        exact this
      · unfold rngD at hx
        obtain ⟨i, hi, rfl⟩ := List.mem_map.mp hx
        have hi := List.mem_range.mp hi
        rw [show 0 + (i : Int) * 1 = (i : Int) from by omega]
        have x1 : L2.atI (ns.map D.int) (i : Int) = some (.int ns[i]) := atI_nat (by rw [List.getElem?_map, List.getElem?_eq_getElem hi]; rfl)
        refine ⟨_, v_put1, [.val (.lst (ns.map .int)), .val (.lst (ns.map .int)), .und, .val (.int i)], ?_, rfl⟩
        have w := same_int (k := k) (a := ns[i])
        simp only [v_bind, v_bindx, v_gt0, v_gtS, v_set0, v_setS, v_lit, v_var, v_varV, v_varO, v_varR, v_arg, v_argV, v_argO, v_gV, v_dN, v_dC, v_gN, v_gC, v_d1, v_o1, v_o2, v_o3, v_oD, v_oG, v_opR, v_opRx, v_opF, v_opG, v_opD, v_opDx, v_ds0, v_dsV, v_dsB, v_dsBV, v_dsBO, v_map, v_ch, v_chT, v_chF, v_tB, v_asB, v_asBx, v_tAnd, v_tOr, v_tNot, v_eAnd, v_eOr, v_eNot, v_eIf, v_itE, v_itR, v_itG, v_r1, v_r2, v_seqT, v_seqL, v_clR, v_callR, v_callRx, v_clG, v_clGx, v_clf, v_callf, v_clfG, v_clio, v_cioF, v_cioG, v_cioH, v_oV, v_vlR, v_vlRx, v_oO, v_owL, v_owD, v_sSet, v_setR, v_setRx, v_okV, v_okS, v_sUnp, v_unpR, v_unpG, v_put1, v_putT, v_puts0, v_putsS, v_sPar, v_parR, v_sPut, v_putR, v_putG, v_own, v_putL, v_putD, v_aug, v_augG, v_augH, v_app, v_appF, v_appG, v_sExp, v_expR, v_expRx, v_sRet, v_retR, v_retRx, v_sRetf, v_retf, v_sEnd, v_sRaise, v_sIf, v_ifR, v_ifRx, v_sFor, v_forR, v_sSeq, v_seqN, v_seqR, v_seqx, v_sYes, v_get1, v_get2, v_isD, v_getR1, v_getR2, v_dct1, v_add, v_addT, v_addL, v_sub, v_mul, v_fdiv, v_mod, v_pow, v_neg, v_lt, v_le, v_gtp, v_ge, v_eqI, v_neI, v_eqB, v_neB, v_isN, v_inT, v_ninT, v_ixT, v_ixL, v_ixD, v_revT, v_tup, v_lst, v_dnew, v_dnewT, v_lenT, v_lenL, v_lenD, v_tofT, v_tofL, v_lofS, v_sumL, v_min2, v_max2, v_intI, v_intB, v_allL, v_isi, isi, if_true, if_false, Bool.and_self, Bool.and_true, Bool.true_and, Bool.and_false, Bool.false_and, Bool.or_true, Bool.true_or, Bool.or_false, Bool.false_or, Bool.not_true, Bool.not_false, Bool.false_eq_true, List.length_cons, List.length_nil, Nat.reduceAdd, Nat.reduceLeDiff, decide_true, decide_false, List.set_cons_zero, List.set_cons_succ, x1, w]
  have e1 : ∀ n : Int, (n == n) = true := fun n => by simp
  have e2 : ∀ n : Bool, (n == n) = true := fun n => by simp
  simp only [v_bind, v_bindx, v_gt0, v_gtS, v_set0, v_setS, v_lit, v_var, v_varV, v_varO, v_varR, v_arg, v_argV, v_argO, v_gV, v_dN, v_dC, v_gN, v_gC, v_d1, v_o1, v_o2, v_o3, v_oD, v_oG, v_opR, v_opRx, v_opF, v_opG, v_opD, v_opDx, v_ds0, v_dsV, v_dsB, v_dsBV, v_dsBO, v_map, v_ch, v_chT, v_chF, v_tB, v_asB, v_asBx, v_tAnd, v_tOr, v_tNot, v_eAnd, v_eOr, v_eNot, v_eIf, v_itE, v_itR, v_itG, v_r1, v_r2, v_seqT, v_seqL, v_clR, v_callR, v_callRx, v_clG, v_clGx, v_clf, v_callf, v_clfG, v_clio, v_cioF, v_cioG, v_cioH, v_oV, v_vlR, v_vlRx, v_oO, v_owL, v_owD, v_sSet, v_setR, v_setRx, v_okV, v_okS, v_sUnp, v_unpR, v_unpG, v_put1, v_putT, v_puts0, v_putsS, v_sPar, v_parR, v_sPut, v_putR, v_putG, v_own, v_putL, v_putD, v_aug, v_augG, v_augH, v_app, v_appF, v_appG, v_sExp, v_expR, v_expRx, v_sRet, v_retR, v_retRx, v_sRetf, v_retf, v_sEnd, v_sRaise, v_sIf, v_ifR, v_ifRx, v_sFor, v_forR, v_sSeq, v_seqN, v_seqR, v_seqx, v_sYes, v_get1, v_get2, v_isD, v_getR1, v_getR2, v_dct1, v_add, v_addT, v_addL, v_sub, v_mul, v_fdiv, v_mod, v_pow, v_neg, v_lt, v_le, v_gtp, v_ge, v_eqI, v_neI, v_eqB, v_neB, v_isN, v_inT, v_ninT, v_ixT, v_ixL, v_ixD, v_revT, v_tup, v_lst, v_dnew, v_dnewT, v_lenT, v_lenL, v_lenD, v_tofT, v_tofL, v_lofS, v_sumL, v_min2, v_max2, v_intI, v_intB, v_allL, v_isi, isi, if_true, if_false, Bool.and_self, Bool.and_true, Bool.true_and, Bool.and_false, Bool.false_and, Bool.or_true, Bool.true_or, Bool.or_false, Bool.false_or, Bool.not_true, Bool.not_false, Bool.false_eq_true, List.length_cons, List.length_nil, Nat.reduceAdd, Nat.reduceLeDiff, decide_true, decide_false, List.set_cons_zero, List.set_cons_succ, bodyR, L, e1, e2]
  rfl
end Ev.K94
set_option Elab.async false
set_option linter.all false
set_option maxRecDepth 100000
set_option maxHeartbeats 4000000
namespace Ev.K94
open PySem PySem.Spec PyProof.Rows L2
def DictOf (ps : List (Int × Int)) (w : Int × Int → Int) : List (D × D) := ps.map fun p => (ofPair p, D.int (w p))
theorem eqv_pair (p q : Int × Int) : eqv (ofPair p) (ofPair q) = decide (p = q) := by
  show (p.1 == q.1 && (p.2 == q.2 && true)) = _
  by_cases h : p = q
  · subst h; simp
  · rw [decide_eq_false h, Bool.and_true]
    by_cases h1 : p.1 = q.1
    · have h2 : p.2 ≠ q.2 := fun z => h (Prod.ext h1 z)
      simp [h2]
    · simp [h1]
theorem dlook_of {p : Int × Int} {w : Int × Int → Int} : ∀ {ps : List (Int × Int)}, dlook (DictOf ps w) (ofPair p) = if p ∈ ps then some (.int (w p)) else none
  | [] => rfl
  | q :: ps => by
    have ih := dlook_of (p := p) (w := w) (ps := ps)
    unfold dlook DictOf at *
    rw [List.map_cons, List.find?_cons, show eqv (ofPair q, D.int (w q)).1 (ofPair p) = decide (q = p) from eqv_pair q p]
    by_cases h : q = p
    · rw [decide_eq_true h, if_pos (by rw [h]; exact List.mem_cons_self), h]; rfl
    · rw [decide_eq_false h]
      show Option.map _ (List.find? _ _) = _
      rw [ih]
      by_cases h2 : p ∈ ps
      · rw [if_pos h2, if_pos (List.mem_cons_of_mem _ h2)]
      · rw [if_neg h2, if_neg (by simp [h2]; exact fun z => h z.symm)]
abbrev updW (w : Int × Int → Int) (p : Int × Int) (v : Int) : Int × Int → Int := fun q => if q = p then v else w q
def insK (ps : List (Int × Int)) (p : Int × Int) : List (Int × Int) := if p ∈ ps then ps else ps ++ [p]
theorem dput_of {ps : List (Int × Int)} {p : Int × Int} {w : Int × Int → Int} {v : Int} : dput (DictOf ps w) (ofPair p) (.int v) = DictOf (insK ps p) (updW w p v) := by
  unfold dput insK
  rw [dlook_of]
  by_cases h : p ∈ ps
  · rw [if_pos h, if_pos h]
    show (DictOf ps w).map _ = _
    unfold DictOf
    rw [List.map_map]
    refine List.map_congr_left fun q hq => ?_
    show (if eqv (ofPair q) (ofPair p) = true then (ofPair q, D.int v) else (ofPair q, D.int (w q))) = (ofPair q, D.int (updW w p v q))
    rw [eqv_pair]
    by_cases e : q = p
    · rw [decide_eq_true e, if_pos rfl]; unfold updW; rw [if_pos e]
    · rw [decide_eq_false e, if_neg Bool.false_ne_true]; unfold updW; rw [if_neg e]
  · rw [if_neg h, if_neg h]
    show DictOf ps w ++ [(ofPair p, D.int v)] = _
    unfold DictOf
    rw [List.map_append, List.map_cons, List.map_nil]
    congr 1
    · refine List.map_congr_left fun q hq => ?_
      have : q ≠ p := fun z => h (z ▸ hq)
      unfold updW; rw [if_neg this]
    · unfold updW; rw [if_pos rfl]
theorem sorted_of {ps : List (Int × Int)} {w : Int × Int → Int} : pr .sorted [.dct true (DictOf ps w)] = some (.lst ((ps.mergeSort leP).map ofPair)) := by
  show ((DictOf ps w).mapM fun e => pairOf e.1).map (fun ps => D.lst ((ps.mergeSort leP).map ofPair)) = _
  have : (DictOf ps w).mapM (fun e => pairOf e.1) = some ps := by
    induction ps with
    | nil => rfl
    | cons p ps ih =>
      show (((ofPair p, D.int (w p)) :: DictOf ps w).mapM fun e => pairOf e.1) = _
      rw [List.mapM_cons, ih]; rfl
  rw [this]; rfl
theorem hkey_of (p : Int × Int) : hkey true (ofPair p) = true := rfl
def putB : En → R Fl := sPut 3 (varR 7) (o2 .add (gV (get2R (argVar 3) (varR 7) (litR (.int 0)))) (gV (o2 .mul (argVar 6) (argVar 8))))
structure Ct (m : Int) (ps : List (Int × Int)) (w : Int × Int → Int) : Prop where
  nd : ps.Nodup
  box : ∀ p ∈ ps, 1 ≤ p.1 ∧ p.1 ≤ m ∧ 1 ≤ p.2 ∧ p.2 ≤ m
  zero : ∀ p, p ∉ ps → w p = 0
theorem nat_nodup : ∀ (N : Nat) (l : List Nat), l.Nodup → (∀ x ∈ l, x < N) → l.length ≤ N
  | 0, l, _, h => by
    cases l with
    | nil => exact Nat.le_refl _
    | cons x l => exact absurd (h x List.mem_cons_self) (Nat.not_lt_zero _)
  | N + 1, l, nd, h => by
    have h1 := nat_nodup N (l.erase N) (nd.erase N) fun x hx => by
      have hx' := (List.Nodup.mem_erase_iff nd).mp hx
      have := h x hx'.2
      have := hx'.1
      omega
    have h2 : l.length ≤ (l.erase N).length + 1 := by
      by_cases hm : N ∈ l
      · rw [List.length_erase_of_mem hm]; omega
      · rw [List.erase_of_not_mem hm]; omega
    omega
theorem Ct.len {m : Int} {ps : List (Int × Int)} {w : Int × Int → Int} (h : Ct m ps w) (hm : m ≤ 60) : ps.length < line := by
  have := nat_nodup 4096 (ps.map fun p => p.1.toNat * 64 + p.2.toNat) ?_ fun x hx => ?_
  · rw [List.length_map] at this
    show _ < 16777216
    omega
  · refine (List.pairwise_map.mpr (h.nd.imp_of_mem fun {a b} ha hb hne he => hne ?_))
    obtain ⟨a1, a2, a3, a4⟩ := h.box a ha
    obtain ⟨b1, b2, b3, b4⟩ := h.box b hb
    exact Prod.ext (by omega) (by omega)
  · obtain ⟨p, hp, rfl⟩ := List.mem_map.mp hx
    obtain ⟨a1, a2, a3, a4⟩ := h.box p hp
    omega
theorem Ct.ins {m : Int} {ps : List (Int × Int)} {w : Int × Int → Int} (h : Ct m ps w) {p : Int × Int} (hp : 1 ≤ p.1 ∧ p.1 ≤ m ∧ 1 ≤ p.2 ∧ p.2 ≤ m) (v : Int) : Ct m (insK ps p) (updW w p v) := by
  unfold insK
  by_cases e : p ∈ ps
  · rw [if_pos e]
    refine ⟨h.nd, h.box, fun q hq => ?_⟩
    unfold updW
    rw [if_neg (fun z : q = p => hq (by rw [z]; exact e))]
    exact h.zero q hq
  · rw [if_neg e]
    refine ⟨List.nodup_append.mpr ⟨h.nd, List.pairwise_singleton _ _, fun a ha b hb z => e (by rw [← List.mem_singleton.mp hb, ← z]; exact ha)⟩, fun q hq => ?_, fun q hq => ?_⟩
    · rcases List.mem_append.mp hq with z | z
      · exact h.box q z
      · rw [List.mem_singleton.mp z]; exact hp
    · rw [List.mem_append, List.mem_singleton, not_or] at hq
      unfold updW
      rw [if_neg hq.2]
      exact h.zero q hq.1
theorem putB_ok {m : Int} (hm : m ≤ 60) {ps : List (Int × Int)} {w : Int × Int → Int} (h : Ct m ps w) {q : Int × Int} {s0 s1 s2 s4 s5 : Sl} {ways by' : Int} (hb : small by' = true) :
    putB [s0, s1, s2, .own1 (.dct true (DictOf ps w)), s4, s5, .val (.int ways), .val (ofPair q), .val (.int by')] = .ok .nx [s0, s1, s2, .own1 (.dct true (DictOf (insK ps q) (updW w q (w q + ways * by')))), s4, s5, .val (.int ways), .val (ofPair q), .val (.int by')] := by
  have hl : decide ((DictOf ps w).length < line) = true := decide_eq_true (by unfold DictOf; rw [List.length_map]; exact h.len hm)
  have hg : (dlook (DictOf ps w) (ofPair q)).getD (.int 0) = .int (w q) := by
    rw [dlook_of]
    by_cases e : q ∈ ps
    · rw [if_pos e]; rfl
    · rw [if_neg e, h.zero q e]; rfl
  unfold putB
  simp only [v_bind, v_bindx, v_gt0, v_gtS, v_set0, v_setS, v_lit, v_var, v_varV, v_varO, v_varR, v_arg, v_argV, v_argO, v_gV, v_dN, v_dC, v_gN, v_gC, v_d1, v_o1, v_o2, v_o3, v_oD, v_oG, v_opR, v_opRx, v_opF, v_opG, v_opD, v_opDx, v_ds0, v_dsV, v_dsB, v_dsBV, v_dsBO, v_map, v_ch, v_chT, v_chF, v_tB, v_asB, v_asBx, v_tAnd, v_tOr, v_tNot, v_eAnd, v_eOr, v_eNot, v_eIf, v_itE, v_itR, v_itG, v_r1, v_r2, v_seqT, v_seqL, v_clR, v_callR, v_callRx, v_clG, v_clGx, v_clf, v_callf, v_clfG, v_clio, v_cioF, v_cioG, v_cioH, v_oV, v_vlR, v_vlRx, v_oO, v_owL, v_owD, v_sSet, v_setR, v_setRx, v_okV, v_okS, v_sUnp, v_unpR, v_unpG, v_put1, v_putT, v_puts0, v_putsS, v_sPar, v_parR, v_sPut, v_putR, v_putG, v_own, v_putL, v_putD, v_aug, v_augG, v_augH, v_app, v_appF, v_appG, v_sExp, v_expR, v_expRx, v_sRet, v_retR, v_retRx, v_sRetf, v_retf, v_sEnd, v_sRaise, v_sIf, v_ifR, v_ifRx, v_sFor, v_forR, v_sSeq, v_seqN, v_seqR, v_seqx, v_sYes, v_get1, v_get2, v_isD, v_getR1, v_getR2, v_dct1, v_add, v_addT, v_addL, v_sub, v_mul, v_fdiv, v_mod, v_pow, v_neg, v_lt, v_le, v_gtp, v_ge, v_eqI, v_neI, v_eqB, v_neB, v_isN, v_inT, v_ninT, v_ixT, v_ixL, v_ixD, v_revT, v_tup, v_lst, v_dnew, v_dnewT, v_lenT, v_lenL, v_lenD, v_tofT, v_tofL, v_lofS, v_sumL, v_min2, v_max2, v_intI, v_intB, v_allL, v_isi, isi, if_true, if_false, Bool.and_self, Bool.and_true, Bool.true_and, Bool.and_false, Bool.false_and, Bool.or_true, Bool.true_or, Bool.or_false, Bool.false_or, Bool.not_true, Bool.not_false, Bool.false_eq_true, List.length_cons, List.length_nil, Nat.reduceAdd, Nat.reduceLeDiff, decide_true, decide_false, List.set_cons_zero, List.set_cons_succ, hkey_of, hg, hb, hl, dput_of]
theorem v_for0 {tg : Tg} {b : En → R Fl} {ε : En} : forGo tg b [] ε = .ok .nx ε := rfl
def forP (tg : Tg) (b : En → R Fl) (xs : List D) : Option En → R Fl
  | none => .bad
  | some ε1 => (match b ε1 with
      | .ok .nx ε2 => forGo tg b xs ε2
      | .ok .ct ε2 => forGo tg b xs ε2
      | .ok .bk ε2 => .ok .nx ε2
      | r => r)
def forB (tg : Tg) (b : En → R Fl) (xs : List D) : R Fl → R Fl
      | .ok .nx ε2 => forGo tg b xs ε2
      | .ok .ct ε2 => forGo tg b xs ε2
      | .ok .bk ε2 => .ok .nx ε2
      | r => r
theorem v_forS {tg : Tg} {b : En → R Fl} {x : D} {xs : List D} {ε : En} : forGo tg b (x :: xs) ε = forP tg b xs (tg.put x ε) := by
  unfold forP; rfl
theorem v_forP {tg : Tg} {b : En → R Fl} {xs : List D} {ε : En} : forP tg b xs (some ε) = forB tg b xs (b ε) := by
  unfold forP forB; rfl
theorem v_forN {tg : Tg} {b : En → R Fl} {xs : List D} {ε : En} : forB tg b xs (.ok .nx ε) = forGo tg b xs ε := rfl
def addP (m : Int) (w0 : Int × Int → Int) (p : Int × Int) (s : List (Int × Int) × (Int × Int → Int)) : List (Int × Int) × (Int × Int → Int) :=
  let a := (p.1 + 1, p.2); let b := (p.1, p.2 + 1)
  let s1 := (insK s.1 a, updW s.2 a (s.2 a + w0 p * 1))
  let s2 := (insK s1.1 b, updW s1.2 b (s1.2 b + w0 p * 1))
  (insK s2.1 p, updW s2.2 p (s2.2 p + w0 p * (m - 1)))
theorem addP_ct {M m : Int} {w0 : Int × Int → Int} {p : Int × Int} {s : List (Int × Int) × (Int × Int → Int)} (h : Ct M s.1 s.2) (hp : 1 ≤ p.1 ∧ p.1 + 1 ≤ M ∧ 1 ≤ p.2 ∧ p.2 + 1 ≤ M) : Ct M (addP m w0 p s).1 (addP m w0 p s).2 := by
  unfold addP
  exact ((h.ins (p := (p.1 + 1, p.2)) ⟨by show 1 ≤ p.1 + 1; omega, hp.2.1, hp.2.2.1, by show p.2 ≤ M; omega⟩ _).ins (p := (p.1, p.2 + 1)) ⟨hp.1, by show p.1 ≤ M; omega, by show 1 ≤ p.2 + 1; omega, hp.2.2.2⟩ _).ins (p := p) ⟨hp.1, by omega, hp.2.2.1, by omega⟩ _
def inB : En → R Fl := sSeq (sSet 6 (oV (o2 .ix (argVar 1) (gV (oD .tup (dC (varR 4) (dC (varR 5) (dN)))))))) (sFor (.tp [7, 8]) (itE .seq (d1 (oD .lst (dC (oD .tup (dC (oD .tup (dC (o2 .add (argVar 4) (gV (litR (.int 1)))) (dC (varR 5) (dN)))) (dC (litR (.int 1)) (dN)))) (dC (oD .tup (dC (oD .tup (dC (varR 4) (dC (o2 .add (argVar 5) (gV (litR (.int 1)))) (dN)))) (dC (litR (.int 1)) (dN)))) (dC (oD .tup (dC (oD .tup (dC (varR 4) (dC (varR 5) (dN)))) (dC (o2 .sub (argVar 2) (gV (litR (.int 1)))) (dN)))) (dN))))))) putB)
theorem inB_ok {M m : Int} (hM : M ≤ 60) (hm : 0 ≤ m ∧ m ≤ 60) {ps0 : List (Int × Int)} {w0 : Int × Int → Int} {s : List (Int × Int) × (Int × Int → Int)} (h : Ct M s.1 s.2) {p : Int × Int} (hp0 : p ∈ ps0) (hp : 1 ≤ p.1 ∧ p.1 + 1 ≤ M ∧ 1 ≤ p.2 ∧ p.2 + 1 ≤ M) {s0 s6 s7 s8 : Sl} :
    ∃ t6 t7 t8, inB [s0, .val (.dct true (DictOf ps0 w0)), .val (.int m), .own1 (.dct true (DictOf s.1 s.2)), .val (.int p.1), .val (.int p.2), s6, s7, s8] = .ok .nx [s0, .val (.dct true (DictOf ps0 w0)), .val (.int m), .own1 (.dct true (DictOf (addP m w0 p s).1 (addP m w0 p s).2)), .val (.int p.1), .val (.int p.2), t6, t7, t8] := by
  have lk : dlook (DictOf ps0 w0) (.tup [.int p.1, .int p.2]) = some (.int (w0 p)) := by
    have := dlook_of (p := p) (w := w0) (ps := ps0)
    rw [if_pos hp0] at this
    exact this
  have hk : hkey true (.tup [.int p.1, .int p.2]) = true := rfl
  have l2 : (2 ≤ line) = True := by decide
  have l3 : (3 ≤ line) = True := by decide
  have b1 : small 1 = true := by decide
  have b3 : small (m - 1) = true := decide_eq_true (by omega)
  have c1 : Ct M s.1 s.2 := h
  have c2 := c1.ins (p := (p.1 + 1, p.2)) ⟨by show 1 ≤ p.1 + 1; omega, hp.2.1, hp.2.2.1, by show p.2 ≤ M; omega⟩ (s.2 (p.1 + 1, p.2) + w0 p * 1)
  have c3 := c2.ins (p := (p.1, p.2 + 1)) ⟨hp.1, by show p.1 ≤ M; omega, by show 1 ≤ p.2 + 1; omega, hp.2.2.2⟩ (updW s.2 (p.1 + 1, p.2) (s.2 (p.1 + 1, p.2) + w0 p * 1) (p.1, p.2 + 1) + w0 p * 1)
  have p1 := putB_ok hM c1 (q := (p.1 + 1, p.2)) (s0 := s0) (s1 := .val (.dct true (DictOf ps0 w0))) (s2 := .val (.int m)) (s4 := .val (.int p.1)) (s5 := .val (.int p.2)) (ways := w0 p) b1
  have p2 := putB_ok hM c2 (q := (p.1, p.2 + 1)) (s0 := s0) (s1 := .val (.dct true (DictOf ps0 w0))) (s2 := .val (.int m)) (s4 := .val (.int p.1)) (s5 := .val (.int p.2)) (ways := w0 p) b1
  have p3 := putB_ok hM c3 (q := p) (s0 := s0) (s1 := .val (.dct true (DictOf ps0 w0))) (s2 := .val (.int m)) (s4 := .val (.int p.1)) (s5 := .val (.int p.2)) (ways := w0 p) b3
  refine ⟨.val (.int (w0 p)), .val (ofPair p), .val (.int (m - 1)), ?_⟩
  unfold inB addP
  unfold ofPair at p1 p2 p3 ⊢
  simp only [v_bind, v_bindx, v_gt0, v_gtS, v_set0, v_setS, v_lit, v_var, v_varV, v_varO, v_varR, v_arg, v_argV, v_argO, v_gV, v_dN, v_dC, v_gN, v_gC, v_d1, v_o1, v_o2, v_o3, v_oD, v_oG, v_opR, v_opRx, v_opF, v_opG, v_opD, v_opDx, v_ds0, v_dsV, v_dsB, v_dsBV, v_dsBO, v_map, v_ch, v_chT, v_chF, v_tB, v_asB, v_asBx, v_tAnd, v_tOr, v_tNot, v_eAnd, v_eOr, v_eNot, v_eIf, v_itE, v_itR, v_itG, v_r1, v_r2, v_seqT, v_seqL, v_clR, v_callR, v_callRx, v_clG, v_clGx, v_clf, v_callf, v_clfG, v_clio, v_cioF, v_cioG, v_cioH, v_oV, v_vlR, v_vlRx, v_oO, v_owL, v_owD, v_sSet, v_setR, v_setRx, v_okV, v_okS, v_sUnp, v_unpR, v_unpG, v_put1, v_putT, v_puts0, v_putsS, v_sPar, v_parR, v_sPut, v_putR, v_putG, v_own, v_putL, v_putD, v_aug, v_augG, v_augH, v_app, v_appF, v_appG, v_sExp, v_expR, v_expRx, v_sRet, v_retR, v_retRx, v_sRetf, v_retf, v_sEnd, v_sRaise, v_sIf, v_ifR, v_ifRx, v_sFor, v_forR, v_sSeq, v_seqN, v_seqR, v_seqx, v_sYes, v_get1, v_get2, v_isD, v_getR1, v_getR2, v_dct1, v_add, v_addT, v_addL, v_sub, v_mul, v_fdiv, v_mod, v_pow, v_neg, v_lt, v_le, v_gtp, v_ge, v_eqI, v_neI, v_eqB, v_neB, v_isN, v_inT, v_ninT, v_ixT, v_ixL, v_ixD, v_revT, v_tup, v_lst, v_dnew, v_dnewT, v_lenT, v_lenL, v_lenD, v_tofT, v_tofL, v_lofS, v_sumL, v_min2, v_max2, v_intI, v_intB, v_allL, v_isi, isi, if_true, if_false, Bool.and_self, Bool.and_true, Bool.true_and, Bool.and_false, Bool.false_and, Bool.or_true, Bool.true_or, Bool.or_false, Bool.false_or, Bool.not_true, Bool.not_false, Bool.false_eq_true, List.length_cons, List.length_nil, Nat.reduceAdd, Nat.reduceLeDiff, decide_true, decide_false, List.set_cons_zero, List.set_cons_succ, lk, hk, l2, l3, v_forS, v_forP, v_forN, v_for0, p1, p2, p3]
end Ev.K94
set_option Elab.async false
set_option linter.all false
set_option maxRecDepth 100000
set_option maxHeartbeats 4000000
namespace Ev.K94
open PySem PySem.Spec PyProof.Rows L2
abbrev PW := List (Int × Int) × (Int × Int → Int)
def cb (m : Int) (w0 : Int × Int → Int) (r p : Int × Int) : Int := (if r = (p.1 + 1, p.2) then w0 p else 0) + (if r = (p.1, p.2 + 1) then w0 p else 0) + (if r = p then w0 p * (m - 1) else 0)
theorem updW_add (w : Int × Int → Int) (a r : Int × Int) (x : Int) : updW w a (w a + x) r = w r + if r = a then x else 0 := by
  unfold updW
  by_cases h : r = a
  · rw [if_pos h, if_pos h, h]
  · rw [if_neg h, if_neg h]; omega
theorem addP_w (m : Int) (w0 : Int × Int → Int) (p r : Int × Int) (s : PW) : (addP m w0 p s).2 r = s.2 r + cb m w0 r p := by
  simp only [addP]
  rw [updW_add, updW_add, updW_add]
  unfold cb
  rw [Int.mul_one]
  omega
def foldP (m : Int) (w0 : Int × Int → Int) (L : List (Int × Int)) (s : PW) : PW := L.foldl (fun s p => addP m w0 p s) s
theorem foldP_w (m : Int) (w0 : Int × Int → Int) (r : Int × Int) : ∀ (L : List (Int × Int)) (s : PW), (foldP m w0 L s).2 r = s.2 r + (L.map (cb m w0 r)).sum
  | [], s => by show s.2 r = s.2 r + 0; omega
  | p :: L, s => by
    show (foldP m w0 L (addP m w0 p s)).2 r = _
    rw [foldP_w m w0 r L, addP_w, List.map_cons, List.sum_cons]
    omega
theorem foldP_ct {M m : Int} {w0 : Int × Int → Int} : ∀ (L : List (Int × Int)) (s : PW), (∀ p ∈ L, 1 ≤ p.1 ∧ p.1 + 1 ≤ M ∧ 1 ≤ p.2 ∧ p.2 + 1 ≤ M) → Ct M s.1 s.2 → Ct M (foldP m w0 L s).1 (foldP m w0 L s).2
  | [], s, _, h => h
  | p :: L, s, hb, h => foldP_ct L _ (fun q hq => hb q (List.mem_cons_of_mem _ hq)) (addP_ct h (hb p List.mem_cons_self))
theorem sum_if {q : Int × Int} {c : Int × Int → Prop} [DecidablePred c] {h : Int × Int → Int} (hq : ∀ p, c p ↔ p = q) : ∀ {L : List (Int × Int)}, L.Nodup → (q ∉ L → h q = 0) → (L.map fun p => if c p then h p else 0).sum = h q
  | [], _, h0 => by rw [h0 (by simp)]; rfl
  | p :: L, nd, h0 => by
    have nd' := List.nodup_cons.mp nd
    rw [List.map_cons, List.sum_cons]
    by_cases e : p = q
    · subst e
      rw [if_pos ((hq p).mpr rfl)]
      have : (L.map fun p => if c p then h p else 0).sum = 0 := by
        have : ∀ (L' : List (Int × Int)), (∀ x ∈ L', x ≠ p) → (L'.map fun p => if c p then h p else 0).sum = 0 := by
          intro L'
          induction L' with
          | nil => intro _; rfl
          | cons x L' ih =>
            intro hx
            rw [List.map_cons, List.sum_cons, ih fun y hy => hx y (List.mem_cons_of_mem _ hy), if_neg fun z => hx x List.mem_cons_self ((hq x).mp z)]; rfl
        exact this L fun x hx z => nd'.1 (z ▸ hx)
      rw [this]; omega
    · rw [if_neg fun z => e ((hq p).mp z), sum_if hq nd'.2 fun hn => h0 (by simp [hn]; exact fun z => e z.symm)]; omega
theorem sum_add {α : Type} (f g : α → Int) : ∀ L : List α, (L.map fun x => f x + g x).sum = (L.map f).sum + (L.map g).sum
  | [] => rfl
  | x :: L => by
    rw [List.map_cons, List.map_cons, List.map_cons, List.sum_cons, List.sum_cons, List.sum_cons, sum_add f g L]; omega
def W : Nat → Int × Int → Int
  | 0 => fun r => if r = (1, 1) then 1 else 0
  | i + 1 => fun r => W i (r.1 - 1, r.2) + W i (r.1, r.2 - 1) + (i : Int) * W i r
theorem round_w {m : Int} {w0 : Int × Int → Int} {L : List (Int × Int)} (nd : L.Nodup) (z : ∀ p, p ∉ L → w0 p = 0) (r : Int × Int) : (L.map (cb m w0 r)).sum = w0 (r.1 - 1, r.2) + w0 (r.1, r.2 - 1) + (m - 1) * w0 r := by
  have e : cb m w0 r = fun p => ((if r = (p.1 + 1, p.2) then w0 p else 0) + (if r = (p.1, p.2 + 1) then w0 p else 0)) + (if r = p then w0 p * (m - 1) else 0) := rfl
  rw [e, sum_add, sum_add]
  rw [sum_if (q := (r.1 - 1, r.2)) (c := fun p => r = (p.1 + 1, p.2)) (h := w0) (fun p => ⟨fun h => by rw [h]; exact Prod.ext (by show p.1 = p.1 + 1 - 1; omega) rfl, fun h => by rw [h]; exact Prod.ext (by show r.1 = r.1 - 1 + 1; omega) rfl⟩) nd (z _),
    sum_if (q := (r.1, r.2 - 1)) (c := fun p => r = (p.1, p.2 + 1)) (h := w0) (fun p => ⟨fun h => by rw [h]; exact Prod.ext rfl (by show p.2 = p.2 + 1 - 1; omega), fun h => by rw [h]; exact Prod.ext rfl (by show r.2 = r.2 - 1 + 1; omega)⟩) nd (z _),
    sum_if (q := r) (c := fun p => r = p) (h := fun p => w0 p * (m - 1)) (fun p => ⟨fun h => h.symm, fun h => h.symm⟩) nd (fun h => by rw [z r h, Int.zero_mul]), Int.mul_comm (w0 r)]
def mass (g : Int × Int → Int) (s : PW) : Int := (s.1.map fun p => g p * s.2 p).sum
theorem sum_zero {α : Type} {f : α → Int} : ∀ (l : List α), (∀ x ∈ l, f x = 0) → (l.map f).sum = 0
  | [], _ => rfl
  | x :: l, h => by rw [List.map_cons, List.sum_cons, h x List.mem_cons_self, sum_zero l fun y hy => h y (List.mem_cons_of_mem _ hy)]; rfl
theorem mass_ins {g : Int × Int → Int} {M : Int} {s : PW} (h : Ct M s.1 s.2) (q : Int × Int) (x : Int) : mass g (insK s.1 q, updW s.2 q (s.2 q + x)) = mass g s + g q * x := by
  have e1 : ∀ l : List (Int × Int), (l.map fun p => g p * updW s.2 q (s.2 q + x) p).sum = (l.map fun p => g p * s.2 p).sum + (l.map fun p => if p = q then g p * x else 0).sum := fun l => by
    rw [← sum_add]
    congr 1
    refine List.map_congr_left fun p _ => ?_
    rw [updW_add, Int.mul_add]
    by_cases e : p = q
    · rw [if_pos e, if_pos e]
    · rw [if_neg e, if_neg e, Int.mul_zero]
  unfold mass
  show ((insK s.1 q).map _).sum = _
  rw [e1]
  unfold insK
  by_cases e : q ∈ s.1
  · rw [if_pos e, sum_if (q := q) (c := fun p => p = q) (h := fun p => g p * x) (fun p => Iff.rfl) h.nd (fun z => absurd e z)]
  · rw [if_neg e, List.map_append, List.map_append, List.sum_append, List.sum_append]
    rw [sum_zero (f := fun p => if p = q then g p * x else 0) s.1 fun p hp => if_neg fun z : p = q => e (by rw [← z]; exact hp)]
    show _ + (g q * s.2 q + 0) + (0 + ((if q = q then g q * x else 0) + 0)) = _
    rw [h.zero q e, if_pos rfl, Int.mul_zero]
    omega
def ins1 (s : PW) (q : Int × Int) (x : Int) : PW := (insK s.1 q, updW s.2 q (s.2 q + x))
theorem mass_ins1 {g : Int × Int → Int} {M : Int} {s : PW} (h : Ct M s.1 s.2) (q : Int × Int) (x : Int) : mass g (ins1 s q x) = mass g s + g q * x := mass_ins h q x
theorem ct_ins1 {M : Int} {s : PW} (h : Ct M s.1 s.2) {q : Int × Int} (hq : 1 ≤ q.1 ∧ q.1 ≤ M ∧ 1 ≤ q.2 ∧ q.2 ≤ M) (x : Int) : Ct M (ins1 s q x).1 (ins1 s q x).2 := h.ins hq _
theorem addP_eq {m : Int} {w0 : Int × Int → Int} {p : Int × Int} {s : PW} : addP m w0 p s = ins1 (ins1 (ins1 s (p.1 + 1, p.2) (w0 p * 1)) (p.1, p.2 + 1) (w0 p * 1)) p (w0 p * (m - 1)) := rfl
theorem mass_addP {g : Int × Int → Int} {M m : Int} {w0 : Int × Int → Int} {p : Int × Int} {s : PW} (h : Ct M s.1 s.2) (hp : 1 ≤ p.1 ∧ p.1 + 1 ≤ M ∧ 1 ≤ p.2 ∧ p.2 + 1 ≤ M) : mass g (addP m w0 p s) = mass g s + (g (p.1 + 1, p.2) * w0 p + g (p.1, p.2 + 1) * w0 p + g p * (w0 p * (m - 1))) := by
  have c2 := ct_ins1 h (q := (p.1 + 1, p.2)) ⟨by show 1 ≤ p.1 + 1; omega, hp.2.1, hp.2.2.1, by show p.2 ≤ M; omega⟩ (w0 p * 1)
  have c3 := ct_ins1 c2 (q := (p.1, p.2 + 1)) ⟨hp.1, by show p.1 ≤ M; omega, by show 1 ≤ p.2 + 1; omega, hp.2.2.2⟩ (w0 p * 1)
  rw [addP_eq, mass_ins1 c3, mass_ins1 c2, mass_ins1 h, Int.mul_one]
  omega
theorem mass_fold {g : Int × Int → Int} {M m : Int} {w0 : Int × Int → Int} : ∀ (L : List (Int × Int)) (s : PW), (∀ p ∈ L, 1 ≤ p.1 ∧ p.1 + 1 ≤ M ∧ 1 ≤ p.2 ∧ p.2 + 1 ≤ M) → Ct M s.1 s.2 → mass g (foldP m w0 L s) = mass g s + (L.map fun p => g (p.1 + 1, p.2) * w0 p + g (p.1, p.2 + 1) * w0 p + g p * (w0 p * (m - 1))).sum
  | [], s, _, h => by show mass g s = mass g s + 0; omega
  | p :: L, s, hb, h => by
    show mass g (foldP m w0 L (addP m w0 p s)) = _
    rw [mass_fold L _ (fun q hq => hb q (List.mem_cons_of_mem _ hq)) (addP_ct h (hb p List.mem_cons_self)), mass_addP h (hb p List.mem_cons_self), List.map_cons, List.sum_cons]
    omega
theorem sum_perm {α : Type} {f : α → Int} {l m : List α} (h : l.Perm m) : (l.map f).sum = (m.map f).sum := by
  induction h with
  | nil => rfl
  | cons x _ ih => rw [List.map_cons, List.map_cons, List.sum_cons, List.sum_cons, ih]
  | swap x y l => rw [List.map_cons, List.map_cons, List.map_cons, List.map_cons, List.sum_cons, List.sum_cons, List.sum_cons, List.sum_cons]; omega
  | trans _ _ h1 h2 => rw [h1, h2]
def roundB : En → R Fl := sSeq (sSet 3 (oO (oD .dnewT dN))) (sSeq (sFor (.tp [4, 5]) (itE .seq (d1 (oG .sorted (gC (argVar 1) (gN))))) inB) (sSet 1 (oV (varR 3))))
theorem take_succ' {α : Type} {L : List α} {j : Nat} (h : j < L.length) : L.take (j + 1) = L.take j ++ [L[j]] := by
  rw [List.take_add_one, List.getElem?_eq_getElem h]; rfl
theorem round_ok {i : Nat} (hi : i ≤ 50) {ps : List (Int × Int)} (h : Ct (i + 1) ps (W i)) {s0 s3 s4 s5 s6 s7 s8 : Sl} : ∃ ps' t3 t4 t5 t6 t7 t8, (Ct (i + 2) ps' (W (i + 1)) ∧ ∀ g, mass g (ps', W (i + 1)) = (ps.map fun p => g (p.1 + 1, p.2) * W i p + g (p.1, p.2 + 1) * W i p + g p * (W i p * i)).sum) ∧
    roundB [s0, .val (.dct true (DictOf ps (W i))), .val (.int (1 + (i : Int) * 1)), s3, s4, s5, s6, s7, s8] = .ok .nx [s0, .val (.dct true (DictOf ps' (W (i + 1)))), .val (.int (1 + (i : Int) * 1)), t3, t4, t5, t6, t7, t8] := by
  generalize hL : ps.mergeSort leP = L
  have pm : L.Perm ps := by rw [← hL]; exact List.mergeSort_perm _ _
  have hbx : ∀ p ∈ L, 1 ≤ p.1 ∧ p.1 + 1 ≤ (i + 2 : Int) ∧ 1 ≤ p.2 ∧ p.2 + 1 ≤ (i + 2 : Int) := fun p hp => by
    have := h.box p (pm.mem_iff.mp hp); omega
  have c0 : Ct (i + 2) ([] : List (Int × Int)) (fun _ => 0) := ⟨.nil, fun _ z => (nomatch z), fun _ _ => rfl⟩
  obtain ⟨ε', e1, j1, t4, t5, t6, t7, t8, e2⟩ : ∃ ε', forGo (.tp [4, 5]) inB (L.map ofPair) [s0, .val (.dct true (DictOf ps (W i))), .val (.int (1 + (i : Int) * 1)), .own1 (.dct true []), s4, s5, s6, s7, s8] = .ok .nx ε' ∧ ∃ (u : Unit), ∃ t4 t5 t6 t7 t8, ε' = [s0, .val (.dct true (DictOf ps (W i))), .val (.int (1 + (i : Int) * 1)), .own1 (.dct true (DictOf (foldP (i + 1) (W i) L ([], fun _ => 0)).1 (foldP (i + 1) (W i) L ([], fun _ => 0)).2)), t4, t5, t6, t7, t8] := by
    have := forGo_inv (tg := .tp [4, 5]) (b := inB) (L.map ofPair) (fun j ε => j ≤ L.length ∧ ∃ t4 t5 t6 t7 t8, ε = [s0, .val (.dct true (DictOf ps (W i))), .val (.int (1 + (i : Int) * 1)), .own1 (.dct true (DictOf (foldP (i + 1) (W i) (L.take j) ([], fun _ => 0)).1 (foldP (i + 1) (W i) (L.take j) ([], fun _ => 0)).2)), t4, t5, t6, t7, t8]) 0 (fun j hj ε p => ?_) _ ⟨Nat.zero_le _, s4, s5, s6, s7, s8, rfl⟩
    · obtain ⟨ε', e1, _, t4, t5, t6, t7, t8, e2⟩ := this
      rw [Nat.zero_add, List.length_map, List.take_length] at e2
      exact ⟨ε', e1, (), t4, t5, t6, t7, t8, e2⟩
    · obtain ⟨_, t4, t5, t6, t7, t8, rfl⟩ := p
      rw [Nat.zero_add] at *
      rw [List.length_map] at hj
      rw [List.getElem_map]
      have hm : L[j] ∈ L := List.getElem_mem hj
      have ct := foldP_ct (m := i + 1) (w0 := W i) (L.take j) ([], fun _ => 0) (fun p hp => hbx p (List.mem_of_mem_take hp)) c0
      obtain ⟨u6, u7, u8, e⟩ := inB_ok (M := i + 2) (m := i + 1) (by omega) (by omega) (ps0 := ps) (w0 := W i) (s := foldP (i + 1) (W i) (L.take j) ([], fun _ => 0)) ct (p := L[j]) (pm.mem_iff.mp hm) (hbx _ hm) (s0 := s0) (s6 := t6) (s7 := t7) (s8 := t8)
      have e3 : foldP (i + 1) (W i) (L.take (j + 1)) ([], fun _ => 0) = addP (i + 1) (W i) L[j] (foldP (i + 1) (W i) (L.take j) ([], fun _ => 0)) := by
        rw [take_succ' hj]; unfold foldP; rw [List.foldl_append]; rfl
      rw [show (1 + (i : Int) * 1) = (i : Int) + 1 from by omega]
      refine ⟨_, _, rfl, .inl e, hj, .val (.int L[j].1), .val (.int L[j].2), u6, u7, u8, ?_⟩
      rw [e3]
  refine ⟨(foldP (i + 1) (W i) L ([], fun _ => 0)).1, .val (.dct true (DictOf (foldP (i + 1) (W i) L ([], fun _ => 0)).1 (W (i + 1)))), t4, t5, t6, t7, t8, ?_, ?_⟩
  rotate_left
  · unfold roundB
    subst e2
    have em : DictOf [] (fun _ => 0) = [] := rfl
    simp only [v_bind, v_bindx, v_gt0, v_gtS, v_set0, v_setS, v_lit, v_var, v_varV, v_varO, v_varR, v_arg, v_argV, v_argO, v_gV, v_dN, v_dC, v_gN, v_gC, v_d1, v_o1, v_o2, v_o3, v_oD, v_oG, v_opR, v_opRx, v_opF, v_opG, v_opD, v_opDx, v_ds0, v_dsV, v_dsB, v_dsBV, v_dsBO, v_map, v_ch, v_chT, v_chF, v_tB, v_asB, v_asBx, v_tAnd, v_tOr, v_tNot, v_eAnd, v_eOr, v_eNot, v_eIf, v_itE, v_itR, v_itG, v_r1, v_r2, v_seqT, v_seqL, v_clR, v_callR, v_callRx, v_clG, v_clGx, v_clf, v_callf, v_clfG, v_clio, v_cioF, v_cioG, v_cioH, v_oV, v_vlR, v_vlRx, v_oO, v_owL, v_owD, v_sSet, v_setR, v_setRx, v_okV, v_okS, v_sUnp, v_unpR, v_unpG, v_put1, v_putT, v_puts0, v_putsS, v_sPar, v_parR, v_sPut, v_putR, v_putG, v_own, v_putL, v_putD, v_aug, v_augG, v_augH, v_app, v_appF, v_appG, v_sExp, v_expR, v_expRx, v_sRet, v_retR, v_retRx, v_sRetf, v_retf, v_sEnd, v_sRaise, v_sIf, v_ifR, v_ifRx, v_sFor, v_forR, v_sSeq, v_seqN, v_seqR, v_seqx, v_sYes, v_get1, v_get2, v_isD, v_getR1, v_getR2, v_dct1, v_add, v_addT, v_addL, v_sub, v_mul, v_fdiv, v_mod, v_pow, v_neg, v_lt, v_le, v_gtp, v_ge, v_eqI, v_neI, v_eqB, v_neB, v_isN, v_inT, v_ninT, v_ixT, v_ixL, v_ixD, v_revT, v_tup, v_lst, v_dnew, v_dnewT, v_lenT, v_lenL, v_lenD, v_tofT, v_tofL, v_lofS, v_sumL, v_min2, v_max2, v_intI, v_intB, v_allL, v_isi, isi, if_true, if_false, Bool.and_self, Bool.and_true, Bool.true_and, Bool.and_false, Bool.false_and, Bool.or_true, Bool.true_or, Bool.or_false, Bool.false_or, Bool.not_true, Bool.not_false, Bool.false_eq_true, List.length_cons, List.length_nil, Nat.reduceAdd, Nat.reduceLeDiff, decide_true, decide_false, List.set_cons_zero, List.set_cons_succ, sorted_of, hL, e1]
    have ew : (foldP (i + 1) (W i) L ([], fun _ => 0)).2 = W (i + 1) := by
      funext r
      rw [foldP_w, round_w (pm.nodup_iff.mpr h.nd) (fun p hp => h.zero p fun z => hp (pm.mem_iff.mpr z))]
      show 0 + (W i (r.1 - 1, r.2) + W i (r.1, r.2 - 1) + ((i : Int) + 1 - 1) * W i r) = W i (r.1 - 1, r.2) + W i (r.1, r.2 - 1) + (i : Int) * W i r
      rw [show (i : Int) + 1 - 1 = i from by omega]; omega
    rw [ew]
  · have ct := foldP_ct (m := i + 1) (w0 := W i) L ([], fun _ => 0) hbx c0
    have mf := fun g => mass_fold (g := g) (m := i + 1) (w0 := W i) L ([], fun _ => 0) hbx c0
    have ew : (foldP (i + 1) (W i) L ([], fun _ => 0)).2 = W (i + 1) := by
      funext r
      rw [foldP_w, round_w (pm.nodup_iff.mpr h.nd) (fun p hp => h.zero p fun z => hp (pm.mem_iff.mpr z))]
      show 0 + (W i (r.1 - 1, r.2) + W i (r.1, r.2 - 1) + ((i : Int) + 1 - 1) * W i r) = W i (r.1 - 1, r.2) + W i (r.1, r.2 - 1) + (i : Int) * W i r
      rw [show (i : Int) + 1 - 1 = i from by omega]; omega
    refine ⟨by rw [ew] at ct; exact ct, fun g => ?_⟩
    have := mf g
    rw [sum_perm pm] at this
    rw [show (i : Int) + 1 - 1 = i from by omega] at this
    rw [← ew]
    rw [show ((foldP (i + 1) (W i) L ([], fun _ => 0)).1, (foldP (i + 1) (W i) L ([], fun _ => 0)).2) = foldP (i + 1) (W i) L ([], fun _ => 0) from rfl, this]
    show 0 + _ = _
    omega
def fac : Nat → Nat
  | 0 => 1
  | n + 1 => fac n * (n + 1)
theorem both_ok {k n : Nat} (h1 : 1 ≤ n) (hn : n ≤ 50) : ∃ ps, Ct n ps (W (n - 1)) ∧ (mass (fun _ => 1) (ps, W (n - 1)) = (fac n : Nat)) ∧ (∀ f : Nat, mass (fun p => if p.1 = f then 1 else 0) (ps, W (n - 1)) = S n f) ∧ callN tb (k + 1) 13 [.int n] = .ok (.dct true (DictOf ps (W (n - 1)))) := by
  have c0 : Ct (0 + 1) [((1 : Int), (1 : Int))] (W 0) := ⟨by simp, fun p hp => by rw [List.mem_singleton.mp hp]; decide, fun p hp => by
    rw [List.mem_singleton] at hp
    exact if_neg hp⟩
  have e0 : ∀ cl, b__law_both cl = sSeq (sSet 1 (oV (dct1R true (oD .tup (dC (litR (.int 1)) (dC (litR (.int 1)) (dN)))) (litR (.int 1))))) (sSeq (sFor (.nm 2) (itE .rng2 (dC (litR (.int 1)) (dC (varR 0) (dN)))) roundB) (sRet (varR 1))) := fun _ => rfl
  obtain ⟨ε', e1, ps, t2, t3, t4, t5, t6, t7, t8, ⟨ct, m1, m2⟩, e2⟩ := forGo_inv (tg := .nm 2) (b := roundB) (rngD 1 1 (n - 1)) (fun j ε => ∃ ps t2 t3 t4 t5 t6 t7 t8, (Ct (j + 1) ps (W j) ∧ (mass (fun _ => 1) (ps, W j) = (fac (j + 1) : Nat)) ∧ ∀ f : Nat, mass (fun p => if p.1 = f then 1 else 0) (ps, W j) = S (j + 1) f) ∧ ε = [.val (.int n), .val (.dct true (DictOf ps (W j))), t2, t3, t4, t5, t6, t7, t8]) 0 (fun j hj ε p => by
    obtain ⟨ps, t2, t3, t4, t5, t6, t7, t8, ⟨ct, m1, m2⟩, rfl⟩ := p
    rw [rngD_len] at hj
    rw [rngD_at, Nat.zero_add] at *
    obtain ⟨ps', u3, u4, u5, u6, u7, u8, ⟨ct', mm⟩, e⟩ := round_ok (i := j) (by omega) ct (s0 := .val (.int n)) (s3 := t3) (s4 := t4) (s5 := t5) (s6 := t6) (s7 := t7) (s8 := t8)
    refine ⟨_, _, rfl, .inl e, ps', .val (.int (1 + (j : Int) * 1)), u3, u4, u5, u6, u7, u8, ⟨?_, ?_, ?_⟩, rfl⟩
    · have : ((j + 1 : Nat) : Int) + 1 = (j : Int) + 2 := by omega
      rw [this]; exact ct'
    · rw [mm]
      show _ = ((fac (j + 1) * (j + 1 + 1) : Nat) : Int)
      rw [Int.natCast_mul, ← m1]
      show _ = mass (fun _ => 1) (ps, W j) * (((j + 1 : Nat) : Int) + 1)
      unfold mass
      have : ∀ l : List (Int × Int), (l.map fun p => 1 * W j p + 1 * W j p + 1 * (W j p * (j : Int))).sum = (l.map fun p => 1 * W j p).sum * (((j + 1 : Nat) : Int) + 1) := by
        intro l
        induction l with
        | nil => simp
        | cons x l ih =>
          rw [List.map_cons, List.map_cons, List.sum_cons, List.sum_cons, ih, Int.add_mul]
          have : 1 * W j x + 1 * W j x + 1 * (W j x * (j : Int)) = 1 * W j x * (((j + 1 : Nat) : Int) + 1) := by
            rw [Int.one_mul, Int.one_mul, Int.natCast_add, Int.mul_add, Int.mul_add, Int.mul_one]
            simp only [Int.natCast_one, Int.mul_one]
            omega
          omega
      exact this ps
    · intro f
      rw [mm]
      have key : ∀ l : List (Int × Int), (l.map fun p => (if p.1 + 1 = (f : Int) then 1 else 0) * W j p + (if p.1 = (f : Int) then 1 else 0) * W j p + (if p.1 = (f : Int) then 1 else 0) * (W j p * (j : Int))).sum = (l.map fun p => (if p.1 + 1 = (f : Int) then 1 else 0) * W j p).sum + (l.map fun p => (if p.1 = (f : Int) then 1 else 0) * W j p).sum * ((j : Int) + 1) := by
        intro l
        induction l with
        | nil => simp
        | cons x l ih =>
          rw [List.map_cons, List.map_cons, List.map_cons, List.sum_cons, List.sum_cons, List.sum_cons, ih, Int.add_mul]
          have : (if x.1 = (f : Int) then 1 else 0) * W j x + (if x.1 = (f : Int) then 1 else 0) * (W j x * (j : Int)) = (if x.1 = (f : Int) then 1 else 0) * W j x * ((j : Int) + 1) := by
            by_cases h : x.1 = (f : Int)
            · rw [if_pos h, Int.one_mul, Int.one_mul, Int.mul_add, Int.mul_one]; omega
            · rw [if_neg h, Int.zero_mul, Int.zero_mul, Int.zero_mul]; rfl
          omega
      rw [key ps]
      have a1 := m2 f
      unfold mass at a1
      rw [a1]
      cases f with
      | zero =>
        have z : (ps.map fun p => (if p.1 + 1 = ((0 : Nat) : Int) then 1 else 0) * W j p).sum = 0 := sum_zero _ fun p hp => by
          rw [if_neg (by have := ct.box p hp; omega), Int.zero_mul]
        rw [z]
        show (0 : Int) + (S (j + 1) 0 : Nat) * ((j : Int) + 1) = ((j + 1) * S (j + 1) 0 : Nat)
        rw [Int.natCast_mul, Int.mul_comm]
        simp
      | succ f =>
        have a2 := m2 f
        unfold mass at a2
        have z : (ps.map fun p => (if p.1 + 1 = ((f + 1 : Nat) : Int) then 1 else 0) * W j p).sum = (S (j + 1) f : Nat) := by
          rw [← a2]
          congr 1
          refine List.map_congr_left fun p _ => ?_
          show (if p.1 + 1 = ((f + 1 : Nat) : Int) then 1 else 0) * W j p = (if p.1 = (f : Int) then 1 else 0) * W j p
          by_cases h : p.1 = (f : Int)
          · rw [if_pos h, if_pos (by omega)]
          · rw [if_neg h, if_neg (by omega)]
        rw [z]
        show ((S (j + 1) f : Nat) : Int) + (S (j + 1) (f + 1) : Nat) * ((j : Int) + 1) = ((j + 1) * S (j + 1) (f + 1) + S (j + 1) f : Nat)
        rw [Int.natCast_add, Int.natCast_mul, Int.mul_comm ((j + 1 : Nat) : Int)]
        simp
        omega) [.val (.int n), .val (.dct true (DictOf [((1 : Int), (1 : Int))] (W 0))), .und, .und, .und, .und, .und, .und, .und] ⟨[(1, 1)], .und, .und, .und, .und, .und, .und, .und, ⟨c0, rfl, fun f => by
      show (if (1 : Int) = (f : Int) then 1 else 0) * (1 : Int) + 0 = _
      match f with
      | 0 => rfl
      | 1 => rfl
      | f + 2 =>
        rw [if_neg (by omega)]
        rw [S_big (by omega : 1 < f + 2)]
        rfl⟩, rfl⟩
  rw [Nat.zero_add, rngD_len] at ct m1 m2 e2
  have en : n - 1 + 1 = n := by omega
  refine ⟨ps, ?_, ?_, ?_, ?_⟩
  · have : ((n - 1 : Nat) : Int) + 1 = n := by omega
    rw [this] at ct; exact ct
  · rw [en] at m1; exact m1
  · rw [en] at m2; exact m2
  · rw [call0 (d := ⟨"_law_both", 1, 9, 0, b__law_both⟩) rfl rfl rfl]
    have eb : en0 9 [D.int (n : Int)] = [.val (.int n), .und, .und, .und, .und, .und, .und, .und, .und] := rfl
    simp only [eb]
    rw [e0]
    subst e2
    have b1 : bnd 1 = true := by decide
    have b2 : bnd (n : Int) = true := decide_eq_true (by omega)
    have l2 : (2 ≤ line) = True := by decide
    have hk : hkey true (.tup [.int 1, .int 1]) = true := rfl
    have et : ((n : Int) - 1).toNat = n - 1 := by omega
    have ed : [(D.tup [D.int 1, D.int 1], D.int 1)] = DictOf [((1 : Int), (1 : Int))] (W 0) := rfl
    have h1 : sSet 1 (oV (dct1R true (oD .tup (dC (litR (.int 1)) (dC (litR (.int 1)) (dN)))) (litR (.int 1)))) [.val (.int n), .und, .und, .und, .und, .und, .und, .und, .und] = .ok .nx [.val (.int n), .val (.dct true (DictOf [((1 : Int), (1 : Int))] (W 0))), .und, .und, .und, .und, .und, .und, .und] := by
      rw [← ed]
      simp only [v_bind, v_bindx, v_gt0, v_gtS, v_set0, v_setS, v_lit, v_var, v_varV, v_varO, v_varR, v_arg, v_argV, v_argO, v_gV, v_dN, v_dC, v_gN, v_gC, v_d1, v_o1, v_o2, v_o3, v_oD, v_oG, v_opR, v_opRx, v_opF, v_opG, v_opD, v_opDx, v_ds0, v_dsV, v_dsB, v_dsBV, v_dsBO, v_map, v_ch, v_chT, v_chF, v_tB, v_asB, v_asBx, v_tAnd, v_tOr, v_tNot, v_eAnd, v_eOr, v_eNot, v_eIf, v_itE, v_itR, v_itG, v_r1, v_r2, v_seqT, v_seqL, v_clR, v_callR, v_callRx, v_clG, v_clGx, v_clf, v_callf, v_clfG, v_clio, v_cioF, v_cioG, v_cioH, v_oV, v_vlR, v_vlRx, v_oO, v_owL, v_owD, v_sSet, v_setR, v_setRx, v_okV, v_okS, v_sUnp, v_unpR, v_unpG, v_put1, v_putT, v_puts0, v_putsS, v_sPar, v_parR, v_sPut, v_putR, v_putG, v_own, v_putL, v_putD, v_aug, v_augG, v_augH, v_app, v_appF, v_appG, v_sExp, v_expR, v_expRx, v_sRet, v_retR, v_retRx, v_sRetf, v_retf, v_sEnd, v_sRaise, v_sIf, v_ifR, v_ifRx, v_sFor, v_forR, v_sSeq, v_seqN, v_seqR, v_seqx, v_sYes, v_get1, v_get2, v_isD, v_getR1, v_getR2, v_dct1, v_add, v_addT, v_addL, v_sub, v_mul, v_fdiv, v_mod, v_pow, v_neg, v_lt, v_le, v_gtp, v_ge, v_eqI, v_neI, v_eqB, v_neB, v_isN, v_inT, v_ninT, v_ixT, v_ixL, v_ixD, v_revT, v_tup, v_lst, v_dnew, v_dnewT, v_lenT, v_lenL, v_lenD, v_tofT, v_tofL, v_lofS, v_sumL, v_min2, v_max2, v_intI, v_intB, v_allL, v_isi, isi, if_true, if_false, Bool.and_self, Bool.and_true, Bool.true_and, Bool.and_false, Bool.false_and, Bool.or_true, Bool.true_or, Bool.or_false, Bool.false_or, Bool.not_true, Bool.not_false, Bool.false_eq_true, List.length_cons, List.length_nil, Nat.reduceAdd, Nat.reduceLeDiff, decide_true, decide_false, List.set_cons_zero, List.set_cons_succ, l2, hk]
    have h2 : itE .rng2 (dC (litR (.int 1)) (dC (varR 0) (dN))) [.val (.int n), .val (.dct true (DictOf [((1 : Int), (1 : Int))] (W 0))), .und, .und, .und, .und, .und, .und, .und] = .ok (rngD 1 1 (n - 1)) [.val (.int n), .val (.dct true (DictOf [((1 : Int), (1 : Int))] (W 0))), .und, .und, .und, .und, .und, .und, .und] := by
      simp only [v_bind, v_bindx, v_gt0, v_gtS, v_set0, v_setS, v_lit, v_var, v_varV, v_varO, v_varR, v_arg, v_argV, v_argO, v_gV, v_dN, v_dC, v_gN, v_gC, v_d1, v_o1, v_o2, v_o3, v_oD, v_oG, v_opR, v_opRx, v_opF, v_opG, v_opD, v_opDx, v_ds0, v_dsV, v_dsB, v_dsBV, v_dsBO, v_map, v_ch, v_chT, v_chF, v_tB, v_asB, v_asBx, v_tAnd, v_tOr, v_tNot, v_eAnd, v_eOr, v_eNot, v_eIf, v_itE, v_itR, v_itG, v_r1, v_r2, v_seqT, v_seqL, v_clR, v_callR, v_callRx, v_clG, v_clGx, v_clf, v_callf, v_clfG, v_clio, v_cioF, v_cioG, v_cioH, v_oV, v_vlR, v_vlRx, v_oO, v_owL, v_owD, v_sSet, v_setR, v_setRx, v_okV, v_okS, v_sUnp, v_unpR, v_unpG, v_put1, v_putT, v_puts0, v_putsS, v_sPar, v_parR, v_sPut, v_putR, v_putG, v_own, v_putL, v_putD, v_aug, v_augG, v_augH, v_app, v_appF, v_appG, v_sExp, v_expR, v_expRx, v_sRet, v_retR, v_retRx, v_sRetf, v_retf, v_sEnd, v_sRaise, v_sIf, v_ifR, v_ifRx, v_sFor, v_forR, v_sSeq, v_seqN, v_seqR, v_seqx, v_sYes, v_get1, v_get2, v_isD, v_getR1, v_getR2, v_dct1, v_add, v_addT, v_addL, v_sub, v_mul, v_fdiv, v_mod, v_pow, v_neg, v_lt, v_le, v_gtp, v_ge, v_eqI, v_neI, v_eqB, v_neB, v_isN, v_inT, v_ninT, v_ixT, v_ixL, v_ixD, v_revT, v_tup, v_lst, v_dnew, v_dnewT, v_lenT, v_lenL, v_lenD, v_tofT, v_tofL, v_lofS, v_sumL, v_min2, v_max2, v_intI, v_intB, v_allL, v_isi, isi, if_true, if_false, Bool.and_self, Bool.and_true, Bool.true_and, Bool.and_false, Bool.false_and, Bool.or_true, Bool.true_or, Bool.or_false, Bool.false_or, Bool.not_true, Bool.not_false, Bool.false_eq_true, List.length_cons, List.length_nil, Nat.reduceAdd, Nat.reduceLeDiff, decide_true, decide_false, List.set_cons_zero, List.set_cons_succ, b1, b2, et]
    rw [v_sSeq, h1, v_seqN, v_sSeq, v_sFor, h2, v_forR, e1, v_seqN]
    simp only [v_bind, v_bindx, v_gt0, v_gtS, v_set0, v_setS, v_lit, v_var, v_varV, v_varO, v_varR, v_arg, v_argV, v_argO, v_gV, v_dN, v_dC, v_gN, v_gC, v_d1, v_o1, v_o2, v_o3, v_oD, v_oG, v_opR, v_opRx, v_opF, v_opG, v_opD, v_opDx, v_ds0, v_dsV, v_dsB, v_dsBV, v_dsBO, v_map, v_ch, v_chT, v_chF, v_tB, v_asB, v_asBx, v_tAnd, v_tOr, v_tNot, v_eAnd, v_eOr, v_eNot, v_eIf, v_itE, v_itR, v_itG, v_r1, v_r2, v_seqT, v_seqL, v_clR, v_callR, v_callRx, v_clG, v_clGx, v_clf, v_callf, v_clfG, v_clio, v_cioF, v_cioG, v_cioH, v_oV, v_vlR, v_vlRx, v_oO, v_owL, v_owD, v_sSet, v_setR, v_setRx, v_okV, v_okS, v_sUnp, v_unpR, v_unpG, v_put1, v_putT, v_puts0, v_putsS, v_sPar, v_parR, v_sPut, v_putR, v_putG, v_own, v_putL, v_putD, v_aug, v_augG, v_augH, v_app, v_appF, v_appG, v_sExp, v_expR, v_expRx, v_sRet, v_retR, v_retRx, v_sRetf, v_retf, v_sEnd, v_sRaise, v_sIf, v_ifR, v_ifRx, v_sFor, v_forR, v_sSeq, v_seqN, v_seqR, v_seqx, v_sYes, v_get1, v_get2, v_isD, v_getR1, v_getR2, v_dct1, v_add, v_addT, v_addL, v_sub, v_mul, v_fdiv, v_mod, v_pow, v_neg, v_lt, v_le, v_gtp, v_ge, v_eqI, v_neI, v_eqB, v_neB, v_isN, v_inT, v_ninT, v_ixT, v_ixL, v_ixD, v_revT, v_tup, v_lst, v_dnew, v_dnewT, v_lenT, v_lenL, v_lenD, v_tofT, v_tofL, v_lofS, v_sumL, v_min2, v_max2, v_intI, v_intB, v_allL, v_isi, isi, if_true, if_false, Bool.and_self, Bool.and_true, Bool.true_and, Bool.and_false, Bool.false_and, Bool.or_true, Bool.true_or, Bool.or_false, Bool.false_or, Bool.not_true, Bool.not_false, Bool.false_eq_true, List.length_cons, List.length_nil, Nat.reduceAdd, Nat.reduceLeDiff, decide_true, decide_false, List.set_cons_zero, List.set_cons_succ, bodyR]
end Ev.K94
set_option Elab.async false
set_option linter.all false
set_option maxRecDepth 100000
set_option maxHeartbeats 4000000
namespace Ev.K94
open PySem PySem.Spec PyProof.Rows L2
theorem W_zero : ∀ (i : Nat) (r : Int × Int), r.1 ≤ 0 ∨ r.2 ≤ 0 → W i r = 0
  | 0, r, h => by
    show (if r = (1, 1) then (1 : Int) else 0) = 0
    rw [if_neg fun z => by rw [z] at h; rcases h with h | h <;> exact absurd h (by decide)]
  | i + 1, r, h => by
    show W i (r.1 - 1, r.2) + W i (r.1, r.2 - 1) + (i : Int) * W i r = 0
    rw [W_zero i r h, W_zero i (r.1 - 1, r.2) (by rcases h with h | h; exact .inl (by show r.1 - 1 ≤ 0; omega); exact .inr h), W_zero i (r.1, r.2 - 1) (by rcases h with h | h; exact .inl h; exact .inr (by show r.2 - 1 ≤ 0; omega)), Int.mul_zero]; rfl
theorem B_zero {n f l : Nat} (h : f = 0 ∨ l = 0) : B n f l = 0 := by unfold B; rw [if_pos h]
theorem B_pos {n f l : Nat} (h0 : 1 ≤ n := by omega) : B n (f + 1) (l + 1) = C (f + l) f * S (n - 1) (f + l) := by
  unfold B
  rw [if_neg (by omega), show f + 1 + (l + 1) - 2 = f + l from by omega, show f + 1 - 1 = f from by omega]
  by_cases h : n < f + 1 + (l + 1) - 1
  · have hs : n - 1 < f + l ∨ (n = 0 ∧ f + l = 0) := by omega
    rw [if_pos h]
    rcases hs with hs | ⟨h1, h2⟩
    · rw [S_big hs, Nat.mul_zero]
    · omega
  · rw [if_neg h]
theorem C_self : ∀ f : Nat, C f f = 1
  | 0 => rfl
  | f + 1 => by
    show C f f + C f (f + 1) = 1
    rw [C_self f, C_big (Nat.lt_succ_self f)]
theorem W_B : ∀ (i f l : Nat), W i ((f : Int), (l : Int)) = (B (i + 1) f l : Nat)
  | i, 0, l => by rw [W_zero i _ (.inl (Int.le_refl _)), B_zero (.inl rfl)]; rfl
  | i, f + 1, 0 => by rw [W_zero i _ (.inr (Int.le_refl _)), B_zero (.inr rfl)]; rfl
  | 0, f + 1, l + 1 => by
    show (if (((f + 1 : Nat) : Int), ((l + 1 : Nat) : Int)) = (1, 1) then (1 : Int) else 0) = _
    rw [B_pos]
    cases f with
    | zero =>
      cases l with
      | zero => rfl
      | succ l =>
        rw [if_neg (fun z => by have := congrArg Prod.snd z; simp at this; omega)]
        rw [show 0 + 1 - 1 = 0 from rfl, S_big (by omega : 0 < 0 + (l + 1)), Nat.mul_zero]; rfl
    | succ f =>
      rw [if_neg (fun z => by have := congrArg Prod.fst z; simp at this; omega)]
      rw [show 0 + 1 - 1 = 0 from rfl, S_big (by omega : 0 < f + 1 + l), Nat.mul_zero]; rfl
  | i + 1, f + 1, l + 1 => by
    show W i (((f + 1 : Nat) : Int) - 1, ((l + 1 : Nat) : Int)) + W i (((f + 1 : Nat) : Int), ((l + 1 : Nat) : Int) - 1) + (i : Int) * W i (((f + 1 : Nat) : Int), ((l + 1 : Nat) : Int)) = _
    rw [show ((f + 1 : Nat) : Int) - 1 = (f : Int) from by omega, show ((l + 1 : Nat) : Int) - 1 = (l : Int) from by omega, W_B i f (l + 1), W_B i (f + 1) l, W_B i (f + 1) (l + 1), B_pos, B_pos]
    show _ = ((C (f + l) f * S (i + 1) (f + l) : Nat) : Int)
    show _ + _ + (i : Int) * ((C (f + l) f * S i (f + l) : Nat) : Int) = _
    cases f with
    | zero =>
      rw [B_zero (.inl rfl), Nat.zero_add, C_zero]
      cases l with
      | zero =>
        rw [B_zero (.inr rfl)]
        show (0 : Int) + 0 + (i : Int) * ((1 * S i 0 : Nat) : Int) = ((1 * (i * S i 0) : Nat) : Int)
        rw [Nat.one_mul, Nat.one_mul, Int.natCast_mul]; omega
      | succ l =>
        have e := B_pos (n := i + 1) (f := 0) (l := l)
        rw [Nat.zero_add, Nat.zero_add] at e
        rw [e, C_zero]
        simp only [Nat.zero_add, Nat.add_sub_cancel]
        show (0 : Int) + ((1 * S i l : Nat) : Int) + (i : Int) * ((1 * S i (l + 1) : Nat) : Int) = ((1 * (i * S i (l + 1) + S i l) : Nat) : Int)
        rw [Nat.one_mul, Nat.one_mul, Nat.one_mul, Int.natCast_add, Int.natCast_mul]; omega
    | succ f =>
      have e1 := B_pos (n := i + 1) (f := f) (l := l)
      rw [e1]
      cases l with
      | zero =>
        rw [B_zero (.inr rfl)]
        show ((C f f * S i f : Nat) : Int) + 0 + (i : Int) * ((C (f + 1) (f + 1) * S i (f + 1) : Nat) : Int) = ((C (f + 1) (f + 1) * (i * S i (f + 1) + S i f) : Nat) : Int)
        rw [C_self, C_self, Nat.one_mul, Nat.one_mul, Nat.one_mul, Int.natCast_add, Int.natCast_mul]; omega
      | succ l =>
        have e2 := B_pos (n := i + 1) (f := f + 1) (l := l)
        rw [e2]
        show ((C (f + (l + 1)) f * S i (f + (l + 1)) : Nat) : Int) + ((C (f + 1 + l) (f + 1) * S i (f + 1 + l) : Nat) : Int) + (i : Int) * ((C (f + 1 + (l + 1)) (f + 1) * S i (f + 1 + (l + 1)) : Nat) : Int) = ((C (f + 1 + (l + 1)) (f + 1) * S (i + 1) (f + 1 + (l + 1)) : Nat) : Int)
        rw [show f + 1 + (l + 1) = (f + l + 1) + 1 from by omega, show f + (l + 1) = f + l + 1 from by omega, show f + 1 + l = f + l + 1 from by omega]
        have ec : C (f + l + 1 + 1) (f + 1) = C (f + l + 1) f + C (f + l + 1) (f + 1) := rfl
        have es : S (i + 1) (f + l + 1 + 1) = i * S i (f + l + 1 + 1) + S i (f + l + 1) := rfl
        rw [ec, es]
        generalize C (f + l + 1) f = x
        generalize C (f + l + 1) (f + 1) = y
        generalize S i (f + l + 1) = a
        generalize S i (f + l + 1 + 1) = b
        rw [← Int.natCast_mul, ← Int.natCast_add, ← Int.natCast_add]
        congr 1
        rw [Nat.mul_add, Nat.add_mul x y a, ← Nat.mul_assoc, ← Nat.mul_assoc, Nat.mul_comm i (x + y)]
        omega
theorem col_sum {n : Nat} {ps : List (Int × Int)} {w : Int × Int → Int} (h : Ct n ps w) (f : Nat) : ((List.range (n + 1)).map fun l => w ((f : Int), ((l : Nat) : Int))).sum = mass (fun p => if p.1 = f then 1 else 0) (ps, w) := by
  have e1 : ∀ l : Nat, w ((f : Int), (l : Int)) = (ps.map fun p => if p = ((f : Int), (l : Int)) then w p else 0).sum := fun l => by
    rw [sum_if (q := ((f : Int), (l : Int))) (c := fun p => p = ((f : Int), (l : Int))) (h := w) (fun p => Iff.rfl) h.nd (h.zero _)]
  have e2 : ∀ (L : List Nat) (qs : List (Int × Int)), (L.map fun l : Nat => (qs.map fun p => if p = ((f : Int), (l : Int)) then w p else 0).sum).sum = (qs.map fun p => (L.map fun l : Nat => if p = ((f : Int), (l : Int)) then w p else 0).sum).sum := by
    intro L qs
    induction L with
    | nil => exact (sum_zero qs fun _ _ => rfl).symm
    | cons l L ih =>
      rw [List.map_cons, List.sum_cons, ih, ← sum_add]
      rfl
  have e3 : ((List.range (n + 1)).map fun l : Nat => w ((f : Int), (l : Int))) = (List.range (n + 1)).map fun l : Nat => (ps.map fun p => if p = ((f : Int), (l : Int)) then w p else 0).sum := List.map_congr_left fun l _ => e1 l
  rw [e3, e2]
  unfold mass
  congr 1
  refine List.map_congr_left fun p hp => ?_
  have hb := h.box p hp
  show _ = (if p.1 = (f : Int) then 1 else 0) * w p
  by_cases e : p.1 = (f : Int)
  · rw [if_pos e, Int.one_mul]
    have : ∀ (L : List Nat), L.Nodup → p.2.toNat ∈ L → (L.map fun l : Nat => if p = ((f : Int), (l : Int)) then w p else 0).sum = w p := by
      intro L
      induction L with
      | nil => intro _ z; cases z
      | cons l L ih =>
        intro nd hm
        rw [List.map_cons, List.sum_cons]
        have nd' := List.nodup_cons.mp nd
        by_cases el : l = p.2.toNat
        · rw [if_pos (Prod.ext e (by show p.2 = (l : Int); omega)), sum_zero L fun x hx => if_neg fun z => nd'.1 (by
            have := congrArg Prod.snd z
            have : p.2 = (x : Int) := this
            rw [el, show p.2.toNat = x from by omega]; exact hx)]; omega
        · rw [if_neg fun z => el (by have := congrArg Prod.snd z; have : p.2 = (l : Int) := this; omega), ih nd'.2 (by
            rcases List.mem_cons.mp hm with z | z
            · exact absurd z.symm el
            · exact z)]; omega
    exact this _ List.nodup_range (List.mem_range.mpr (by omega))
  · rw [if_neg e, Int.zero_mul]
    exact sum_zero _ fun l _ => if_neg fun z => e (congrArg Prod.fst z)
end Ev.K94
set_option Elab.async false
set_option linter.all false
set_option maxRecDepth 100000
set_option maxHeartbeats 4000000
namespace Ev.K94
open PySem PySem.Spec PyProof.Rows L2
def tD (row : List Nat) : D := .tup (row.map fun x => D.int (x : Nat))
def one1 (n : Nat) : List Nat := (List.range n).map (· + 1)
def nextR (n : Nat) (row : List Nat) : List (List Nat) := ((one1 n).filter fun x => !row.contains x).map fun x => row ++ [x]
def rowsN (n : Nat) : Nat → List (List Nat)
  | 0 => [[]]
  | j + 1 => (rowsN n j).flatMap (nextR n)
def seenN : List Nat → Nat × Nat := fun row => row.foldl (fun s x => if s.1 < x then (x, s.2 + 1) else s) (0, 0)
theorem nextR_len {n : Nat} {row : List Nat} : (nextR n row).length ≤ n := by
  unfold nextR
  rw [List.length_map]
  refine Nat.le_trans (List.length_filter_le _ _) ?_
  unfold one1
  rw [List.length_map, List.length_range]; exact Nat.le_refl _
theorem flat_len {n : Nat} : ∀ l : List (List Nat), (l.flatMap (nextR n)).length ≤ l.length * n
  | [] => Nat.zero_le _
  | x :: l => by
    rw [List.flatMap_cons, List.length_append, List.length_cons, Nat.add_mul, Nat.one_mul]
    have := flat_len (n := n) l
    have := nextR_len (n := n) (row := x)
    omega
theorem rowsN_len {n : Nat} (hn : n ≤ 6) : ∀ j, j ≤ 6 → (rowsN n j).length ≤ 6 ^ j
  | 0, _ => Nat.le_refl _
  | j + 1, h => by
    have h1 := rowsN_len hn j (by omega)
    have h2 := flat_len (n := n) (rowsN n j)
    show ((rowsN n j).flatMap (nextR n)).length ≤ _
    rw [Nat.pow_succ]
    exact Nat.le_trans h2 (Nat.mul_le_mul h1 hn)
theorem rowsN_line {n j : Nat} (hn : n ≤ 6) (hj : j ≤ 6) : (rowsN n j).length ≤ 46656 :=
  Nat.le_trans (rowsN_len hn j hj) (Nat.le_trans (Nat.pow_le_pow_right (by omega) hj) (by decide))
theorem rowlen {n : Nat} : ∀ j, ∀ r ∈ rowsN n j, r.length = j
  | 0, r, h => by rw [List.mem_singleton.mp h]; rfl
  | j + 1, r, h => by
    obtain ⟨r0, h0, h1⟩ := List.mem_flatMap.mp h
    unfold nextR at h1
    obtain ⟨x, _, rfl⟩ := List.mem_map.mp h1
    rw [List.length_append, rowlen j r0 h0]; rfl
theorem doks_ints : ∀ l : List Nat, doks (l.map fun x => D.int (x : Nat)) = true
  | [] => rfl
  | x :: l => by rw [List.map_cons]; show (true && doks _) = true; rw [doks_ints l]; rfl
theorem deps_ints : ∀ l : List Nat, deps (l.map fun x => D.int (x : Nat)) = 0
  | [] => rfl
  | x :: l => by rw [List.map_cons]; show max 0 (deps _) = 0; rw [deps_ints l]; rfl
theorem shp_row (l : List Nat) : shp (tD l) = true := by
  unfold shp tD
  have e1 : dok (D.tup (l.map fun x => D.int (x : Nat))) = true := doks_ints l
  have e2 : dep (D.tup (l.map fun x => D.int (x : Nat))) = 1 := by show deps _ + 1 = 1; rw [deps_ints]
  rw [e1, e2]; rfl
theorem shp_int (i : Int) : shp (.int i) = true := rfl
theorem any_row (l : List Nat) (x : Nat) : ((l.map fun x => D.int (x : Nat)).any fun z => eqv z (.int (x : Nat))) = l.contains x := by
  induction l with
  | nil => rfl
  | cons y l ih =>
    rw [List.map_cons, List.any_cons, ih, List.contains_cons]
    congr 1
    show ((y : Int) == (x : Int)) = (x == y)
    rw [beq_nat]
    by_cases h : y = x
    · subst h; simp
    · rw [decide_eq_false h]; symm; simp; exact fun z => h z.symm
abbrev stepC : En → R D := lc2E [3, 4, 5] (.nm 4) (itE .seq (d1 (varR 1))) (sYes) (.nm 5) (itE .rng2 (dC (litR (.int 1)) (dC (o2 .add (argVar 0) (gV (litR (.int 1)))) (dN)))) (tB (o2 .notIn (argVar 5) (argVar 4))) (o2 .add (argVar 4) (gV (oD .tup (dC (varR 5) (dN)))))
theorem lst_ev {n j : Nat} (hn : n ≤ 6) (hj : j < 6) {s2 : Sl} : stepC [.val (.int n), .val (.lst ((rowsN n j).map tD)), s2, .und, .und, .und] = .ok (.lst ((rowsN n (j + 1)).map tD)) [.val (.int n), .val (.lst ((rowsN n j).map tD)), s2, .und, .und, .und] := by
  have ef : ((rowsN n j).map tD).flatMap (fun d => match d with | .tup l => ((rngD 1 1 n).filterMap fun x => if (l.any fun z => eqv z x) then none else some (D.tup (l ++ [x]))) | _ => []) = (rowsN n (j + 1)).map tD := by
    show _ = ((rowsN n j).flatMap (nextR n)).map tD
    rw [List.flatMap_map, List.map_flatMap]
    congr 1
    funext r
    show ((rngD 1 1 n).filterMap fun x => if ((r.map fun x => D.int (x : Nat)).any fun z => eqv z x) then none else some (D.tup ((r.map fun x => D.int (x : Nat)) ++ [x]))) = _
    unfold nextR one1 rngD
    rw [List.map_map, List.filterMap_map]
    generalize List.range n = L
    induction L with
    | nil => rfl
    | cons i L ih =>
      have hx : ((fun x => if ((r.map fun x => D.int (x : Nat)).any fun z => eqv z x) then none else some (D.tup ((r.map fun x => D.int (x : Nat)) ++ [x]))) ∘ fun k : Nat => D.int (1 + (k : Int) * 1)) i = if r.contains (i + 1) then none else some (tD (r ++ [i + 1])) := by
        show (if ((r.map fun x => D.int (x : Nat)).any fun z => eqv z (.int (1 + (i : Int) * 1))) then none else some (D.tup ((r.map fun x => D.int (x : Nat)) ++ [.int (1 + (i : Int) * 1)]))) = _
        rw [show (1 + (i : Int) * 1) = ((i + 1 : Nat) : Int) from by omega, any_row]
        by_cases h : r.contains (i + 1) = true
        · rw [if_pos h, if_pos h]
        · rw [if_neg h, if_neg h]
          unfold tD
          rw [List.map_append]; rfl
      rw [List.map_cons]
      by_cases h : r.contains (i + 1) = true
      · rw [List.filterMap_cons_none (by rw [hx, if_pos h]), List.filter_cons_of_neg (by rw [h]; decide), ih]
      · rw [List.filterMap_cons_some (by rw [hx, if_neg h]), List.filter_cons_of_pos (by rw [Bool.eq_false_iff.mpr h]; rfl), List.map_cons, ih]; rfl
  refine (lc2E_of (xs := (rowsN n j).map tD) (l := (rowsN n (j + 1)).map tD) (ε1 := [.val (.int n), .val (.lst ((rowsN n j).map tD)), s2, .und, .und, .und]) (ε2 := [.val (.int n), .val (.lst ((rowsN n j).map tD)), s2, .und, .und, .und]) ?_ rfl ?_).trans rfl
  · simp only [v_bind, v_bindx, v_gt0, v_gtS, v_set0, v_setS, v_lit, v_var, v_varV, v_varO, v_varR, v_arg, v_argV, v_argO, v_gV, v_dN, v_dC, v_gN, v_gC, v_d1, v_o1, v_o2, v_o3, v_oD, v_oG, v_opR, v_opRx, v_opF, v_opG, v_opD, v_opDx, v_ds0, v_dsV, v_dsB, v_dsBV, v_dsBO, v_map, v_ch, v_chT, v_chF, v_tB, v_asB, v_asBx, v_tAnd, v_tOr, v_tNot, v_eAnd, v_eOr, v_eNot, v_eIf, v_itE, v_itR, v_itG, v_r1, v_r2, v_seqT, v_seqL, v_clR, v_callR, v_callRx, v_clG, v_clGx, v_clf, v_callf, v_clfG, v_clio, v_cioF, v_cioG, v_cioH, v_oV, v_vlR, v_vlRx, v_oO, v_owL, v_owD, v_sSet, v_setR, v_setRx, v_okV, v_okS, v_sUnp, v_unpR, v_unpG, v_put1, v_putT, v_puts0, v_putsS, v_sPar, v_parR, v_sPut, v_putR, v_putG, v_own, v_putL, v_putD, v_aug, v_augG, v_augH, v_app, v_appF, v_appG, v_sExp, v_expR, v_expRx, v_sRet, v_retR, v_retRx, v_sRetf, v_retf, v_sEnd, v_sRaise, v_sIf, v_ifR, v_ifRx, v_sFor, v_forR, v_sSeq, v_seqN, v_seqR, v_seqx, v_sYes, v_get1, v_get2, v_isD, v_getR1, v_getR2, v_dct1, v_add, v_addT, v_addL, v_sub, v_mul, v_fdiv, v_mod, v_pow, v_neg, v_lt, v_le, v_gtp, v_ge, v_eqI, v_neI, v_eqB, v_neB, v_isN, v_inT, v_ninT, v_ixT, v_ixL, v_ixD, v_revT, v_tup, v_lst, v_dnew, v_dnewT, v_lenT, v_lenL, v_lenD, v_tofT, v_tofL, v_lofS, v_sumL, v_min2, v_max2, v_intI, v_intB, v_allL, v_isi, isi, if_true, if_false, Bool.and_self, Bool.and_true, Bool.true_and, Bool.and_false, Bool.false_and, Bool.or_true, Bool.true_or, Bool.or_false, Bool.false_or, Bool.not_true, Bool.not_false, Bool.false_eq_true, List.length_cons, List.length_nil, Nat.reduceAdd, Nat.reduceLeDiff, decide_true, decide_false, List.set_cons_zero, List.set_cons_succ]
  · have hl : (rowsN n (j + 1)).length ≤ 46656 := rowsN_line hn hj
    have := lc2Go_fm (own := [3, 4, 5]) (own2 := [5]) (tg := .nm 4) (tg2 := .nm 5) (t := sYes) (t2 := tB (o2 .notIn (argVar 5) (argVar 4))) (it := itE .rng2 (dC (litR (.int 1)) (dC (o2 .add (argVar 0) (gV (litR (.int 1)))) (dN)))) (e := o2 .add (argVar 4) (gV (oD .tup (dC (varR 5) (dN))))) (ε := [.val (.int n), .val (.lst ((rowsN n j).map tD)), s2, .und, .und, .und]) _ ((rowsN n j).map tD) [] (fun x hx acc' hacc => ?_) (by rw [ef, List.length_map, List.length_nil]; show _ ≤ 16777216; omega)
    · rw [ef, List.nil_append] at this
      exact this
    · obtain ⟨r, hr, rfl⟩ := List.mem_map.mp hx
      have b2 : bnd 1 = true := by decide
      have b3 : bnd ((n : Int) + 1) = true := decide_eq_true (by omega)
      refine ⟨_, _, rngD 1 1 n, [.val (.int n), .val (.lst ((rowsN n j).map tD)), s2, .und, .val (tD r), .und], [.val (.int n), .val (.lst ((rowsN n j).map tD)), s2, .und, .val (tD r), .und], v_put1, v_sYes, ?_, ?_, rfl⟩
      · simp only [v_bind, v_bindx, v_gt0, v_gtS, v_set0, v_setS, v_lit, v_var, v_varV, v_varO, v_varR, v_arg, v_argV, v_argO, v_gV, v_dN, v_dC, v_gN, v_gC, v_d1, v_o1, v_o2, v_o3, v_oD, v_oG, v_opR, v_opRx, v_opF, v_opG, v_opD, v_opDx, v_ds0, v_dsV, v_dsB, v_dsBV, v_dsBO, v_map, v_ch, v_chT, v_chF, v_tB, v_asB, v_asBx, v_tAnd, v_tOr, v_tNot, v_eAnd, v_eOr, v_eNot, v_eIf, v_itE, v_itR, v_itG, v_r1, v_r2, v_seqT, v_seqL, v_clR, v_callR, v_callRx, v_clG, v_clGx, v_clf, v_callf, v_clfG, v_clio, v_cioF, v_cioG, v_cioH, v_oV, v_vlR, v_vlRx, v_oO, v_owL, v_owD, v_sSet, v_setR, v_setRx, v_okV, v_okS, v_sUnp, v_unpR, v_unpG, v_put1, v_putT, v_puts0, v_putsS, v_sPar, v_parR, v_sPut, v_putR, v_putG, v_own, v_putL, v_putD, v_aug, v_augG, v_augH, v_app, v_appF, v_appG, v_sExp, v_expR, v_expRx, v_sRet, v_retR, v_retRx, v_sRetf, v_retf, v_sEnd, v_sRaise, v_sIf, v_ifR, v_ifRx, v_sFor, v_forR, v_sSeq, v_seqN, v_seqR, v_seqx, v_sYes, v_get1, v_get2, v_isD, v_getR1, v_getR2, v_dct1, v_add, v_addT, v_addL, v_sub, v_mul, v_fdiv, v_mod, v_pow, v_neg, v_lt, v_le, v_gtp, v_ge, v_eqI, v_neI, v_eqB, v_neB, v_isN, v_inT, v_ninT, v_ixT, v_ixL, v_ixD, v_revT, v_tup, v_lst, v_dnew, v_dnewT, v_lenT, v_lenL, v_lenD, v_tofT, v_tofL, v_lofS, v_sumL, v_min2, v_max2, v_intI, v_intB, v_allL, v_isi, isi, if_true, if_false, Bool.and_self, Bool.and_true, Bool.true_and, Bool.and_false, Bool.false_and, Bool.or_true, Bool.true_or, Bool.or_false, Bool.false_or, Bool.not_true, Bool.not_false, Bool.false_eq_true, List.length_cons, List.length_nil, Nat.reduceAdd, Nat.reduceLeDiff, decide_true, decide_false, List.set_cons_zero, List.set_cons_succ, b2, b3]
        rw [show ((n : Int) + 1 - 1).toNat = n from by omega]
      · show lcGo [5] (.nm 5) (tB (o2 .notIn (argVar 5) (argVar 4))) (o2 .add (argVar 4) (gV (oD .tup (dC (varR 5) (dN))))) (rngD 1 1 n) acc' [.val (.int n), .val (.lst ((rowsN n j).map tD)), s2, .und, .val (tD r), .und] = _
        refine lcGo_fm' (fun x => if ((r.map fun x => D.int (x : Nat)).any fun z => eqv z x) then none else some (D.tup ((r.map fun x => D.int (x : Nat)) ++ [x]))) (rngD 1 1 n) acc' (fun x hx => ?_) ?_
        · unfold rngD at hx
          obtain ⟨i, hi, rfl⟩ := List.mem_map.mp hx
          have hr' := rowlen j r hr
          have sr := shp_row r
          have ll : ((r.map fun x => D.int (x : Nat)).length + 1 ≤ line) = True := eq_true (by rw [List.length_map]; show _ ≤ 16777216; omega)
          have l1 : (1 ≤ line) = True := by decide
          refine ⟨_, v_put1, ?_⟩
          unfold tD at sr
          unfold tD
          by_cases h : ((r.map fun x => D.int (x : Nat)).any fun z => eqv z (.int (1 + (i : Int) * 1))) = true
          · rw [if_pos h]
            exact ⟨_, by simp only [v_bind, v_bindx, v_gt0, v_gtS, v_set0, v_setS, v_lit, v_var, v_varV, v_varO, v_varR, v_arg, v_argV, v_argO, v_gV, v_dN, v_dC, v_gN, v_gC, v_d1, v_o1, v_o2, v_o3, v_oD, v_oG, v_opR, v_opRx, v_opF, v_opG, v_opD, v_opDx, v_ds0, v_dsV, v_dsB, v_dsBV, v_dsBO, v_map, v_ch, v_chT, v_chF, v_tB, v_asB, v_asBx, v_tAnd, v_tOr, v_tNot, v_eAnd, v_eOr, v_eNot, v_eIf, v_itE, v_itR, v_itG, v_r1, v_r2, v_seqT, v_seqL, v_clR, v_callR, v_callRx, v_clG, v_clGx, v_clf, v_callf, v_clfG, v_clio, v_cioF, v_cioG, v_cioH, v_oV, v_vlR, v_vlRx, v_oO, v_owL, v_owD, v_sSet, v_setR, v_setRx, v_okV, v_okS, v_sUnp, v_unpR, v_unpG, v_put1, v_putT, v_puts0, v_putsS, v_sPar, v_parR, v_sPut, v_putR, v_putG, v_own, v_putL, v_putD, v_aug, v_augG, v_augH, v_app, v_appF, v_appG, v_sExp, v_expR, v_expRx, v_sRet, v_retR, v_retRx, v_sRetf, v_retf, v_sEnd, v_sRaise, v_sIf, v_ifR, v_ifRx, v_sFor, v_forR, v_sSeq, v_seqN, v_seqR, v_seqx, v_sYes, v_get1, v_get2, v_isD, v_getR1, v_getR2, v_dct1, v_add, v_addT, v_addL, v_sub, v_mul, v_fdiv, v_mod, v_pow, v_neg, v_lt, v_le, v_gtp, v_ge, v_eqI, v_neI, v_eqB, v_neB, v_isN, v_inT, v_ninT, v_ixT, v_ixL, v_ixD, v_revT, v_tup, v_lst, v_dnew, v_dnewT, v_lenT, v_lenL, v_lenD, v_tofT, v_tofL, v_lofS, v_sumL, v_min2, v_max2, v_intI, v_intB, v_allL, v_isi, isi, if_true, if_false, Bool.and_self, Bool.and_true, Bool.true_and, Bool.and_false, Bool.false_and, Bool.or_true, Bool.true_or, Bool.or_false, Bool.false_or, Bool.not_true, Bool.not_false, Bool.false_eq_true, List.length_cons, List.length_nil, Nat.reduceAdd, Nat.reduceLeDiff, decide_true, decide_false, List.set_cons_zero, List.set_cons_succ, sr, shp_int, h]; rfl, rfl⟩
          · rw [if_neg h]
            have h := Bool.eq_false_iff.mpr h
            refine ⟨_, _, by simp only [v_bind, v_bindx, v_gt0, v_gtS, v_set0, v_setS, v_lit, v_var, v_varV, v_varO, v_varR, v_arg, v_argV, v_argO, v_gV, v_dN, v_dC, v_gN, v_gC, v_d1, v_o1, v_o2, v_o3, v_oD, v_oG, v_opR, v_opRx, v_opF, v_opG, v_opD, v_opDx, v_ds0, v_dsV, v_dsB, v_dsBV, v_dsBO, v_map, v_ch, v_chT, v_chF, v_tB, v_asB, v_asBx, v_tAnd, v_tOr, v_tNot, v_eAnd, v_eOr, v_eNot, v_eIf, v_itE, v_itR, v_itG, v_r1, v_r2, v_seqT, v_seqL, v_clR, v_callR, v_callRx, v_clG, v_clGx, v_clf, v_callf, v_clfG, v_clio, v_cioF, v_cioG, v_cioH, v_oV, v_vlR, v_vlRx, v_oO, v_owL, v_owD, v_sSet, v_setR, v_setRx, v_okV, v_okS, v_sUnp, v_unpR, v_unpG, v_put1, v_putT, v_puts0, v_putsS, v_sPar, v_parR, v_sPut, v_putR, v_putG, v_own, v_putL, v_putD, v_aug, v_augG, v_augH, v_app, v_appF, v_appG, v_sExp, v_expR, v_expRx, v_sRet, v_retR, v_retRx, v_sRetf, v_retf, v_sEnd, v_sRaise, v_sIf, v_ifR, v_ifRx, v_sFor, v_forR, v_sSeq, v_seqN, v_seqR, v_seqx, v_sYes, v_get1, v_get2, v_isD, v_getR1, v_getR2, v_dct1, v_add, v_addT, v_addL, v_sub, v_mul, v_fdiv, v_mod, v_pow, v_neg, v_lt, v_le, v_gtp, v_ge, v_eqI, v_neI, v_eqB, v_neB, v_isN, v_inT, v_ninT, v_ixT, v_ixL, v_ixD, v_revT, v_tup, v_lst, v_dnew, v_dnewT, v_lenT, v_lenL, v_lenD, v_tofT, v_tofL, v_lofS, v_sumL, v_min2, v_max2, v_intI, v_intB, v_allL, v_isi, isi, if_true, if_false, Bool.and_self, Bool.and_true, Bool.true_and, Bool.and_false, Bool.false_and, Bool.or_true, Bool.true_or, Bool.or_false, Bool.false_or, Bool.not_true, Bool.not_false, Bool.false_eq_true, List.length_cons, List.length_nil, Nat.reduceAdd, Nat.reduceLeDiff, decide_true, decide_false, List.set_cons_zero, List.set_cons_succ, sr, shp_int, h]; rfl, by simp only [v_bind, v_bindx, v_gt0, v_gtS, v_set0, v_setS, v_lit, v_var, v_varV, v_varO, v_varR, v_arg, v_argV, v_argO, v_gV, v_dN, v_dC, v_gN, v_gC, v_d1, v_o1, v_o2, v_o3, v_oD, v_oG, v_opR, v_opRx, v_opF, v_opG, v_opD, v_opDx, v_ds0, v_dsV, v_dsB, v_dsBV, v_dsBO, v_map, v_ch, v_chT, v_chF, v_tB, v_asB, v_asBx, v_tAnd, v_tOr, v_tNot, v_eAnd, v_eOr, v_eNot, v_eIf, v_itE, v_itR, v_itG, v_r1, v_r2, v_seqT, v_seqL, v_clR, v_callR, v_callRx, v_clG, v_clGx, v_clf, v_callf, v_clfG, v_clio, v_cioF, v_cioG, v_cioH, v_oV, v_vlR, v_vlRx, v_oO, v_owL, v_owD, v_sSet, v_setR, v_setRx, v_okV, v_okS, v_sUnp, v_unpR, v_unpG, v_put1, v_putT, v_puts0, v_putsS, v_sPar, v_parR, v_sPut, v_putR, v_putG, v_own, v_putL, v_putD, v_aug, v_augG, v_augH, v_app, v_appF, v_appG, v_sExp, v_expR, v_expRx, v_sRet, v_retR, v_retRx, v_sRetf, v_retf, v_sEnd, v_sRaise, v_sIf, v_ifR, v_ifRx, v_sFor, v_forR, v_sSeq, v_seqN, v_seqR, v_seqx, v_sYes, v_get1, v_get2, v_isD, v_getR1, v_getR2, v_dct1, v_add, v_addT, v_addL, v_sub, v_mul, v_fdiv, v_mod, v_pow, v_neg, v_lt, v_le, v_gtp, v_ge, v_eqI, v_neI, v_eqB, v_neB, v_isN, v_inT, v_ninT, v_ixT, v_ixL, v_ixD, v_revT, v_tup, v_lst, v_dnew, v_dnewT, v_lenT, v_lenL, v_lenD, v_tofT, v_tofL, v_lofS, v_sumL, v_min2, v_max2, v_intI, v_intB, v_allL, v_isi, isi, if_true, if_false, Bool.and_self, Bool.and_true, Bool.true_and, Bool.and_false, Bool.false_and, Bool.or_true, Bool.true_or, Bool.or_false, Bool.false_or, Bool.not_true, Bool.not_false, Bool.false_eq_true, List.length_cons, List.length_nil, Nat.reduceAdd, Nat.reduceLeDiff, decide_true, decide_false, List.set_cons_zero, List.set_cons_succ, ll, l1]; rfl, rfl⟩
        · exact hacc
end Ev.K94
set_option Elab.async false
set_option linter.all false
set_option maxRecDepth 100000
set_option maxHeartbeats 4000000
namespace Ev.K94
open PySem PySem.Spec PyProof.Rows L2
theorem is_whole_ok {k : Nat} (i : Int) : callN tb (k + 1) 0 [.int i] = .ok (.bl true) := by with_unfolding_all rfl
theorem is_size_ok {k n : Nat} (h1 : 1 ≤ n) (h2 : n ≤ 6) : callN tb (k + 2) 1 [.int n] = .ok (.bl true) := by
  rw [call0 (d := ⟨"is_size", 1, 1, 0, b_is_size⟩) rfl rfl rfl]
  show bodyR (b_is_size (callN tb (k + 1)) [.val (.int n)]) = _
  unfold b_is_size
  have c1 : decide ((1 : Int) ≤ (n : Int)) = true := decide_eq_true (by omega)
  have c2 : decide ((n : Int) ≤ 6) = true := decide_eq_true (by omega)
  simp only [v_bind, v_bindx, v_gt0, v_gtS, v_set0, v_setS, v_lit, v_var, v_varV, v_varO, v_varR, v_arg, v_argV, v_argO, v_gV, v_dN, v_dC, v_gN, v_gC, v_d1, v_o1, v_o2, v_o3, v_oD, v_oG, v_opR, v_opRx, v_opF, v_opG, v_opD, v_opDx, v_ds0, v_dsV, v_dsB, v_dsBV, v_dsBO, v_map, v_ch, v_chT, v_chF, v_tB, v_asB, v_asBx, v_tAnd, v_tOr, v_tNot, v_eAnd, v_eOr, v_eNot, v_eIf, v_itE, v_itR, v_itG, v_r1, v_r2, v_seqT, v_seqL, v_clR, v_callR, v_callRx, v_clG, v_clGx, v_clf, v_callf, v_clfG, v_clio, v_cioF, v_cioG, v_cioH, v_oV, v_vlR, v_vlRx, v_oO, v_owL, v_owD, v_sSet, v_setR, v_setRx, v_okV, v_okS, v_sUnp, v_unpR, v_unpG, v_put1, v_putT, v_puts0, v_putsS, v_sPar, v_parR, v_sPut, v_putR, v_putG, v_own, v_putL, v_putD, v_aug, v_augG, v_augH, v_app, v_appF, v_appG, v_sExp, v_expR, v_expRx, v_sRet, v_retR, v_retRx, v_sRetf, v_retf, v_sEnd, v_sRaise, v_sIf, v_ifR, v_ifRx, v_sFor, v_forR, v_sSeq, v_seqN, v_seqR, v_seqx, v_sYes, v_get1, v_get2, v_isD, v_getR1, v_getR2, v_dct1, v_add, v_addT, v_addL, v_sub, v_mul, v_fdiv, v_mod, v_pow, v_neg, v_lt, v_le, v_gtp, v_ge, v_eqI, v_neI, v_eqB, v_neB, v_isN, v_inT, v_ninT, v_ixT, v_ixL, v_ixD, v_revT, v_tup, v_lst, v_dnew, v_dnewT, v_lenT, v_lenL, v_lenD, v_tofT, v_tofL, v_lofS, v_sumL, v_min2, v_max2, v_intI, v_intB, v_allL, v_isi, isi, if_true, if_false, Bool.and_self, Bool.and_true, Bool.true_and, Bool.and_false, Bool.false_and, Bool.or_true, Bool.true_or, Bool.or_false, Bool.false_or, Bool.not_true, Bool.not_false, Bool.false_eq_true, List.length_cons, List.length_nil, Nat.reduceAdd, Nat.reduceLeDiff, decide_true, decide_false, List.set_cons_zero, List.set_cons_succ, is_whole_ok, c1, c2, bodyR]
theorem all_rows_ok {k n : Nat} (h1 : 1 ≤ n) (hn : n ≤ 6) : callN tb (k + 3) 3 [.int n] = .ok (.tup ((rowsN n n).map tD)) := by
  rw [call0 (d := ⟨"all_rows", 1, 6, 0, b_all_rows⟩) rfl rfl rfl]
  show bodyR (b_all_rows (callN tb (k + 2)) [.val (.int n), .und, .und, .und, .und, .und]) = _
  have eb : ∀ cl, b_all_rows cl = sSeq (sIf (tNot (tB (clR cl 1 (dC (varR 0) (dN))))) (sRaise 1) (sEnd .nx)) (sSeq (sSet 1 (oV (oD .lst (dC (oD .tup (dN)) (dN))))) (sSeq (sFor (.nm 2) (itE .rng1 (dC (varR 0) (dN))) (sSet 1 (oV stepC))) (sRet (oG .tupleOf (gC (argVar 1) (gN)))))) := fun _ => rfl
  rw [eb]
  have w := is_size_ok (k := k) h1 hn
  have c3 : bnd (n : Int) = true := decide_eq_true (by omega)
  have L := forGo_st (tg := .nm 2) (b := sSet 1 (oV stepC)) (xs := rngD 0 1 (n : Int).toNat) (fun j => [.val (.int n), .val (.lst ((rowsN n j).map tD)), if j = 0 then .und else .val (.int (j - 1 : Nat)), .und, .und, .und]) (fun j hj => ?_)
  · have e0 : (rowsN n 0).map tD = [.tup []] := rfl
    have en : (n : Int).toNat = n := by omega
    simp only [e0, if_true, rngD_len, en] at L
    have l0 : (0 ≤ line) = True := by decide
    have l1 : (1 ≤ line) = True := by decide
    simp only [v_bind, v_bindx, v_gt0, v_gtS, v_set0, v_setS, v_lit, v_var, v_varV, v_varO, v_varR, v_arg, v_argV, v_argO, v_gV, v_dN, v_dC, v_gN, v_gC, v_d1, v_o1, v_o2, v_o3, v_oD, v_oG, v_opR, v_opRx, v_opF, v_opG, v_opD, v_opDx, v_ds0, v_dsV, v_dsB, v_dsBV, v_dsBO, v_map, v_ch, v_chT, v_chF, v_tB, v_asB, v_asBx, v_tAnd, v_tOr, v_tNot, v_eAnd, v_eOr, v_eNot, v_eIf, v_itE, v_itR, v_itG, v_r1, v_r2, v_seqT, v_seqL, v_clR, v_callR, v_callRx, v_clG, v_clGx, v_clf, v_callf, v_clfG, v_clio, v_cioF, v_cioG, v_cioH, v_oV, v_vlR, v_vlRx, v_oO, v_owL, v_owD, v_sSet, v_setR, v_setRx, v_okV, v_okS, v_sUnp, v_unpR, v_unpG, v_put1, v_putT, v_puts0, v_putsS, v_sPar, v_parR, v_sPut, v_putR, v_putG, v_own, v_putL, v_putD, v_aug, v_augG, v_augH, v_app, v_appF, v_appG, v_sExp, v_expR, v_expRx, v_sRet, v_retR, v_retRx, v_sRetf, v_retf, v_sEnd, v_sRaise, v_sIf, v_ifR, v_ifRx, v_sFor, v_forR, v_sSeq, v_seqN, v_seqR, v_seqx, v_sYes, v_get1, v_get2, v_isD, v_getR1, v_getR2, v_dct1, v_add, v_addT, v_addL, v_sub, v_mul, v_fdiv, v_mod, v_pow, v_neg, v_lt, v_le, v_gtp, v_ge, v_eqI, v_neI, v_eqB, v_neB, v_isN, v_inT, v_ninT, v_ixT, v_ixL, v_ixD, v_revT, v_tup, v_lst, v_dnew, v_dnewT, v_lenT, v_lenL, v_lenD, v_tofT, v_tofL, v_lofS, v_sumL, v_min2, v_max2, v_intI, v_intB, v_allL, v_isi, isi, if_true, if_false, Bool.and_self, Bool.and_true, Bool.true_and, Bool.and_false, Bool.false_and, Bool.or_true, Bool.true_or, Bool.or_false, Bool.false_or, Bool.not_true, Bool.not_false, Bool.false_eq_true, List.length_cons, List.length_nil, Nat.reduceAdd, Nat.reduceLeDiff, decide_true, decide_false, List.set_cons_zero, List.set_cons_succ, w, c3, l0, l1, en]
    rw [L]
    simp only [v_bind, v_bindx, v_gt0, v_gtS, v_set0, v_setS, v_lit, v_var, v_varV, v_varO, v_varR, v_arg, v_argV, v_argO, v_gV, v_dN, v_dC, v_gN, v_gC, v_d1, v_o1, v_o2, v_o3, v_oD, v_oG, v_opR, v_opRx, v_opF, v_opG, v_opD, v_opDx, v_ds0, v_dsV, v_dsB, v_dsBV, v_dsBO, v_map, v_ch, v_chT, v_chF, v_tB, v_asB, v_asBx, v_tAnd, v_tOr, v_tNot, v_eAnd, v_eOr, v_eNot, v_eIf, v_itE, v_itR, v_itG, v_r1, v_r2, v_seqT, v_seqL, v_clR, v_callR, v_callRx, v_clG, v_clGx, v_clf, v_callf, v_clfG, v_clio, v_cioF, v_cioG, v_cioH, v_oV, v_vlR, v_vlRx, v_oO, v_owL, v_owD, v_sSet, v_setR, v_setRx, v_okV, v_okS, v_sUnp, v_unpR, v_unpG, v_put1, v_putT, v_puts0, v_putsS, v_sPar, v_parR, v_sPut, v_putR, v_putG, v_own, v_putL, v_putD, v_aug, v_augG, v_augH, v_app, v_appF, v_appG, v_sExp, v_expR, v_expRx, v_sRet, v_retR, v_retRx, v_sRetf, v_retf, v_sEnd, v_sRaise, v_sIf, v_ifR, v_ifRx, v_sFor, v_forR, v_sSeq, v_seqN, v_seqR, v_seqx, v_sYes, v_get1, v_get2, v_isD, v_getR1, v_getR2, v_dct1, v_add, v_addT, v_addL, v_sub, v_mul, v_fdiv, v_mod, v_pow, v_neg, v_lt, v_le, v_gtp, v_ge, v_eqI, v_neI, v_eqB, v_neB, v_isN, v_inT, v_ninT, v_ixT, v_ixL, v_ixD, v_revT, v_tup, v_lst, v_dnew, v_dnewT, v_lenT, v_lenL, v_lenD, v_tofT, v_tofL, v_lofS, v_sumL, v_min2, v_max2, v_intI, v_intB, v_allL, v_isi, isi, if_true, if_false, Bool.and_self, Bool.and_true, Bool.true_and, Bool.and_false, Bool.false_and, Bool.or_true, Bool.true_or, Bool.or_false, Bool.false_or, Bool.not_true, Bool.not_false, Bool.false_eq_true, List.length_cons, List.length_nil, Nat.reduceAdd, Nat.reduceLeDiff, decide_true, decide_false, List.set_cons_zero, List.set_cons_succ, bodyR]
  · rw [rngD_len] at hj
    rw [rngD_at]
    refine ⟨_, v_put1, ?_⟩
    have := lst_ev (n := n) (j := j) hn (by omega) (s2 := .val (.int (0 + (j : Int) * 1)))
    rw [v_sSet, v_oV]
    show setR 1 (vlR (stepC [.val (.int n), .val (.lst ((rowsN n j).map tD)), .val (.int (0 + (j : Int) * 1)), .und, .und, .und])) = _
    rw [this]
    simp only [v_bind, v_bindx, v_gt0, v_gtS, v_set0, v_setS, v_lit, v_var, v_varV, v_varO, v_varR, v_arg, v_argV, v_argO, v_gV, v_dN, v_dC, v_gN, v_gC, v_d1, v_o1, v_o2, v_o3, v_oD, v_oG, v_opR, v_opRx, v_opF, v_opG, v_opD, v_opDx, v_ds0, v_dsV, v_dsB, v_dsBV, v_dsBO, v_map, v_ch, v_chT, v_chF, v_tB, v_asB, v_asBx, v_tAnd, v_tOr, v_tNot, v_eAnd, v_eOr, v_eNot, v_eIf, v_itE, v_itR, v_itG, v_r1, v_r2, v_seqT, v_seqL, v_clR, v_callR, v_callRx, v_clG, v_clGx, v_clf, v_callf, v_clfG, v_clio, v_cioF, v_cioG, v_cioH, v_oV, v_vlR, v_vlRx, v_oO, v_owL, v_owD, v_sSet, v_setR, v_setRx, v_okV, v_okS, v_sUnp, v_unpR, v_unpG, v_put1, v_putT, v_puts0, v_putsS, v_sPar, v_parR, v_sPut, v_putR, v_putG, v_own, v_putL, v_putD, v_aug, v_augG, v_augH, v_app, v_appF, v_appG, v_sExp, v_expR, v_expRx, v_sRet, v_retR, v_retRx, v_sRetf, v_retf, v_sEnd, v_sRaise, v_sIf, v_ifR, v_ifRx, v_sFor, v_forR, v_sSeq, v_seqN, v_seqR, v_seqx, v_sYes, v_get1, v_get2, v_isD, v_getR1, v_getR2, v_dct1, v_add, v_addT, v_addL, v_sub, v_mul, v_fdiv, v_mod, v_pow, v_neg, v_lt, v_le, v_gtp, v_ge, v_eqI, v_neI, v_eqB, v_neB, v_isN, v_inT, v_ninT, v_ixT, v_ixL, v_ixD, v_revT, v_tup, v_lst, v_dnew, v_dnewT, v_lenT, v_lenL, v_lenD, v_tofT, v_tofL, v_lofS, v_sumL, v_min2, v_max2, v_intI, v_intB, v_allL, v_isi, isi, if_true, if_false, Bool.and_self, Bool.and_true, Bool.true_and, Bool.and_false, Bool.false_and, Bool.or_true, Bool.true_or, Bool.or_false, Bool.false_or, Bool.not_true, Bool.not_false, Bool.false_eq_true, List.length_cons, List.length_nil, Nat.reduceAdd, Nat.reduceLeDiff, decide_true, decide_false, List.set_cons_zero, List.set_cons_succ]
    simp
def seenS (s : Nat × Nat) (x : Nat) : Nat × Nat := if s.1 < x then (x, s.2 + 1) else s
theorem seen_ok {k : Nat} (row : List Nat) : callN tb (k + 1) 2 [tD row] = .ok (.int ((row.foldl seenS (0, 0)).2 : Nat)) := by
  rw [call0 (d := ⟨"seen", 1, 4, 0, b_seen⟩) rfl rfl rfl]
  show bodyR (b_seen (callN tb k) [.val (tD row), .und, .und, .und]) = _
  unfold b_seen
  have L := forGo_inv (tg := .nm 3) (b := sIf (tB (o2 .gt (argVar 3) (argVar 1))) (sPar 1 2 (oV (varR 3)) (oV (o2 .add (argVar 2) (gV (litR (.int 1)))))) (sEnd .nx)) (row.map fun x => D.int (x : Nat)) (fun j ε => ∃ s3, ε = [.val (tD row), .val (.int (((row.take j).foldl seenS (0, 0)).1 : Nat)), .val (.int (((row.take j).foldl seenS (0, 0)).2 : Nat)), s3]) 0 (fun j hj ε p => ?_) [.val (tD row), .val (.int 0), .val (.int 0), .und] ⟨.und, rfl⟩
  · obtain ⟨ε', e1, s3, e2⟩ := L
    subst e2
    rw [Nat.zero_add, List.length_map, List.take_length] at e1
    have e0 : items .seq [tD row] = some (row.map fun x => D.int (x : Nat)) := rfl
    have l2 : (2 ≤ line) = True := by decide
    simp only [v_bind, v_bindx, v_gt0, v_gtS, v_set0, v_setS, v_lit, v_var, v_varV, v_varO, v_varR, v_arg, v_argV, v_argO, v_gV, v_dN, v_dC, v_gN, v_gC, v_d1, v_o1, v_o2, v_o3, v_oD, v_oG, v_opR, v_opRx, v_opF, v_opG, v_opD, v_opDx, v_ds0, v_dsV, v_dsB, v_dsBV, v_dsBO, v_map, v_ch, v_chT, v_chF, v_tB, v_asB, v_asBx, v_tAnd, v_tOr, v_tNot, v_eAnd, v_eOr, v_eNot, v_eIf, v_itE, v_itR, v_itG, v_r1, v_r2, v_seqT, v_seqL, v_clR, v_callR, v_callRx, v_clG, v_clGx, v_clf, v_callf, v_clfG, v_clio, v_cioF, v_cioG, v_cioH, v_oV, v_vlR, v_vlRx, v_oO, v_owL, v_owD, v_sSet, v_setR, v_setRx, v_okV, v_okS, v_sUnp, v_unpR, v_unpG, v_put1, v_putT, v_puts0, v_putsS, v_sPar, v_parR, v_sPut, v_putR, v_putG, v_own, v_putL, v_putD, v_aug, v_augG, v_augH, v_app, v_appF, v_appG, v_sExp, v_expR, v_expRx, v_sRet, v_retR, v_retRx, v_sRetf, v_retf, v_sEnd, v_sRaise, v_sIf, v_ifR, v_ifRx, v_sFor, v_forR, v_sSeq, v_seqN, v_seqR, v_seqx, v_sYes, v_get1, v_get2, v_isD, v_getR1, v_getR2, v_dct1, v_add, v_addT, v_addL, v_sub, v_mul, v_fdiv, v_mod, v_pow, v_neg, v_lt, v_le, v_gtp, v_ge, v_eqI, v_neI, v_eqB, v_neB, v_isN, v_inT, v_ninT, v_ixT, v_ixL, v_ixD, v_revT, v_tup, v_lst, v_dnew, v_dnewT, v_lenT, v_lenL, v_lenD, v_tofT, v_tofL, v_lofS, v_sumL, v_min2, v_max2, v_intI, v_intB, v_allL, v_isi, isi, if_true, if_false, Bool.and_self, Bool.and_true, Bool.true_and, Bool.and_false, Bool.false_and, Bool.or_true, Bool.true_or, Bool.or_false, Bool.false_or, Bool.not_true, Bool.not_false, Bool.false_eq_true, List.length_cons, List.length_nil, Nat.reduceAdd, Nat.reduceLeDiff, decide_true, decide_false, List.set_cons_zero, List.set_cons_succ, e0, l2]
    rw [e1]
    simp only [v_bind, v_bindx, v_gt0, v_gtS, v_set0, v_setS, v_lit, v_var, v_varV, v_varO, v_varR, v_arg, v_argV, v_argO, v_gV, v_dN, v_dC, v_gN, v_gC, v_d1, v_o1, v_o2, v_o3, v_oD, v_oG, v_opR, v_opRx, v_opF, v_opG, v_opD, v_opDx, v_ds0, v_dsV, v_dsB, v_dsBV, v_dsBO, v_map, v_ch, v_chT, v_chF, v_tB, v_asB, v_asBx, v_tAnd, v_tOr, v_tNot, v_eAnd, v_eOr, v_eNot, v_eIf, v_itE, v_itR, v_itG, v_r1, v_r2, v_seqT, v_seqL, v_clR, v_callR, v_callRx, v_clG, v_clGx, v_clf, v_callf, v_clfG, v_clio, v_cioF, v_cioG, v_cioH, v_oV, v_vlR, v_vlRx, v_oO, v_owL, v_owD, v_sSet, v_setR, v_setRx, v_okV, v_okS, v_sUnp, v_unpR, v_unpG, v_put1, v_putT, v_puts0, v_putsS, v_sPar, v_parR, v_sPut, v_putR, v_putG, v_own, v_putL, v_putD, v_aug, v_augG, v_augH, v_app, v_appF, v_appG, v_sExp, v_expR, v_expRx, v_sRet, v_retR, v_retRx, v_sRetf, v_retf, v_sEnd, v_sRaise, v_sIf, v_ifR, v_ifRx, v_sFor, v_forR, v_sSeq, v_seqN, v_seqR, v_seqx, v_sYes, v_get1, v_get2, v_isD, v_getR1, v_getR2, v_dct1, v_add, v_addT, v_addL, v_sub, v_mul, v_fdiv, v_mod, v_pow, v_neg, v_lt, v_le, v_gtp, v_ge, v_eqI, v_neI, v_eqB, v_neB, v_isN, v_inT, v_ninT, v_ixT, v_ixL, v_ixD, v_revT, v_tup, v_lst, v_dnew, v_dnewT, v_lenT, v_lenL, v_lenD, v_tofT, v_tofL, v_lofS, v_sumL, v_min2, v_max2, v_intI, v_intB, v_allL, v_isi, isi, if_true, if_false, Bool.and_self, Bool.and_true, Bool.true_and, Bool.and_false, Bool.false_and, Bool.or_true, Bool.true_or, Bool.or_false, Bool.false_or, Bool.not_true, Bool.not_false, Bool.false_eq_true, List.length_cons, List.length_nil, Nat.reduceAdd, Nat.reduceLeDiff, decide_true, decide_false, List.set_cons_zero, List.set_cons_succ, bodyR]
  · obtain ⟨s3, rfl⟩ := p
    rw [List.length_map] at hj
    rw [List.getElem_map, Nat.zero_add]
    have et : row.take (j + 1) = row.take j ++ [row[j]] := take_succ' hj
    rw [et, List.foldl_append]
    generalize (row.take j).foldl seenS (0, 0) = s
    have ef : [row[j]].foldl seenS s = seenS s row[j] := rfl
    rw [ef]
    by_cases h : s.1 < row[j]
    · have c : decide ((s.1 : Int) < (row[j] : Nat)) = true := decide_eq_true (by omega)
      refine ⟨_, [.val (tD row), .val (.int (row[j] : Nat)), .val (.int ((s.2 : Int) + 1)), .val (.int (row[j] : Nat))], v_put1, .inl ?_, .val (.int (row[j] : Nat)), ?_⟩
      · simp only [v_bind, v_bindx, v_gt0, v_gtS, v_set0, v_setS, v_lit, v_var, v_varV, v_varO, v_varR, v_arg, v_argV, v_argO, v_gV, v_dN, v_dC, v_gN, v_gC, v_d1, v_o1, v_o2, v_o3, v_oD, v_oG, v_opR, v_opRx, v_opF, v_opG, v_opD, v_opDx, v_ds0, v_dsV, v_dsB, v_dsBV, v_dsBO, v_map, v_ch, v_chT, v_chF, v_tB, v_asB, v_asBx, v_tAnd, v_tOr, v_tNot, v_eAnd, v_eOr, v_eNot, v_eIf, v_itE, v_itR, v_itG, v_r1, v_r2, v_seqT, v_seqL, v_clR, v_callR, v_callRx, v_clG, v_clGx, v_clf, v_callf, v_clfG, v_clio, v_cioF, v_cioG, v_cioH, v_oV, v_vlR, v_vlRx, v_oO, v_owL, v_owD, v_sSet, v_setR, v_setRx, v_okV, v_okS, v_sUnp, v_unpR, v_unpG, v_put1, v_putT, v_puts0, v_putsS, v_sPar, v_parR, v_sPut, v_putR, v_putG, v_own, v_putL, v_putD, v_aug, v_augG, v_augH, v_app, v_appF, v_appG, v_sExp, v_expR, v_expRx, v_sRet, v_retR, v_retRx, v_sRetf, v_retf, v_sEnd, v_sRaise, v_sIf, v_ifR, v_ifRx, v_sFor, v_forR, v_sSeq, v_seqN, v_seqR, v_seqx, v_sYes, v_get1, v_get2, v_isD, v_getR1, v_getR2, v_dct1, v_add, v_addT, v_addL, v_sub, v_mul, v_fdiv, v_mod, v_pow, v_neg, v_lt, v_le, v_gtp, v_ge, v_eqI, v_neI, v_eqB, v_neB, v_isN, v_inT, v_ninT, v_ixT, v_ixL, v_ixD, v_revT, v_tup, v_lst, v_dnew, v_dnewT, v_lenT, v_lenL, v_lenD, v_tofT, v_tofL, v_lofS, v_sumL, v_min2, v_max2, v_intI, v_intB, v_allL, v_isi, isi, if_true, if_false, Bool.and_self, Bool.and_true, Bool.true_and, Bool.and_false, Bool.false_and, Bool.or_true, Bool.true_or, Bool.or_false, Bool.false_or, Bool.not_true, Bool.not_false, Bool.false_eq_true, List.length_cons, List.length_nil, Nat.reduceAdd, Nat.reduceLeDiff, decide_true, decide_false, List.set_cons_zero, List.set_cons_succ, c]
      · unfold seenS; rw [if_pos h]; rfl
    · have c : decide ((s.1 : Int) < (row[j] : Nat)) = false := decide_eq_false (by omega)
      refine ⟨_, [.val (tD row), .val (.int (s.1 : Nat)), .val (.int (s.2 : Nat)), .val (.int (row[j] : Nat))], v_put1, .inl ?_, .val (.int (row[j] : Nat)), ?_⟩
      · simp only [v_bind, v_bindx, v_gt0, v_gtS, v_set0, v_setS, v_lit, v_var, v_varV, v_varO, v_varR, v_arg, v_argV, v_argO, v_gV, v_dN, v_dC, v_gN, v_gC, v_d1, v_o1, v_o2, v_o3, v_oD, v_oG, v_opR, v_opRx, v_opF, v_opG, v_opD, v_opDx, v_ds0, v_dsV, v_dsB, v_dsBV, v_dsBO, v_map, v_ch, v_chT, v_chF, v_tB, v_asB, v_asBx, v_tAnd, v_tOr, v_tNot, v_eAnd, v_eOr, v_eNot, v_eIf, v_itE, v_itR, v_itG, v_r1, v_r2, v_seqT, v_seqL, v_clR, v_callR, v_callRx, v_clG, v_clGx, v_clf, v_callf, v_clfG, v_clio, v_cioF, v_cioG, v_cioH, v_oV, v_vlR, v_vlRx, v_oO, v_owL, v_owD, v_sSet, v_setR, v_setRx, v_okV, v_okS, v_sUnp, v_unpR, v_unpG, v_put1, v_putT, v_puts0, v_putsS, v_sPar, v_parR, v_sPut, v_putR, v_putG, v_own, v_putL, v_putD, v_aug, v_augG, v_augH, v_app, v_appF, v_appG, v_sExp, v_expR, v_expRx, v_sRet, v_retR, v_retRx, v_sRetf, v_retf, v_sEnd, v_sRaise, v_sIf, v_ifR, v_ifRx, v_sFor, v_forR, v_sSeq, v_seqN, v_seqR, v_seqx, v_sYes, v_get1, v_get2, v_isD, v_getR1, v_getR2, v_dct1, v_add, v_addT, v_addL, v_sub, v_mul, v_fdiv, v_mod, v_pow, v_neg, v_lt, v_le, v_gtp, v_ge, v_eqI, v_neI, v_eqB, v_neB, v_isN, v_inT, v_ninT, v_ixT, v_ixL, v_ixD, v_revT, v_tup, v_lst, v_dnew, v_dnewT, v_lenT, v_lenL, v_lenD, v_tofT, v_tofL, v_lofS, v_sumL, v_min2, v_max2, v_intI, v_intB, v_allL, v_isi, isi, if_true, if_false, Bool.and_self, Bool.and_true, Bool.true_and, Bool.and_false, Bool.false_and, Bool.or_true, Bool.true_or, Bool.or_false, Bool.false_or, Bool.not_true, Bool.not_false, Bool.false_eq_true, List.length_cons, List.length_nil, Nat.reduceAdd, Nat.reduceLeDiff, decide_true, decide_false, List.set_cons_zero, List.set_cons_succ, c]
      · unfold seenS; rw [if_neg h]
def sn (row : List Nat) : Nat := (row.foldl seenS (0, 0)).2
theorem look_seen_ok {k n f l : Nat} (h1 : 1 ≤ n) (hn : n ≤ 6) (hf : f ≤ n) (hl : l ≤ n) : callN tb (k + 3) 5 [.int n, .int f, .int l] = .ok .non := by
  rw [call0 (d := ⟨"look_at_seen", 3, 5, 0, b_look_at_seen⟩) rfl rfl rfl]
  show bodyR (b_look_at_seen (callN tb (k + 2)) [.val (.int n), .val (.int f), .val (.int l), .und, .und]) = _
  unfold b_look_at_seen
  have w := is_size_ok (k := k) h1 hn
  have L : lcE [3, 4] (.nm 4) (itE .seq (d1 (oD .tup (dC (varR 1) (dC (varR 2) (dN)))))) (sYes) (eAnd (clR (callN tb (k + 2)) 0 (dC (varR 4) (dN))) (chR .le .le (litR (.int 0)) (varR 4) (varR 0))) [.val (.int n), .val (.int f), .val (.int l), .und, .und] = .ok (.lst ([true, true].map .bl)) [.val (.int n), .val (.int f), .val (.int l), .und, .und] := by
    refine (lcE_of (xs := [.int f, .int l]) (l := [true, true].map .bl) (ε1 := [.val (.int n), .val (.int f), .val (.int l), .und, .und]) (ε2 := [.val (.int n), .val (.int f), .val (.int l), .und, .und]) ?_ rfl ?_).trans rfl
    · have l2 : (2 ≤ line) = True := by decide
      simp only [v_bind, v_bindx, v_gt0, v_gtS, v_set0, v_setS, v_lit, v_var, v_varV, v_varO, v_varR, v_arg, v_argV, v_argO, v_gV, v_dN, v_dC, v_gN, v_gC, v_d1, v_o1, v_o2, v_o3, v_oD, v_oG, v_opR, v_opRx, v_opF, v_opG, v_opD, v_opDx, v_ds0, v_dsV, v_dsB, v_dsBV, v_dsBO, v_map, v_ch, v_chT, v_chF, v_tB, v_asB, v_asBx, v_tAnd, v_tOr, v_tNot, v_eAnd, v_eOr, v_eNot, v_eIf, v_itE, v_itR, v_itG, v_r1, v_r2, v_seqT, v_seqL, v_clR, v_callR, v_callRx, v_clG, v_clGx, v_clf, v_callf, v_clfG, v_clio, v_cioF, v_cioG, v_cioH, v_oV, v_vlR, v_vlRx, v_oO, v_owL, v_owD, v_sSet, v_setR, v_setRx, v_okV, v_okS, v_sUnp, v_unpR, v_unpG, v_put1, v_putT, v_puts0, v_putsS, v_sPar, v_parR, v_sPut, v_putR, v_putG, v_own, v_putL, v_putD, v_aug, v_augG, v_augH, v_app, v_appF, v_appG, v_sExp, v_expR, v_expRx, v_sRet, v_retR, v_retRx, v_sRetf, v_retf, v_sEnd, v_sRaise, v_sIf, v_ifR, v_ifRx, v_sFor, v_forR, v_sSeq, v_seqN, v_seqR, v_seqx, v_sYes, v_get1, v_get2, v_isD, v_getR1, v_getR2, v_dct1, v_add, v_addT, v_addL, v_sub, v_mul, v_fdiv, v_mod, v_pow, v_neg, v_lt, v_le, v_gtp, v_ge, v_eqI, v_neI, v_eqB, v_neB, v_isN, v_inT, v_ninT, v_ixT, v_ixL, v_ixD, v_revT, v_tup, v_lst, v_dnew, v_dnewT, v_lenT, v_lenL, v_lenD, v_tofT, v_tofL, v_lofS, v_sumL, v_min2, v_max2, v_intI, v_intB, v_allL, v_isi, isi, if_true, if_false, Bool.and_self, Bool.and_true, Bool.true_and, Bool.and_false, Bool.false_and, Bool.or_true, Bool.true_or, Bool.or_false, Bool.false_or, Bool.not_true, Bool.not_false, Bool.false_eq_true, List.length_cons, List.length_nil, Nat.reduceAdd, Nat.reduceLeDiff, decide_true, decide_false, List.set_cons_zero, List.set_cons_succ, l2]
    · refine (lcGo_fm (own := [3, 4]) (ε := [.val (.int n), .val (.int f), .val (.int l), .und, .und]) (fun _ => some (.bl true)) [.int f, .int l] [] (fun x hx => ?_) (show 2 ≤ line by decide)).trans rfl
      have c1 : ∀ i : Nat, i ≤ n → eAnd (clR (callN tb (k + 2)) 0 (dC (varR 4) (dN))) (chR .le .le (litR (.int 0)) (varR 4) (varR 0)) [.val (.int n), .val (.int f), .val (.int l), .und, .val (.int i)] = .ok (.bl true) [.val (.int n), .val (.int f), .val (.int l), .und, .val (.int i)] := fun i hi => by
        have c1 : decide ((0 : Int) ≤ (i : Int)) = true := decide_eq_true (by omega)
        have c2 : decide ((i : Int) ≤ (n : Int)) = true := decide_eq_true (by omega)
        simp only [v_bind, v_bindx, v_gt0, v_gtS, v_set0, v_setS, v_lit, v_var, v_varV, v_varO, v_varR, v_arg, v_argV, v_argO, v_gV, v_dN, v_dC, v_gN, v_gC, v_d1, v_o1, v_o2, v_o3, v_oD, v_oG, v_opR, v_opRx, v_opF, v_opG, v_opD, v_opDx, v_ds0, v_dsV, v_dsB, v_dsBV, v_dsBO, v_map, v_ch, v_chT, v_chF, v_tB, v_asB, v_asBx, v_tAnd, v_tOr, v_tNot, v_eAnd, v_eOr, v_eNot, v_eIf, v_itE, v_itR, v_itG, v_r1, v_r2, v_seqT, v_seqL, v_clR, v_callR, v_callRx, v_clG, v_clGx, v_clf, v_callf, v_clfG, v_clio, v_cioF, v_cioG, v_cioH, v_oV, v_vlR, v_vlRx, v_oO, v_owL, v_owD, v_sSet, v_setR, v_setRx, v_okV, v_okS, v_sUnp, v_unpR, v_unpG, v_put1, v_putT, v_puts0, v_putsS, v_sPar, v_parR, v_sPut, v_putR, v_putG, v_own, v_putL, v_putD, v_aug, v_augG, v_augH, v_app, v_appF, v_appG, v_sExp, v_expR, v_expRx, v_sRet, v_retR, v_retRx, v_sRetf, v_retf, v_sEnd, v_sRaise, v_sIf, v_ifR, v_ifRx, v_sFor, v_forR, v_sSeq, v_seqN, v_seqR, v_seqx, v_sYes, v_get1, v_get2, v_isD, v_getR1, v_getR2, v_dct1, v_add, v_addT, v_addL, v_sub, v_mul, v_fdiv, v_mod, v_pow, v_neg, v_lt, v_le, v_gtp, v_ge, v_eqI, v_neI, v_eqB, v_neB, v_isN, v_inT, v_ninT, v_ixT, v_ixL, v_ixD, v_revT, v_tup, v_lst, v_dnew, v_dnewT, v_lenT, v_lenL, v_lenD, v_tofT, v_tofL, v_lofS, v_sumL, v_min2, v_max2, v_intI, v_intB, v_allL, v_isi, isi, if_true, if_false, Bool.and_self, Bool.and_true, Bool.true_and, Bool.and_false, Bool.false_and, Bool.or_true, Bool.true_or, Bool.or_false, Bool.false_or, Bool.not_true, Bool.not_false, Bool.false_eq_true, List.length_cons, List.length_nil, Nat.reduceAdd, Nat.reduceLeDiff, decide_true, decide_false, List.set_cons_zero, List.set_cons_succ, is_whole_ok, c1, c2]
      rcases List.mem_cons.mp hx with rfl | hx
      · exact ⟨_, v_put1, _, _, v_sYes, c1 f hf, rfl⟩
      · rw [List.mem_singleton.mp hx]
        exact ⟨_, v_put1, _, _, v_sYes, c1 l hl, rfl⟩
  simp only [v_bind, v_bindx, v_gt0, v_gtS, v_set0, v_setS, v_lit, v_var, v_varV, v_varO, v_varR, v_arg, v_argV, v_argO, v_gV, v_dN, v_dC, v_gN, v_gC, v_d1, v_o1, v_o2, v_o3, v_oD, v_oG, v_opR, v_opRx, v_opF, v_opG, v_opD, v_opDx, v_ds0, v_dsV, v_dsB, v_dsBV, v_dsBO, v_map, v_ch, v_chT, v_chF, v_tB, v_asB, v_asBx, v_tAnd, v_tOr, v_tNot, v_eAnd, v_eOr, v_eNot, v_eIf, v_itE, v_itR, v_itG, v_r1, v_r2, v_seqT, v_seqL, v_clR, v_callR, v_callRx, v_clG, v_clGx, v_clf, v_callf, v_clfG, v_clio, v_cioF, v_cioG, v_cioH, v_oV, v_vlR, v_vlRx, v_oO, v_owL, v_owD, v_sSet, v_setR, v_setRx, v_okV, v_okS, v_sUnp, v_unpR, v_unpG, v_put1, v_putT, v_puts0, v_putsS, v_sPar, v_parR, v_sPut, v_putR, v_putG, v_own, v_putL, v_putD, v_aug, v_augG, v_augH, v_app, v_appF, v_appG, v_sExp, v_expR, v_expRx, v_sRet, v_retR, v_retRx, v_sRetf, v_retf, v_sEnd, v_sRaise, v_sIf, v_ifR, v_ifRx, v_sFor, v_forR, v_sSeq, v_seqN, v_seqR, v_seqx, v_sYes, v_get1, v_get2, v_isD, v_getR1, v_getR2, v_dct1, v_add, v_addT, v_addL, v_sub, v_mul, v_fdiv, v_mod, v_pow, v_neg, v_lt, v_le, v_gtp, v_ge, v_eqI, v_neI, v_eqB, v_neB, v_isN, v_inT, v_ninT, v_ixT, v_ixL, v_ixD, v_revT, v_tup, v_lst, v_dnew, v_dnewT, v_lenT, v_lenL, v_lenD, v_tofT, v_tofL, v_lofS, v_sumL, v_min2, v_max2, v_intI, v_intB, v_allL, v_isi, isi, if_true, if_false, Bool.and_self, Bool.and_true, Bool.true_and, Bool.and_false, Bool.false_and, Bool.or_true, Bool.true_or, Bool.or_false, Bool.false_or, Bool.not_true, Bool.not_false, Bool.false_eq_true, List.length_cons, List.length_nil, Nat.reduceAdd, Nat.reduceLeDiff, decide_true, decide_false, List.set_cons_zero, List.set_cons_succ, w, L]
  simp only [v_bind, v_bindx, v_gt0, v_gtS, v_set0, v_setS, v_lit, v_var, v_varV, v_varO, v_varR, v_arg, v_argV, v_argO, v_gV, v_dN, v_dC, v_gN, v_gC, v_d1, v_o1, v_o2, v_o3, v_oD, v_oG, v_opR, v_opRx, v_opF, v_opG, v_opD, v_opDx, v_ds0, v_dsV, v_dsB, v_dsBV, v_dsBO, v_map, v_ch, v_chT, v_chF, v_tB, v_asB, v_asBx, v_tAnd, v_tOr, v_tNot, v_eAnd, v_eOr, v_eNot, v_eIf, v_itE, v_itR, v_itG, v_r1, v_r2, v_seqT, v_seqL, v_clR, v_callR, v_callRx, v_clG, v_clGx, v_clf, v_callf, v_clfG, v_clio, v_cioF, v_cioG, v_cioH, v_oV, v_vlR, v_vlRx, v_oO, v_owL, v_owD, v_sSet, v_setR, v_setRx, v_okV, v_okS, v_sUnp, v_unpR, v_unpG, v_put1, v_putT, v_puts0, v_putsS, v_sPar, v_parR, v_sPut, v_putR, v_putG, v_own, v_putL, v_putD, v_aug, v_augG, v_augH, v_app, v_appF, v_appG, v_sExp, v_expR, v_expRx, v_sRet, v_retR, v_retRx, v_sRetf, v_retf, v_sEnd, v_sRaise, v_sIf, v_ifR, v_ifRx, v_sFor, v_forR, v_sSeq, v_seqN, v_seqR, v_seqx, v_sYes, v_get1, v_get2, v_isD, v_getR1, v_getR2, v_dct1, v_add, v_addT, v_addL, v_sub, v_mul, v_fdiv, v_mod, v_pow, v_neg, v_lt, v_le, v_gtp, v_ge, v_eqI, v_neI, v_eqB, v_neB, v_isN, v_inT, v_ninT, v_ixT, v_ixL, v_ixD, v_revT, v_tup, v_lst, v_dnew, v_dnewT, v_lenT, v_lenL, v_lenD, v_tofT, v_tofL, v_lofS, v_sumL, v_min2, v_max2, v_intI, v_intB, v_allL, v_isi, isi, if_true, if_false, Bool.and_self, Bool.and_true, Bool.true_and, Bool.and_false, Bool.false_and, Bool.or_true, Bool.true_or, Bool.or_false, Bool.false_or, Bool.not_true, Bool.not_false, Bool.false_eq_true, List.length_cons, List.length_nil, Nat.reduceAdd, Nat.reduceLeDiff, decide_true, decide_false, List.set_cons_zero, List.set_cons_succ, bodyR, (by decide : ([true, true].all id) = true)]
end Ev.K94
set_option Elab.async false
set_option linter.all false
set_option maxRecDepth 100000
set_option maxHeartbeats 4000000
namespace Ev.K94
open PySem PySem.Spec PyProof.Rows L2
theorem in2 {f s : Nat} (hf : 1 ≤ f) : pr .isIn [.int (f : Nat), .tup [.int 0, .int (s : Nat)]] = some (.bl (decide (s = f))) := by
  rw [v_inT]
  have e : (shp (.int (f : Nat)) && shp (.tup [.int 0, .int (s : Nat)])) = true := rfl
  rw [e, if_pos rfl]
  congr 2
  show (((0 : Int) == (f : Int)) || (((s : Int) == (f : Int)) || false)) = _
  rw [beq_nat (a := s) (b := f), Bool.or_false]
  have := beq_nat (a := 0) (b := f)
  rw [decide_eq_false (by omega)] at this
  rw [show ((0 : Int) == (f : Int)) = false from this, Bool.false_or]
theorem tD_rev (r : List Nat) : (r.map fun x => D.int (x : Nat)).reverse = r.reverse.map fun x => D.int (x : Nat) := by rw [List.map_reverse]
def hit (f l : Nat) (r : List Nat) : Bool := decide (sn r = f) && decide (sn r.reverse = l)
theorem rows_seen_ok {k n f l : Nat} (h1 : 1 ≤ n) (hn : n ≤ 6) (hf1 : 1 ≤ f) (hf : f ≤ n) (hl1 : 1 ≤ l) (hl : l ≤ n) : callN tb (k + 4) 4 [.int n, .int f, .int l] = .ok (.tup (((rowsN n n).filter (hit f l)).map tD)) := by
  rw [call0 (d := ⟨"rows_seen", 3, 5, 0, b_rows_seen⟩) rfl rfl rfl]
  show bodyR (b_rows_seen (callN tb (k + 3)) [.val (.int n), .val (.int f), .val (.int l), .und, .und]) = _
  unfold b_rows_seen
  have w := look_seen_ok (k := k) h1 hn hf hl
  have w2 := all_rows_ok (k := k) h1 hn
  have L : lcE [3, 4] (.nm 4) (itE .seq (d1 (clR (callN tb (k + 3)) 3 (dC (varR 0) (dN))))) (tAnd (tB (o2 .isIn (argVar 1) (gV (oD .tup (dC (litR (.int 0)) (dC (clR (callN tb (k + 3)) 2 (dC (varR 4) (dN))) (dN))))))) (tB (o2 .isIn (argVar 2) (gV (oD .tup (dC (litR (.int 0)) (dC (clR (callN tb (k + 3)) 2 (dC (o1 .rev (argVar 4)) (dN))) (dN)))))))) (varR 4) [.val (.int n), .val (.int f), .val (.int l), .und, .und] = .ok (.lst (((rowsN n n).filter (hit f l)).map tD)) [.val (.int n), .val (.int f), .val (.int l), .und, .und] := by
    refine (lcE_of (xs := (rowsN n n).map tD) (l := ((rowsN n n).filter (hit f l)).map tD) (ε1 := [.val (.int n), .val (.int f), .val (.int l), .und, .und]) (ε2 := [.val (.int n), .val (.int f), .val (.int l), .und, .und]) ?_ rfl ?_).trans rfl
    · simp only [v_bind, v_bindx, v_gt0, v_gtS, v_set0, v_setS, v_lit, v_var, v_varV, v_varO, v_varR, v_arg, v_argV, v_argO, v_gV, v_dN, v_dC, v_gN, v_gC, v_d1, v_o1, v_o2, v_o3, v_oD, v_oG, v_opR, v_opRx, v_opF, v_opG, v_opD, v_opDx, v_ds0, v_dsV, v_dsB, v_dsBV, v_dsBO, v_map, v_ch, v_chT, v_chF, v_tB, v_asB, v_asBx, v_tAnd, v_tOr, v_tNot, v_eAnd, v_eOr, v_eNot, v_eIf, v_itE, v_itR, v_itG, v_r1, v_r2, v_seqT, v_seqL, v_clR, v_callR, v_callRx, v_clG, v_clGx, v_clf, v_callf, v_clfG, v_clio, v_cioF, v_cioG, v_cioH, v_oV, v_vlR, v_vlRx, v_oO, v_owL, v_owD, v_sSet, v_setR, v_setRx, v_okV, v_okS, v_sUnp, v_unpR, v_unpG, v_put1, v_putT, v_puts0, v_putsS, v_sPar, v_parR, v_sPut, v_putR, v_putG, v_own, v_putL, v_putD, v_aug, v_augG, v_augH, v_app, v_appF, v_appG, v_sExp, v_expR, v_expRx, v_sRet, v_retR, v_retRx, v_sRetf, v_retf, v_sEnd, v_sRaise, v_sIf, v_ifR, v_ifRx, v_sFor, v_forR, v_sSeq, v_seqN, v_seqR, v_seqx, v_sYes, v_get1, v_get2, v_isD, v_getR1, v_getR2, v_dct1, v_add, v_addT, v_addL, v_sub, v_mul, v_fdiv, v_mod, v_pow, v_neg, v_lt, v_le, v_gtp, v_ge, v_eqI, v_neI, v_eqB, v_neB, v_isN, v_inT, v_ninT, v_ixT, v_ixL, v_ixD, v_revT, v_tup, v_lst, v_dnew, v_dnewT, v_lenT, v_lenL, v_lenD, v_tofT, v_tofL, v_lofS, v_sumL, v_min2, v_max2, v_intI, v_intB, v_allL, v_isi, isi, if_true, if_false, Bool.and_self, Bool.and_true, Bool.true_and, Bool.and_false, Bool.false_and, Bool.or_true, Bool.true_or, Bool.or_false, Bool.false_or, Bool.not_true, Bool.not_false, Bool.false_eq_true, List.length_cons, List.length_nil, Nat.reduceAdd, Nat.reduceLeDiff, decide_true, decide_false, List.set_cons_zero, List.set_cons_succ, w2]
    · -- each row
      have key : ∀ (rs : List (List Nat)) (acc : List D), acc.length + rs.length ≤ line → lcGo [3, 4] (.nm 4) (tAnd (tB (o2 .isIn (argVar 1) (gV (oD .tup (dC (litR (.int 0)) (dC (clR (callN tb (k + 3)) 2 (dC (varR 4) (dN))) (dN))))))) (tB (o2 .isIn (argVar 2) (gV (oD .tup (dC (litR (.int 0)) (dC (clR (callN tb (k + 3)) 2 (dC (o1 .rev (argVar 4)) (dN))) (dN)))))))) (varR 4) (rs.map tD) acc [.val (.int n), .val (.int f), .val (.int l), .und, .und] = .ok (acc ++ (rs.filter (hit f l)).map tD) [.val (.int n), .val (.int f), .val (.int l), .und, .und] := by
        intro rs
        induction rs with
        | nil => intro acc _; rw [List.filter_nil, List.map_nil, List.append_nil]; rfl
        | cons r rs ih =>
          intro acc hacc
          rw [List.length_cons] at hacc
          have s1 : callN tb (k + 3) 2 [tD r] = .ok (.int (sn r : Nat)) := seen_ok (k := k + 2) r
          have s2 : callN tb (k + 3) 2 [tD r.reverse] = .ok (.int (sn r.reverse : Nat)) := seen_ok (k := k + 2) r.reverse
          have l2 : (2 ≤ line) = True := by decide
          have et : (tAnd (tB (o2 .isIn (argVar 1) (gV (oD .tup (dC (litR (.int 0)) (dC (clR (callN tb (k + 3)) 2 (dC (varR 4) (dN))) (dN))))))) (tB (o2 .isIn (argVar 2) (gV (oD .tup (dC (litR (.int 0)) (dC (clR (callN tb (k + 3)) 2 (dC (o1 .rev (argVar 4)) (dN))) (dN))))))) : En → R Bool) [.val (.int n), .val (.int f), .val (.int l), .und, .val (tD r)] = .ok (hit f l r) [.val (.int n), .val (.int f), .val (.int l), .und, .val (tD r)] := by
            have er : pr .rev [tD r] = some (tD r.reverse) := by unfold tD; rw [v_revT, tD_rev]
            by_cases h : sn r = f
            · simp only [v_bind, v_bindx, v_gt0, v_gtS, v_set0, v_setS, v_lit, v_var, v_varV, v_varO, v_varR, v_arg, v_argV, v_argO, v_gV, v_dN, v_dC, v_gN, v_gC, v_d1, v_o1, v_o2, v_o3, v_oD, v_oG, v_opR, v_opRx, v_opF, v_opG, v_opD, v_opDx, v_ds0, v_dsV, v_dsB, v_dsBV, v_dsBO, v_map, v_ch, v_chT, v_chF, v_tB, v_asB, v_asBx, v_tAnd, v_tOr, v_tNot, v_eAnd, v_eOr, v_eNot, v_eIf, v_itE, v_itR, v_itG, v_r1, v_r2, v_seqT, v_seqL, v_clR, v_callR, v_callRx, v_clG, v_clGx, v_clf, v_callf, v_clfG, v_clio, v_cioF, v_cioG, v_cioH, v_oV, v_vlR, v_vlRx, v_oO, v_owL, v_owD, v_sSet, v_setR, v_setRx, v_okV, v_okS, v_sUnp, v_unpR, v_unpG, v_put1, v_putT, v_puts0, v_putsS, v_sPar, v_parR, v_sPut, v_putR, v_putG, v_own, v_putL, v_putD, v_aug, v_augG, v_augH, v_app, v_appF, v_appG, v_sExp, v_expR, v_expRx, v_sRet, v_retR, v_retRx, v_sRetf, v_retf, v_sEnd, v_sRaise, v_sIf, v_ifR, v_ifRx, v_sFor, v_forR, v_sSeq, v_seqN, v_seqR, v_seqx, v_sYes, v_get1, v_get2, v_isD, v_getR1, v_getR2, v_dct1, v_add, v_addT, v_addL, v_sub, v_mul, v_fdiv, v_mod, v_pow, v_neg, v_lt, v_le, v_gtp, v_ge, v_eqI, v_neI, v_eqB, v_neB, v_isN, v_inT, v_ninT, v_ixT, v_ixL, v_ixD, v_revT, v_tup, v_lst, v_dnew, v_dnewT, v_lenT, v_lenL, v_lenD, v_tofT, v_tofL, v_lofS, v_sumL, v_min2, v_max2, v_intI, v_intB, v_allL, v_isi, isi, if_true, if_false, Bool.and_self, Bool.and_true, Bool.true_and, Bool.and_false, Bool.false_and, Bool.or_true, Bool.true_or, Bool.or_false, Bool.false_or, Bool.not_true, Bool.not_false, Bool.false_eq_true, List.length_cons, List.length_nil, Nat.reduceAdd, Nat.reduceLeDiff, decide_true, decide_false, List.set_cons_zero, List.set_cons_succ, s1, s2, l2, in2 hf1, in2 hl1, decide_eq_true h, er]
              unfold hit
              rw [decide_eq_true h, Bool.true_and]
            · simp only [v_bind, v_bindx, v_gt0, v_gtS, v_set0, v_setS, v_lit, v_var, v_varV, v_varO, v_varR, v_arg, v_argV, v_argO, v_gV, v_dN, v_dC, v_gN, v_gC, v_d1, v_o1, v_o2, v_o3, v_oD, v_oG, v_opR, v_opRx, v_opF, v_opG, v_opD, v_opDx, v_ds0, v_dsV, v_dsB, v_dsBV, v_dsBO, v_map, v_ch, v_chT, v_chF, v_tB, v_asB, v_asBx, v_tAnd, v_tOr, v_tNot, v_eAnd, v_eOr, v_eNot, v_eIf, v_itE, v_itR, v_itG, v_r1, v_r2, v_seqT, v_seqL, v_clR, v_callR, v_callRx, v_clG, v_clGx, v_clf, v_callf, v_clfG, v_clio, v_cioF, v_cioG, v_cioH, v_oV, v_vlR, v_vlRx, v_oO, v_owL, v_owD, v_sSet, v_setR, v_setRx, v_okV, v_okS, v_sUnp, v_unpR, v_unpG, v_put1, v_putT, v_puts0, v_putsS, v_sPar, v_parR, v_sPut, v_putR, v_putG, v_own, v_putL, v_putD, v_aug, v_augG, v_augH, v_app, v_appF, v_appG, v_sExp, v_expR, v_expRx, v_sRet, v_retR, v_retRx, v_sRetf, v_retf, v_sEnd, v_sRaise, v_sIf, v_ifR, v_ifRx, v_sFor, v_forR, v_sSeq, v_seqN, v_seqR, v_seqx, v_sYes, v_get1, v_get2, v_isD, v_getR1, v_getR2, v_dct1, v_add, v_addT, v_addL, v_sub, v_mul, v_fdiv, v_mod, v_pow, v_neg, v_lt, v_le, v_gtp, v_ge, v_eqI, v_neI, v_eqB, v_neB, v_isN, v_inT, v_ninT, v_ixT, v_ixL, v_ixD, v_revT, v_tup, v_lst, v_dnew, v_dnewT, v_lenT, v_lenL, v_lenD, v_tofT, v_tofL, v_lofS, v_sumL, v_min2, v_max2, v_intI, v_intB, v_allL, v_isi, isi, if_true, if_false, Bool.and_self, Bool.and_true, Bool.true_and, Bool.and_false, Bool.false_and, Bool.or_true, Bool.true_or, Bool.or_false, Bool.false_or, Bool.not_true, Bool.not_false, Bool.false_eq_true, List.length_cons, List.length_nil, Nat.reduceAdd, Nat.reduceLeDiff, decide_true, decide_false, List.set_cons_zero, List.set_cons_succ, s1, s2, l2, in2 hf1, in2 hl1, decide_eq_false h, er]
              unfold hit
              rw [decide_eq_false h, Bool.false_and]
          rw [List.map_cons]
          show (match Tg.put (.nm 4) (tD r) [.val (.int n), .val (.int f), .val (.int l), .und, .und] with
            | none => R.bad
            | some ε1 => match (tAnd (tB (o2 .isIn (argVar 1) (gV (oD .tup (dC (litR (.int 0)) (dC (clR (callN tb (k + 3)) 2 (dC (varR 4) (dN))) (dN))))))) (tB (o2 .isIn (argVar 2) (gV (oD .tup (dC (litR (.int 0)) (dC (clR (callN tb (k + 3)) 2 (dC (o1 .rev (argVar 4)) (dN))) (dN))))))) : En → R Bool) ε1 with
              | .ok true ε2 => (match varR 4 ε2 with
                | .ok d ε3 => if acc.length < line then lcGo [3, 4] (.nm 4) _ (varR 4) (rs.map tD) (acc ++ [d]) (und ε3 [3, 4]) else .bad
                | _ => .bad)
              | .ok false ε2 => lcGo [3, 4] (.nm 4) _ (varR 4) (rs.map tD) acc (und ε2 [3, 4])
              | _ => .bad) = _
          have ep : Tg.put (.nm 4) (tD r) [.val (.int n), .val (.int f), .val (.int l), .und, .und] = some [.val (.int n), .val (.int f), .val (.int l), .und, .val (tD r)] := rfl
          rw [ep]
          simp only [et]
          cases hh : hit f l r with
          | true =>
            have ev4 : varR 4 [.val (.int n), .val (.int f), .val (.int l), .und, .val (tD r)] = .ok (tD r) [.val (.int n), .val (.int f), .val (.int l), .und, .val (tD r)] := by with_unfolding_all rfl
            simp only [ev4]
            rw [if_pos (by omega), List.filter_cons_of_pos hh, List.map_cons]
            refine (ih (acc ++ [tD r]) (by rw [List.length_append, List.length_singleton]; omega)).trans ?_
            rw [List.append_assoc]; rfl
          | false =>
            rw [List.filter_cons_of_neg (by rw [hh]; decide)]
            exact ih acc (by omega)
      have := key (rowsN n n) [] (by have := rowsN_line (n := n) (j := n) hn hn; rw [List.length_nil]; show _ ≤ 16777216; omega)
      rw [List.nil_append] at this
      exact this
  simp only [v_bind, v_bindx, v_gt0, v_gtS, v_set0, v_setS, v_lit, v_var, v_varV, v_varO, v_varR, v_arg, v_argV, v_argO, v_gV, v_dN, v_dC, v_gN, v_gC, v_d1, v_o1, v_o2, v_o3, v_oD, v_oG, v_opR, v_opRx, v_opF, v_opG, v_opD, v_opDx, v_ds0, v_dsV, v_dsB, v_dsBV, v_dsBO, v_map, v_ch, v_chT, v_chF, v_tB, v_asB, v_asBx, v_tAnd, v_tOr, v_tNot, v_eAnd, v_eOr, v_eNot, v_eIf, v_itE, v_itR, v_itG, v_r1, v_r2, v_seqT, v_seqL, v_clR, v_callR, v_callRx, v_clG, v_clGx, v_clf, v_callf, v_clfG, v_clio, v_cioF, v_cioG, v_cioH, v_oV, v_vlR, v_vlRx, v_oO, v_owL, v_owD, v_sSet, v_setR, v_setRx, v_okV, v_okS, v_sUnp, v_unpR, v_unpG, v_put1, v_putT, v_puts0, v_putsS, v_sPar, v_parR, v_sPut, v_putR, v_putG, v_own, v_putL, v_putD, v_aug, v_augG, v_augH, v_app, v_appF, v_appG, v_sExp, v_expR, v_expRx, v_sRet, v_retR, v_retRx, v_sRetf, v_retf, v_sEnd, v_sRaise, v_sIf, v_ifR, v_ifRx, v_sFor, v_forR, v_sSeq, v_seqN, v_seqR, v_seqx, v_sYes, v_get1, v_get2, v_isD, v_getR1, v_getR2, v_dct1, v_add, v_addT, v_addL, v_sub, v_mul, v_fdiv, v_mod, v_pow, v_neg, v_lt, v_le, v_gtp, v_ge, v_eqI, v_neI, v_eqB, v_neB, v_isN, v_inT, v_ninT, v_ixT, v_ixL, v_ixD, v_revT, v_tup, v_lst, v_dnew, v_dnewT, v_lenT, v_lenL, v_lenD, v_tofT, v_tofL, v_lofS, v_sumL, v_min2, v_max2, v_intI, v_intB, v_allL, v_isi, isi, if_true, if_false, Bool.and_self, Bool.and_true, Bool.true_and, Bool.and_false, Bool.false_and, Bool.or_true, Bool.true_or, Bool.or_false, Bool.false_or, Bool.not_true, Bool.not_false, Bool.false_eq_true, List.length_cons, List.length_nil, Nat.reduceAdd, Nat.reduceLeDiff, decide_true, decide_false, List.set_cons_zero, List.set_cons_succ, w]
  rw [L]
  simp only [v_bind, v_bindx, v_gt0, v_gtS, v_set0, v_setS, v_lit, v_var, v_varV, v_varO, v_varR, v_arg, v_argV, v_argO, v_gV, v_dN, v_dC, v_gN, v_gC, v_d1, v_o1, v_o2, v_o3, v_oD, v_oG, v_opR, v_opRx, v_opF, v_opG, v_opD, v_opDx, v_ds0, v_dsV, v_dsB, v_dsBV, v_dsBO, v_map, v_ch, v_chT, v_chF, v_tB, v_asB, v_asBx, v_tAnd, v_tOr, v_tNot, v_eAnd, v_eOr, v_eNot, v_eIf, v_itE, v_itR, v_itG, v_r1, v_r2, v_seqT, v_seqL, v_clR, v_callR, v_callRx, v_clG, v_clGx, v_clf, v_callf, v_clfG, v_clio, v_cioF, v_cioG, v_cioH, v_oV, v_vlR, v_vlRx, v_oO, v_owL, v_owD, v_sSet, v_setR, v_setRx, v_okV, v_okS, v_sUnp, v_unpR, v_unpG, v_put1, v_putT, v_puts0, v_putsS, v_sPar, v_parR, v_sPut, v_putR, v_putG, v_own, v_putL, v_putD, v_aug, v_augG, v_augH, v_app, v_appF, v_appG, v_sExp, v_expR, v_expRx, v_sRet, v_retR, v_retRx, v_sRetf, v_retf, v_sEnd, v_sRaise, v_sIf, v_ifR, v_ifRx, v_sFor, v_forR, v_sSeq, v_seqN, v_seqR, v_seqx, v_sYes, v_get1, v_get2, v_isD, v_getR1, v_getR2, v_dct1, v_add, v_addT, v_addL, v_sub, v_mul, v_fdiv, v_mod, v_pow, v_neg, v_lt, v_le, v_gtp, v_ge, v_eqI, v_neI, v_eqB, v_neB, v_isN, v_inT, v_ninT, v_ixT, v_ixL, v_ixD, v_revT, v_tup, v_lst, v_dnew, v_dnewT, v_lenT, v_lenL, v_lenD, v_tofT, v_tofL, v_lofS, v_sumL, v_min2, v_max2, v_intI, v_intB, v_allL, v_isi, isi, if_true, if_false, Bool.and_self, Bool.and_true, Bool.true_and, Bool.and_false, Bool.false_and, Bool.or_true, Bool.true_or, Bool.or_false, Bool.false_or, Bool.not_true, Bool.not_false, Bool.false_eq_true, List.length_cons, List.length_nil, Nat.reduceAdd, Nat.reduceLeDiff, decide_true, decide_false, List.set_cons_zero, List.set_cons_succ, bodyR]
theorem counts : ∀ n ∈ [1, 2, 3, 4, 5, 6], ∀ f ∈ one1 n, ∀ l ∈ one1 n, ((rowsN n n).filter (hit f l)).length = B n f l := by
  decide +kernel
end Ev.K94
set_option Elab.async false
set_option linter.all false
set_option maxRecDepth 100000
set_option maxHeartbeats 4000000
namespace Ev.K94
open PySem PySem.Spec PyProof.Rows L2
def lwK (cl : Cl) : En → R Fl := sFor (.nm 5) (itE .rng2 (dC (litR (.int 1)) (dC (o2 .add (argVar 2) (gV (litR (.int 1)))) (dN)))) (sSet 4 (oV (o2 .mul (argVar 4) (argVar 5))))
theorem whole_ok {n : Nat} (hn : n ≤ 60) {cl : Cl} {s0 s1 s3 s5 s6 s7 s8 s9 s10 s11 s12 s13 s14 : Sl} : ∃ t5, lwK cl [s0, s1, .val (.int n), s3, .val (.int 1), s5, s6, s7, s8, s9, s10, s11, s12, s13, s14] = .ok .nx [s0, s1, .val (.int n), s3, .val (.int (fac n : Nat)), t5, s6, s7, s8, s9, s10, s11, s12, s13, s14] := by
  obtain ⟨ε', e1, t5, e2⟩ := forGo_inv (tg := .nm 5) (b := sSet 4 (oV (o2 .mul (argVar 4) (argVar 5)))) (rngD 1 1 n) (fun j ε => ∃ t5, ε = [s0, s1, .val (.int n), s3, .val (.int (fac j : Nat)), t5, s6, s7, s8, s9, s10, s11, s12, s13, s14]) 0 (fun j hj ε p => by
    obtain ⟨t5, rfl⟩ := p
    rw [rngD_len] at hj
    rw [rngD_at]
    have sm : small (1 + (j : Int) * 1) = true := decide_eq_true (by omega)
    have ef : ((fac j : Nat) : Int) * (1 + (j : Int) * 1) = (fac (j + 1) : Nat) := by
      show _ = ((fac j * (j + 1) : Nat) : Int)
      rw [Int.natCast_mul, show ((j + 1 : Nat) : Int) = 1 + (j : Int) * 1 from by omega]
    refine ⟨_, [s0, s1, .val (.int n), s3, .val (.int (fac (j + 1) : Nat)), .val (.int (1 + (j : Int) * 1)), s6, s7, s8, s9, s10, s11, s12, s13, s14], v_put1, .inl ?_, _, by rw [Nat.zero_add]⟩
    rw [Nat.zero_add]
    simp only [v_bind, v_bindx, v_gt0, v_gtS, v_set0, v_setS, v_lit, v_var, v_varV, v_varO, v_varR, v_arg, v_argV, v_argO, v_gV, v_dN, v_dC, v_gN, v_gC, v_d1, v_o1, v_o2, v_o3, v_oD, v_oG, v_opR, v_opRx, v_opF, v_opG, v_opD, v_opDx, v_ds0, v_dsV, v_dsB, v_dsBV, v_dsBO, v_map, v_ch, v_chT, v_chF, v_tB, v_asB, v_asBx, v_tAnd, v_tOr, v_tNot, v_eAnd, v_eOr, v_eNot, v_eIf, v_itE, v_itR, v_itG, v_r1, v_r2, v_seqT, v_seqL, v_clR, v_callR, v_callRx, v_clG, v_clGx, v_clf, v_callf, v_clfG, v_clio, v_cioF, v_cioG, v_cioH, v_oV, v_vlR, v_vlRx, v_oO, v_owL, v_owD, v_sSet, v_setR, v_setRx, v_okV, v_okS, v_sUnp, v_unpR, v_unpG, v_put1, v_putT, v_puts0, v_putsS, v_sPar, v_parR, v_sPut, v_putR, v_putG, v_own, v_putL, v_putD, v_aug, v_augG, v_augH, v_app, v_appF, v_appG, v_sExp, v_expR, v_expRx, v_sRet, v_retR, v_retRx, v_sRetf, v_retf, v_sEnd, v_sRaise, v_sIf, v_ifR, v_ifRx, v_sFor, v_forR, v_sSeq, v_seqN, v_seqR, v_seqx, v_sYes, v_get1, v_get2, v_isD, v_getR1, v_getR2, v_dct1, v_add, v_addT, v_addL, v_sub, v_mul, v_fdiv, v_mod, v_pow, v_neg, v_lt, v_le, v_gtp, v_ge, v_eqI, v_neI, v_eqB, v_neB, v_isN, v_inT, v_ninT, v_ixT, v_ixL, v_ixD, v_revT, v_tup, v_lst, v_dnew, v_dnewT, v_lenT, v_lenL, v_lenD, v_tofT, v_tofL, v_lofS, v_sumL, v_min2, v_max2, v_intI, v_intB, v_allL, v_isi, isi, if_true, if_false, Bool.and_self, Bool.and_true, Bool.true_and, Bool.and_false, Bool.false_and, Bool.or_true, Bool.true_or, Bool.or_false, Bool.false_or, Bool.not_true, Bool.not_false, Bool.false_eq_true, List.length_cons, List.length_nil, Nat.reduceAdd, Nat.reduceLeDiff, decide_true, decide_false, List.set_cons_zero, List.set_cons_succ, sm, ef]) _ ⟨s5, rfl⟩
  rw [Nat.zero_add, rngD_len] at e2
  subst e2
  have b1 : bnd 1 = true := by decide
  have b2 : bnd ((n : Int) + 1) = true := decide_eq_true (by omega)
  have et : ((n : Int) + 1 - 1).toNat = n := by omega
  refine ⟨t5, ?_⟩
  have h2 : itE .rng2 (dC (litR (.int 1)) (dC (o2 .add (argVar 2) (gV (litR (.int 1)))) (dN))) [s0, s1, .val (.int n), s3, .val (.int 1), s5, s6, s7, s8, s9, s10, s11, s12, s13, s14] = .ok (rngD 1 1 n) [s0, s1, .val (.int n), s3, .val (.int 1), s5, s6, s7, s8, s9, s10, s11, s12, s13, s14] := by simp only [v_bind, v_bindx, v_gt0, v_gtS, v_set0, v_setS, v_lit, v_var, v_varV, v_varO, v_varR, v_arg, v_argV, v_argO, v_gV, v_dN, v_dC, v_gN, v_gC, v_d1, v_o1, v_o2, v_o3, v_oD, v_oG, v_opR, v_opRx, v_opF, v_opG, v_opD, v_opDx, v_ds0, v_dsV, v_dsB, v_dsBV, v_dsBO, v_map, v_ch, v_chT, v_chF, v_tB, v_asB, v_asBx, v_tAnd, v_tOr, v_tNot, v_eAnd, v_eOr, v_eNot, v_eIf, v_itE, v_itR, v_itG, v_r1, v_r2, v_seqT, v_seqL, v_clR, v_callR, v_callRx, v_clG, v_clGx, v_clf, v_callf, v_clfG, v_clio, v_cioF, v_cioG, v_cioH, v_oV, v_vlR, v_vlRx, v_oO, v_owL, v_owD, v_sSet, v_setR, v_setRx, v_okV, v_okS, v_sUnp, v_unpR, v_unpG, v_put1, v_putT, v_puts0, v_putsS, v_sPar, v_parR, v_sPut, v_putR, v_putG, v_own, v_putL, v_putD, v_aug, v_augG, v_augH, v_app, v_appF, v_appG, v_sExp, v_expR, v_expRx, v_sRet, v_retR, v_retRx, v_sRetf, v_retf, v_sEnd, v_sRaise, v_sIf, v_ifR, v_ifRx, v_sFor, v_forR, v_sSeq, v_seqN, v_seqR, v_seqx, v_sYes, v_get1, v_get2, v_isD, v_getR1, v_getR2, v_dct1, v_add, v_addT, v_addL, v_sub, v_mul, v_fdiv, v_mod, v_pow, v_neg, v_lt, v_le, v_gtp, v_ge, v_eqI, v_neI, v_eqB, v_neB, v_isN, v_inT, v_ninT, v_ixT, v_ixL, v_ixD, v_revT, v_tup, v_lst, v_dnew, v_dnewT, v_lenT, v_lenL, v_lenD, v_tofT, v_tofL, v_lofS, v_sumL, v_min2, v_max2, v_intI, v_intB, v_allL, v_isi, isi, if_true, if_false, Bool.and_self, Bool.and_true, Bool.true_and, Bool.and_false, Bool.false_and, Bool.or_true, Bool.true_or, Bool.or_false, Bool.false_or, Bool.not_true, Bool.not_false, Bool.false_eq_true, List.length_cons, List.length_nil, Nat.reduceAdd, Nat.reduceLeDiff, decide_true, decide_false, List.set_cons_zero, List.set_cons_succ, b1, b2, et]
  unfold lwK
  rw [v_sFor, h2, v_forR]
  exact e1
theorem sum_sorted {n : Int} {ps : List (Int × Int)} {w : Int × Int → Int} (h : Ct n ps w) (c : Int × Int → Bool) : (((ps.mergeSort leP).filter c).map w).sum = (ps.map fun p => if c p then w p else 0).sum := by
  have e : ∀ l : List (Int × Int), ((l.filter c).map w).sum = (l.map fun p => if c p then w p else 0).sum := fun l => by
    induction l with
    | nil => rfl
    | cons x l ih =>
      rw [List.map_cons, List.sum_cons, ← ih]
      cases hc : c x with
      | true => rw [List.filter_cons_of_pos hc, List.map_cons, List.sum_cons]; rfl
      | false => rw [List.filter_cons_of_neg (by rw [hc]; decide)]; show _ = 0 + _; omega
  rw [e, sum_perm (List.mergeSort_perm ps leP)]

theorem lc_sorted {n : Int} {ps : List (Int × Int)} {w : Int × Int → Int} (h : Ct n ps w) (hn : n ≤ 60) (t : En → R Bool) (c : Int × Int → Bool) {s0 s1 s2 s4 s5 s6 s7 s8 s9 s10 s11 s12 s13 s14 : Sl} (hp : plain s13 = true ∧ plain s14 = true)
    (ht : ∀ p, t [s0, s1, s2, .val (.dct true (DictOf ps w)), s4, s5, s6, s7, s8, s9, s10, s11, s12, .und, .val (ofPair p)] = .ok (c p) [s0, s1, s2, .val (.dct true (DictOf ps w)), s4, s5, s6, s7, s8, s9, s10, s11, s12, .und, .val (ofPair p)]) :
    lcE [13, 14] (.nm 14) (itE .seq (d1 (oG .sorted (gC (argVar 3) (gN))))) t (o2 .ix (argVar 3) (argVar 14)) [s0, s1, s2, .val (.dct true (DictOf ps w)), s4, s5, s6, s7, s8, s9, s10, s11, s12, s13, s14] = .ok (.lst ((((ps.mergeSort leP).filter c).map w).map .int)) [s0, s1, s2, .val (.dct true (DictOf ps w)), s4, s5, s6, s7, s8, s9, s10, s11, s12, s13, s14] := by
  refine (lcE_of (xs := (ps.mergeSort leP).map ofPair) (l := (((ps.mergeSort leP).filter c).map w).map .int) (ε1 := [s0, s1, s2, .val (.dct true (DictOf ps w)), s4, s5, s6, s7, s8, s9, s10, s11, s12, s13, s14]) (ε2 := [s0, s1, s2, .val (.dct true (DictOf ps w)), s4, s5, s6, s7, s8, s9, s10, s11, s12, .und, .und]) ?_ ?_ ?_).trans rfl
  · simp only [v_bind, v_bindx, v_gt0, v_gtS, v_set0, v_setS, v_lit, v_var, v_varV, v_varO, v_varR, v_arg, v_argV, v_argO, v_gV, v_dN, v_dC, v_gN, v_gC, v_d1, v_o1, v_o2, v_o3, v_oD, v_oG, v_opR, v_opRx, v_opF, v_opG, v_opD, v_opDx, v_ds0, v_dsV, v_dsB, v_dsBV, v_dsBO, v_map, v_ch, v_chT, v_chF, v_tB, v_asB, v_asBx, v_tAnd, v_tOr, v_tNot, v_eAnd, v_eOr, v_eNot, v_eIf, v_itE, v_itR, v_itG, v_r1, v_r2, v_seqT, v_seqL, v_clR, v_callR, v_callRx, v_clG, v_clGx, v_clf, v_callf, v_clfG, v_clio, v_cioF, v_cioG, v_cioH, v_oV, v_vlR, v_vlRx, v_oO, v_owL, v_owD, v_sSet, v_setR, v_setRx, v_okV, v_okS, v_sUnp, v_unpR, v_unpG, v_put1, v_putT, v_puts0, v_putsS, v_sPar, v_parR, v_sPut, v_putR, v_putG, v_own, v_putL, v_putD, v_aug, v_augG, v_augH, v_app, v_appF, v_appG, v_sExp, v_expR, v_expRx, v_sRet, v_retR, v_retRx, v_sRetf, v_retf, v_sEnd, v_sRaise, v_sIf, v_ifR, v_ifRx, v_sFor, v_forR, v_sSeq, v_seqN, v_seqR, v_seqx, v_sYes, v_get1, v_get2, v_isD, v_getR1, v_getR2, v_dct1, v_add, v_addT, v_addL, v_sub, v_mul, v_fdiv, v_mod, v_pow, v_neg, v_lt, v_le, v_gtp, v_ge, v_eqI, v_neI, v_eqB, v_neB, v_isN, v_inT, v_ninT, v_ixT, v_ixL, v_ixD, v_revT, v_tup, v_lst, v_dnew, v_dnewT, v_lenT, v_lenL, v_lenD, v_tofT, v_tofL, v_lofS, v_sumL, v_min2, v_max2, v_intI, v_intB, v_allL, v_isi, isi, if_true, if_false, Bool.and_self, Bool.and_true, Bool.true_and, Bool.and_false, Bool.false_and, Bool.or_true, Bool.true_or, Bool.or_false, Bool.false_or, Bool.not_true, Bool.not_false, Bool.false_eq_true, List.length_cons, List.length_nil, Nat.reduceAdd, Nat.reduceLeDiff, decide_true, decide_false, List.set_cons_zero, List.set_cons_succ, sorted_of]
  · show (plain s13 && (plain s14 && true)) = true
    rw [hp.1, hp.2]; rfl
  · have hm : ∀ p ∈ ps.mergeSort leP, p ∈ ps := fun p hp => (List.mergeSort_perm ps leP).mem_iff.mp hp
    have hlen := h.len hn
    have key : ∀ (L : List (Int × Int)) (acc : List D), (∀ p ∈ L, p ∈ ps) → acc.length + L.length ≤ line → lcGo [13, 14] (.nm 14) t (o2 .ix (argVar 3) (argVar 14)) (L.map ofPair) acc [s0, s1, s2, .val (.dct true (DictOf ps w)), s4, s5, s6, s7, s8, s9, s10, s11, s12, .und, .und] = .ok (acc ++ ((L.filter c).map w).map .int) [s0, s1, s2, .val (.dct true (DictOf ps w)), s4, s5, s6, s7, s8, s9, s10, s11, s12, .und, .und] := by
      intro L
      induction L with
      | nil =>
        intro acc _ _
        have e : acc ++ ((([] : List (Int × Int)).filter c).map w).map D.int = acc := List.append_nil acc
        rw [e]; rfl
      | cons p L ih =>
        intro acc hL hacc
        rw [List.length_cons] at hacc
        rw [List.map_cons]
        have ep : Tg.put (.nm 14) (ofPair p) [s0, s1, s2, .val (.dct true (DictOf ps w)), s4, s5, s6, s7, s8, s9, s10, s11, s12, .und, .und] = some [s0, s1, s2, .val (.dct true (DictOf ps w)), s4, s5, s6, s7, s8, s9, s10, s11, s12, .und, .val (ofPair p)] := rfl
        have lk : dlook (DictOf ps w) (ofPair p) = some (.int (w p)) := by rw [dlook_of, if_pos (hL p List.mem_cons_self)]
        have ee : o2 .ix (argVar 3) (argVar 14) [s0, s1, s2, .val (.dct true (DictOf ps w)), s4, s5, s6, s7, s8, s9, s10, s11, s12, .und, .val (ofPair p)] = .ok (.int (w p)) [s0, s1, s2, .val (.dct true (DictOf ps w)), s4, s5, s6, s7, s8, s9, s10, s11, s12, .und, .val (ofPair p)] := by
          simp only [v_bind, v_bindx, v_gt0, v_gtS, v_set0, v_setS, v_lit, v_var, v_varV, v_varO, v_varR, v_arg, v_argV, v_argO, v_gV, v_dN, v_dC, v_gN, v_gC, v_d1, v_o1, v_o2, v_o3, v_oD, v_oG, v_opR, v_opRx, v_opF, v_opG, v_opD, v_opDx, v_ds0, v_dsV, v_dsB, v_dsBV, v_dsBO, v_map, v_ch, v_chT, v_chF, v_tB, v_asB, v_asBx, v_tAnd, v_tOr, v_tNot, v_eAnd, v_eOr, v_eNot, v_eIf, v_itE, v_itR, v_itG, v_r1, v_r2, v_seqT, v_seqL, v_clR, v_callR, v_callRx, v_clG, v_clGx, v_clf, v_callf, v_clfG, v_clio, v_cioF, v_cioG, v_cioH, v_oV, v_vlR, v_vlRx, v_oO, v_owL, v_owD, v_sSet, v_setR, v_setRx, v_okV, v_okS, v_sUnp, v_unpR, v_unpG, v_put1, v_putT, v_puts0, v_putsS, v_sPar, v_parR, v_sPut, v_putR, v_putG, v_own, v_putL, v_putD, v_aug, v_augG, v_augH, v_app, v_appF, v_appG, v_sExp, v_expR, v_expRx, v_sRet, v_retR, v_retRx, v_sRetf, v_retf, v_sEnd, v_sRaise, v_sIf, v_ifR, v_ifRx, v_sFor, v_forR, v_sSeq, v_seqN, v_seqR, v_seqx, v_sYes, v_get1, v_get2, v_isD, v_getR1, v_getR2, v_dct1, v_add, v_addT, v_addL, v_sub, v_mul, v_fdiv, v_mod, v_pow, v_neg, v_lt, v_le, v_gtp, v_ge, v_eqI, v_neI, v_eqB, v_neB, v_isN, v_inT, v_ninT, v_ixT, v_ixL, v_ixD, v_revT, v_tup, v_lst, v_dnew, v_dnewT, v_lenT, v_lenL, v_lenD, v_tofT, v_tofL, v_lofS, v_sumL, v_min2, v_max2, v_intI, v_intB, v_allL, v_isi, isi, if_true, if_false, Bool.and_self, Bool.and_true, Bool.true_and, Bool.and_false, Bool.false_and, Bool.or_true, Bool.true_or, Bool.or_false, Bool.false_or, Bool.not_true, Bool.not_false, Bool.false_eq_true, List.length_cons, List.length_nil, Nat.reduceAdd, Nat.reduceLeDiff, decide_true, decide_false, List.set_cons_zero, List.set_cons_succ, hkey_of, lk]
        show (match Tg.put (.nm 14) (ofPair p) [s0, s1, s2, .val (.dct true (DictOf ps w)), s4, s5, s6, s7, s8, s9, s10, s11, s12, .und, .und] with
            | none => R.bad
            | some ε1 => match t ε1 with
              | .ok true ε2 => (match o2 .ix (argVar 3) (argVar 14) ε2 with
                | .ok d ε3 => if acc.length < line then lcGo [13, 14] (.nm 14) t (o2 .ix (argVar 3) (argVar 14)) (L.map ofPair) (acc ++ [d]) (und ε3 [13, 14]) else .bad
                | _ => .bad)
              | .ok false ε2 => lcGo [13, 14] (.nm 14) t (o2 .ix (argVar 3) (argVar 14)) (L.map ofPair) acc (und ε2 [13, 14])
              | _ => .bad) = _
        rw [ep]
        simp only [ht p]
        cases hc : c p with
        | true =>
          simp only [ee]
          rw [if_pos (by omega), List.filter_cons_of_pos hc, List.map_cons, List.map_cons]
          refine (ih (acc ++ [.int (w p)]) (fun q hq => hL q (List.mem_cons_of_mem _ hq)) (by rw [List.length_append, List.length_singleton]; omega)).trans ?_
          rw [List.append_assoc]; rfl
        | false =>
          rw [List.filter_cons_of_neg (by rw [hc]; decide)]
          exact ih acc (fun q hq => hL q (List.mem_cons_of_mem _ hq)) (by omega)
    have := key (ps.mergeSort leP) [] hm (by rw [(List.mergeSort_perm ps leP).length_eq, List.length_nil]; omega)
    rw [List.nil_append] at this
    exact this
end Ev.K94
set_option Elab.async false
set_option linter.all false
set_option maxRecDepth 100000
set_option maxHeartbeats 4000000
namespace Ev.K94
open PySem PySem.Spec PyProof.Rows L2
theorem drawN {k : Nat} {l : List D} {m : Int} (h : Dr l) (h1 : 0 < m) (h2 : m < 1073741824) : ∃ (v : Nat) (l' : List D), callN tb (k + 10) 11 [.lst l, .int m] = .okio (.int v) (.lst l') ∧ (v : Int) < m ∧ Dr l' := by
  obtain ⟨v, l', e, a, b, c⟩ := draw_ok (k := k + 9) h h1 h2
  exact ⟨v.toNat, l', by rw [show ((v.toNat : Nat) : Int) = v from by omega]; exact e, by omega, c⟩
theorem w9 {k n f l : Nat} (h0 : 1 ≤ n) (hn : n ≤ 40) : callN tb (k + 10) 9 [.int n, .int f, .int l] = .ok (.int (B n f l : Nat)) := count_both_ok (k := k + 6) h0 hn
theorem w12 {k : Nat} {a : Int} : callN tb (k + 10) 12 [.int a, .int a] = .ok (.bl true) := same_int (k := k + 9)
theorem w7 {k n m : Nat} (hn : n ≤ 40) : callN tb (k + 10) 7 [.int n, .int m] = .ok (.int (S n m : Nat)) := count_seen_ok (k := k + 7) hn
theorem get_B {n : Nat} (h1 : 1 ≤ n) {ps : List (Int × Int)} (h : Ct n ps (W (n - 1))) (f l : Nat) : (dlook (DictOf ps (W (n - 1))) (.tup [.int (f : Nat), .int (l : Nat)])).getD (.int 0) = .int (B n f l : Nat) := by
  have e : dlook (DictOf ps (W (n - 1))) (.tup [.int (f : Nat), .int (l : Nat)]) = if ((f : Int), (l : Int)) ∈ ps then some (.int (W (n - 1) ((f : Int), (l : Int)))) else none := dlook_of (p := ((f : Int), (l : Int)))
  have eb := W_B (n - 1) f l
  rw [show n - 1 + 1 = n from by omega] at eb
  rw [e, ← eb]
  by_cases hm : ((f : Int), (l : Int)) ∈ ps
  · rw [if_pos hm]; rfl
  · rw [if_neg hm, h.zero _ hm]; rfl
def turnB (cl : Cl) : En → R Fl := sSeq (sUnp (.tp [7, 8]) (oD .tup (dC (clioR cl 11 1 (dC (o2 .add (gV (oG .min2 (gC (argVar 2) (gC (gV (litR (.int 12))) (gN))))) (gV (litR (.int 2)))) (dN))) (dC (clioR cl 11 1 (dC (o2 .add (gV (oG .min2 (gC (argVar 2) (gC (gV (litR (.int 12))) (gN))))) (gV (litR (.int 2)))) (dN))) (dN))))) (sIf (tNot (tB (clR cl 12 (dC (clR cl 9 (dC (varR 2) (dC (varR 7) (dC (varR 8) (dN))))) (dC (get2R (argVar 3) (oD .tup (dC (varR 7) (dC (varR 8) (dN)))) (litR (.int 0))) (dN)))))) (sRet (litR (.bl false))) (sEnd .nx))
theorem turn_ok {k n : Nat} (h1 : 1 ≤ n) (hn : n ≤ 40) {ps : List (Int × Int)} (h : Ct n ps (W (n - 1))) {l : List D} (dr : Dr l) {s0 s4 s5 s6 s7 s8 s9 s10 s11 s12 s13 s14 : Sl} : ∃ t7 t8 l', Dr l' ∧ turnB (callN tb (k + 10)) [s0, .own1 (.lst l), .val (.int n), .val (.dct true (DictOf ps (W (n - 1)))), s4, s5, s6, s7, s8, s9, s10, s11, s12, s13, s14] = .ok .nx [s0, .own1 (.lst l'), .val (.int n), .val (.dct true (DictOf ps (W (n - 1)))), s4, s5, s6, .val t7, .val t8, s9, s10, s11, s12, s13, s14] := by
  have hm : 0 < (if (12 : Int) < (n : Int) then (12 : Int) else n) + 2 ∧ (if (12 : Int) < (n : Int) then (12 : Int) else n) + 2 < 1073741824 := by
    by_cases q : (12 : Int) < (n : Int)
    · rw [if_pos q]; decide
    · rw [if_neg q]; omega
  obtain ⟨f, l1, d1, _, dr1⟩ := drawN (k := k) dr hm.1 hm.2
  obtain ⟨g, l2, d2, _, dr2⟩ := drawN (k := k) dr1 hm.1 hm.2
  refine ⟨.int f, .int g, l2, dr2, ?_⟩
  have l2' : (2 ≤ line) = True := by decide
  have hk : hkey true (.tup [.int (f : Nat), .int (g : Nat)]) = true := rfl
  unfold turnB
  simp only [v_bind, v_bindx, v_gt0, v_gtS, v_set0, v_setS, v_lit, v_var, v_varV, v_varO, v_varR, v_arg, v_argV, v_argO, v_gV, v_dN, v_dC, v_gN, v_gC, v_d1, v_o1, v_o2, v_o3, v_oD, v_oG, v_opR, v_opRx, v_opF, v_opG, v_opD, v_opDx, v_ds0, v_dsV, v_dsB, v_dsBV, v_dsBO, v_map, v_ch, v_chT, v_chF, v_tB, v_asB, v_asBx, v_tAnd, v_tOr, v_tNot, v_eAnd, v_eOr, v_eNot, v_eIf, v_itE, v_itR, v_itG, v_r1, v_r2, v_seqT, v_seqL, v_clR, v_callR, v_callRx, v_clG, v_clGx, v_clf, v_callf, v_clfG, v_clio, v_cioF, v_cioG, v_cioH, v_oV, v_vlR, v_vlRx, v_oO, v_owL, v_owD, v_sSet, v_setR, v_setRx, v_okV, v_okS, v_sUnp, v_unpR, v_unpG, v_put1, v_putT, v_puts0, v_putsS, v_sPar, v_parR, v_sPut, v_putR, v_putG, v_own, v_putL, v_putD, v_aug, v_augG, v_augH, v_app, v_appF, v_appG, v_sExp, v_expR, v_expRx, v_sRet, v_retR, v_retRx, v_sRetf, v_retf, v_sEnd, v_sRaise, v_sIf, v_ifR, v_ifRx, v_sFor, v_forR, v_sSeq, v_seqN, v_seqR, v_seqx, v_sYes, v_get1, v_get2, v_isD, v_getR1, v_getR2, v_dct1, v_add, v_addT, v_addL, v_sub, v_mul, v_fdiv, v_mod, v_pow, v_neg, v_lt, v_le, v_gtp, v_ge, v_eqI, v_neI, v_eqB, v_neB, v_isN, v_inT, v_ninT, v_ixT, v_ixL, v_ixD, v_revT, v_tup, v_lst, v_dnew, v_dnewT, v_lenT, v_lenL, v_lenD, v_tofT, v_tofL, v_lofS, v_sumL, v_min2, v_max2, v_intI, v_intB, v_allL, v_isi, isi, if_true, if_false, Bool.and_self, Bool.and_true, Bool.true_and, Bool.and_false, Bool.false_and, Bool.or_true, Bool.true_or, Bool.or_false, Bool.false_or, Bool.not_true, Bool.not_false, Bool.false_eq_true, List.length_cons, List.length_nil, Nat.reduceAdd, Nat.reduceLeDiff, decide_true, decide_false, List.set_cons_zero, List.set_cons_succ, d1, d2, l2', hk, w9 h1 hn, w12, get_B h1 h]
end Ev.K94
set_option Elab.async false
set_option linter.all false
set_option maxRecDepth 100000
set_option maxHeartbeats 4000000
namespace Ev.K94
open PySem PySem.Spec PyProof.Rows L2
def colB (cl : Cl) : En → R Fl := sSeq (sSet 10 (oV (oG .sum (gC (gV (lcE [13, 14] (.nm 14) (itE .seq (d1 (oG .sorted (gC (argVar 3) (gN))))) (tB (o2 .eq (gV (o2 .ix (argVar 14) (gV (litR (.int 0))))) (argVar 7))) (o2 .ix (argVar 3) (argVar 14)))) (gN))))) (sIf (tNot (tB (clR cl 12 (dC (oD .lst (dC (clR cl 7 (dC (varR 2) (dC (varR 7) (dN)))) (dC (oG .sum (gC (gV (lcE [13, 8] (.nm 8) (itE .rng1 (dC (o2 .add (argVar 2) (gV (litR (.int 1)))) (dN))) (sYes) (clR cl 9 (dC (varR 2) (dC (varR 7) (dC (varR 8) (dN))))))) (gN))) (dN)))) (dC (oD .lst (dC (varR 10) (dC (varR 10) (dN)))) (dN)))))) (sRet (litR (.bl false))) (sEnd .nx))
theorem lc_last {k n f : Nat} (h1 : 1 ≤ n) (hn : n ≤ 40) {s0 s1 s3 s4 s5 s6 s8 s9 s10 s11 s12 s13 s14 : Sl} (hp : plain s13 = true ∧ plain s8 = true) : lcE [13, 8] (.nm 8) (itE .rng1 (dC (o2 .add (argVar 2) (gV (litR (.int 1)))) (dN))) (sYes) (clR (callN tb (k + 10)) 9 (dC (varR 2) (dC (varR 7) (dC (varR 8) (dN))))) [s0, s1, .val (.int n), s3, s4, s5, s6, .val (.int f), s8, s9, s10, s11, s12, s13, s14] = .ok (.lst (((List.range (n + 1)).map fun l => ((B n f l : Nat) : Int)).map .int)) [s0, s1, .val (.int n), s3, s4, s5, s6, .val (.int f), s8, s9, s10, s11, s12, s13, s14] := by
  refine (lcE_of (xs := rngD 0 1 (n + 1)) (l := ((List.range (n + 1)).map fun l => ((B n f l : Nat) : Int)).map .int) (ε1 := [s0, s1, .val (.int n), s3, s4, s5, s6, .val (.int f), s8, s9, s10, s11, s12, s13, s14]) (ε2 := [s0, s1, .val (.int n), s3, s4, s5, s6, .val (.int f), .und, s9, s10, s11, s12, .und, s14]) ?_ ?_ ?_).trans rfl
  · have b2 : bnd ((n : Int) + 1) = true := decide_eq_true (by omega)
    have et : ((n : Int) + 1).toNat = n + 1 := by omega
    simp only [v_bind, v_bindx, v_gt0, v_gtS, v_set0, v_setS, v_lit, v_var, v_varV, v_varO, v_varR, v_arg, v_argV, v_argO, v_gV, v_dN, v_dC, v_gN, v_gC, v_d1, v_o1, v_o2, v_o3, v_oD, v_oG, v_opR, v_opRx, v_opF, v_opG, v_opD, v_opDx, v_ds0, v_dsV, v_dsB, v_dsBV, v_dsBO, v_map, v_ch, v_chT, v_chF, v_tB, v_asB, v_asBx, v_tAnd, v_tOr, v_tNot, v_eAnd, v_eOr, v_eNot, v_eIf, v_itE, v_itR, v_itG, v_r1, v_r2, v_seqT, v_seqL, v_clR, v_callR, v_callRx, v_clG, v_clGx, v_clf, v_callf, v_clfG, v_clio, v_cioF, v_cioG, v_cioH, v_oV, v_vlR, v_vlRx, v_oO, v_owL, v_owD, v_sSet, v_setR, v_setRx, v_okV, v_okS, v_sUnp, v_unpR, v_unpG, v_put1, v_putT, v_puts0, v_putsS, v_sPar, v_parR, v_sPut, v_putR, v_putG, v_own, v_putL, v_putD, v_aug, v_augG, v_augH, v_app, v_appF, v_appG, v_sExp, v_expR, v_expRx, v_sRet, v_retR, v_retRx, v_sRetf, v_retf, v_sEnd, v_sRaise, v_sIf, v_ifR, v_ifRx, v_sFor, v_forR, v_sSeq, v_seqN, v_seqR, v_seqx, v_sYes, v_get1, v_get2, v_isD, v_getR1, v_getR2, v_dct1, v_add, v_addT, v_addL, v_sub, v_mul, v_fdiv, v_mod, v_pow, v_neg, v_lt, v_le, v_gtp, v_ge, v_eqI, v_neI, v_eqB, v_neB, v_isN, v_inT, v_ninT, v_ixT, v_ixL, v_ixD, v_revT, v_tup, v_lst, v_dnew, v_dnewT, v_lenT, v_lenL, v_lenD, v_tofT, v_tofL, v_lofS, v_sumL, v_min2, v_max2, v_intI, v_intB, v_allL, v_isi, isi, if_true, if_false, Bool.and_self, Bool.and_true, Bool.true_and, Bool.and_false, Bool.false_and, Bool.or_true, Bool.true_or, Bool.or_false, Bool.false_or, Bool.not_true, Bool.not_false, Bool.false_eq_true, List.length_cons, List.length_nil, Nat.reduceAdd, Nat.reduceLeDiff, decide_true, decide_false, List.set_cons_zero, List.set_cons_succ, b2, et]
  · show (plain s13 && (plain s8 && true)) = true
    rw [hp.1, hp.2]; rfl
  · have := lcGo_fm (own := [13, 8]) (tg := .nm 8) (t := sYes) (e := clR (callN tb (k + 10)) 9 (dC (varR 2) (dC (varR 7) (dC (varR 8) (dN))))) (ε := [s0, s1, .val (.int n), s3, s4, s5, s6, .val (.int f), .und, s9, s10, s11, s12, .und, s14]) (fun d => match d with | .int i => some (.int (B n f i.toNat : Nat)) | _ => none) (rngD 0 1 (n + 1)) [] (fun x hx => ?_) (by rw [rngD_len, List.length_nil]; show 0 + (n + 1) ≤ 16777216; omega)
    · rw [List.nil_append, filterMap_rng (f := fun i => .int (B n f i : Nat)) (fun i _ => by rfl)] at this
      rw [List.map_map]
      exact this
    · unfold rngD at hx
      obtain ⟨i, hi, rfl⟩ := List.mem_map.mp hx
      rw [show 0 + (i : Int) * 1 = (i : Int) from by omega]
      refine ⟨_, v_put1, _, [s0, s1, .val (.int n), s3, s4, s5, s6, .val (.int f), .val (.int i), s9, s10, s11, s12, .und, s14], v_sYes, ?_, rfl⟩
      simp only [v_bind, v_bindx, v_gt0, v_gtS, v_set0, v_setS, v_lit, v_var, v_varV, v_varO, v_varR, v_arg, v_argV, v_argO, v_gV, v_dN, v_dC, v_gN, v_gC, v_d1, v_o1, v_o2, v_o3, v_oD, v_oG, v_opR, v_opRx, v_opF, v_opG, v_opD, v_opDx, v_ds0, v_dsV, v_dsB, v_dsBV, v_dsBO, v_map, v_ch, v_chT, v_chF, v_tB, v_asB, v_asBx, v_tAnd, v_tOr, v_tNot, v_eAnd, v_eOr, v_eNot, v_eIf, v_itE, v_itR, v_itG, v_r1, v_r2, v_seqT, v_seqL, v_clR, v_callR, v_callRx, v_clG, v_clGx, v_clf, v_callf, v_clfG, v_clio, v_cioF, v_cioG, v_cioH, v_oV, v_vlR, v_vlRx, v_oO, v_owL, v_owD, v_sSet, v_setR, v_setRx, v_okV, v_okS, v_sUnp, v_unpR, v_unpG, v_put1, v_putT, v_puts0, v_putsS, v_sPar, v_parR, v_sPut, v_putR, v_putG, v_own, v_putL, v_putD, v_aug, v_augG, v_augH, v_app, v_appF, v_appG, v_sExp, v_expR, v_expRx, v_sRet, v_retR, v_retRx, v_sRetf, v_retf, v_sEnd, v_sRaise, v_sIf, v_ifR, v_ifRx, v_sFor, v_forR, v_sSeq, v_seqN, v_seqR, v_seqx, v_sYes, v_get1, v_get2, v_isD, v_getR1, v_getR2, v_dct1, v_add, v_addT, v_addL, v_sub, v_mul, v_fdiv, v_mod, v_pow, v_neg, v_lt, v_le, v_gtp, v_ge, v_eqI, v_neI, v_eqB, v_neB, v_isN, v_inT, v_ninT, v_ixT, v_ixL, v_ixD, v_revT, v_tup, v_lst, v_dnew, v_dnewT, v_lenT, v_lenL, v_lenD, v_tofT, v_tofL, v_lofS, v_sumL, v_min2, v_max2, v_intI, v_intB, v_allL, v_isi, isi, if_true, if_false, Bool.and_self, Bool.and_true, Bool.true_and, Bool.and_false, Bool.false_and, Bool.or_true, Bool.true_or, Bool.or_false, Bool.false_or, Bool.not_true, Bool.not_false, Bool.false_eq_true, List.length_cons, List.length_nil, Nat.reduceAdd, Nat.reduceLeDiff, decide_true, decide_false, List.set_cons_zero, List.set_cons_succ, w9 h1 hn]
      rfl
theorem col_ok {k n f : Nat} (h1 : 1 ≤ n) (hn : n ≤ 40) {ps : List (Int × Int)} (h : Ct n ps (W (n - 1))) (hS : ∀ f : Nat, mass (fun p => if p.1 = f then 1 else 0) (ps, W (n - 1)) = S n f) {s0 s1 s4 s5 s6 s9 s10 s11 s12 s13 s14 : Sl} {d8 : D} (hp : plain s13 = true ∧ plain s14 = true) : ∃ t10, colB (callN tb (k + 10)) [s0, s1, .val (.int n), .val (.dct true (DictOf ps (W (n - 1)))), s4, s5, s6, .val (.int f), .val d8, s9, s10, s11, s12, s13, s14] = .ok .nx [s0, s1, .val (.int n), .val (.dct true (DictOf ps (W (n - 1)))), s4, s5, s6, .val (.int f), .val d8, s9, .val t10, s11, s12, s13, s14] := by
  have a1 := lc_sorted h (by omega) (tB (o2 .eq (gV (o2 .ix (argVar 14) (gV (litR (.int 0))))) (argVar 7))) (fun p => decide (p.1 = (f : Int))) (s0 := s0) (s1 := s1) (s2 := .val (.int n)) (s4 := s4) (s5 := s5) (s6 := s6) (s7 := .val (.int f)) (s8 := .val d8) (s9 := s9) (s10 := s10) (s11 := s11) (s12 := s12) hp (fun p => by
    have x0 : pr .ix [ofPair p, .int 0] = some (.int p.1) := rfl
    have e0 : (p.1 == (f : Int)) = decide (p.1 = (f : Int)) := by
      by_cases q : p.1 = (f : Int)
      · rw [q]; simp
      · rw [decide_eq_false q]; simp [q]
    simp only [v_bind, v_bindx, v_gt0, v_gtS, v_set0, v_setS, v_lit, v_var, v_varV, v_varO, v_varR, v_arg, v_argV, v_argO, v_gV, v_dN, v_dC, v_gN, v_gC, v_d1, v_o1, v_o2, v_o3, v_oD, v_oG, v_opR, v_opRx, v_opF, v_opG, v_opD, v_opDx, v_ds0, v_dsV, v_dsB, v_dsBV, v_dsBO, v_map, v_ch, v_chT, v_chF, v_tB, v_asB, v_asBx, v_tAnd, v_tOr, v_tNot, v_eAnd, v_eOr, v_eNot, v_eIf, v_itE, v_itR, v_itG, v_r1, v_r2, v_seqT, v_seqL, v_clR, v_callR, v_callRx, v_clG, v_clGx, v_clf, v_callf, v_clfG, v_clio, v_cioF, v_cioG, v_cioH, v_oV, v_vlR, v_vlRx, v_oO, v_owL, v_owD, v_sSet, v_setR, v_setRx, v_okV, v_okS, v_sUnp, v_unpR, v_unpG, v_put1, v_putT, v_puts0, v_putsS, v_sPar, v_parR, v_sPut, v_putR, v_putG, v_own, v_putL, v_putD, v_aug, v_augG, v_augH, v_app, v_appF, v_appG, v_sExp, v_expR, v_expRx, v_sRet, v_retR, v_retRx, v_sRetf, v_retf, v_sEnd, v_sRaise, v_sIf, v_ifR, v_ifRx, v_sFor, v_forR, v_sSeq, v_seqN, v_seqR, v_seqx, v_sYes, v_get1, v_get2, v_isD, v_getR1, v_getR2, v_dct1, v_add, v_addT, v_addL, v_sub, v_mul, v_fdiv, v_mod, v_pow, v_neg, v_lt, v_le, v_gtp, v_ge, v_eqI, v_neI, v_eqB, v_neB, v_isN, v_inT, v_ninT, v_ixT, v_ixL, v_ixD, v_revT, v_tup, v_lst, v_dnew, v_dnewT, v_lenT, v_lenL, v_lenD, v_tofT, v_tofL, v_lofS, v_sumL, v_min2, v_max2, v_intI, v_intB, v_allL, v_isi, isi, if_true, if_false, Bool.and_self, Bool.and_true, Bool.true_and, Bool.and_false, Bool.false_and, Bool.or_true, Bool.true_or, Bool.or_false, Bool.false_or, Bool.not_true, Bool.not_false, Bool.false_eq_true, List.length_cons, List.length_nil, Nat.reduceAdd, Nat.reduceLeDiff, decide_true, decide_false, List.set_cons_zero, List.set_cons_succ, x0, e0])
  have e1 : (((ps.mergeSort leP).filter fun p => decide (p.1 = (f : Int))).map (W (n - 1))).sum = (S n f : Nat) := by
    rw [sum_sorted h, ← hS f]
    unfold mass
    congr 1
    refine List.map_congr_left fun p _ => ?_
    show (if decide (p.1 = (f : Int)) = true then _ else _) = (if p.1 = (f : Int) then (1 : Int) else 0) * W (n - 1) p
    by_cases q : p.1 = (f : Int)
    · rw [decide_eq_true q, if_pos rfl, if_pos q, Int.one_mul]
    · rw [decide_eq_false q, if_neg Bool.false_ne_true, if_neg q, Int.zero_mul]
  have e2 : ((List.range (n + 1)).map fun l => ((B n f l : Nat) : Int)).sum = (S n f : Nat) := by
    rw [← hS f, ← col_sum h f]
    congr 1
    refine List.map_congr_left fun l _ => ?_
    have eb := W_B (n - 1) f l
    rw [show n - 1 + 1 = n from by omega] at eb
    exact eb.symm
  have l2 : (2 ≤ line) = True := by decide
  have w := same_list (k := k + 8) (ns := [((S n f : Nat) : Int), ((S n f : Nat) : Int)]) (show 2 ≤ 1000 by decide)
  have w' : callN tb (k + 10) 12 [.lst [.int (S n f : Nat), .int (S n f : Nat)], .lst [.int (S n f : Nat), .int (S n f : Nat)]] = .ok (.bl true) := w
  refine ⟨.int (S n f : Nat), ?_⟩
  unfold colB
  rw [v_sSeq, v_sSet, v_oV, v_oG, v_gC, v_gV, a1]
  simp only [v_bind, v_bindx, v_gt0, v_gtS, v_set0, v_setS, v_lit, v_var, v_varV, v_varO, v_varR, v_arg, v_argV, v_argO, v_gV, v_dN, v_dC, v_gN, v_gC, v_d1, v_o1, v_o2, v_o3, v_oD, v_oG, v_opR, v_opRx, v_opF, v_opG, v_opD, v_opDx, v_ds0, v_dsV, v_dsB, v_dsBV, v_dsBO, v_map, v_ch, v_chT, v_chF, v_tB, v_asB, v_asBx, v_tAnd, v_tOr, v_tNot, v_eAnd, v_eOr, v_eNot, v_eIf, v_itE, v_itR, v_itG, v_r1, v_r2, v_seqT, v_seqL, v_clR, v_callR, v_callRx, v_clG, v_clGx, v_clf, v_callf, v_clfG, v_clio, v_cioF, v_cioG, v_cioH, v_oV, v_vlR, v_vlRx, v_oO, v_owL, v_owD, v_sSet, v_setR, v_setRx, v_okV, v_okS, v_sUnp, v_unpR, v_unpG, v_put1, v_putT, v_puts0, v_putsS, v_sPar, v_parR, v_sPut, v_putR, v_putG, v_own, v_putL, v_putD, v_aug, v_augG, v_augH, v_app, v_appF, v_appG, v_sExp, v_expR, v_expRx, v_sRet, v_retR, v_retRx, v_sRetf, v_retf, v_sEnd, v_sRaise, v_sIf, v_ifR, v_ifRx, v_sFor, v_forR, v_sSeq, v_seqN, v_seqR, v_seqx, v_sYes, v_get1, v_get2, v_isD, v_getR1, v_getR2, v_dct1, v_add, v_addT, v_addL, v_sub, v_mul, v_fdiv, v_mod, v_pow, v_neg, v_lt, v_le, v_gtp, v_ge, v_eqI, v_neI, v_eqB, v_neB, v_isN, v_inT, v_ninT, v_ixT, v_ixL, v_ixD, v_revT, v_tup, v_lst, v_dnew, v_dnewT, v_lenT, v_lenL, v_lenD, v_tofT, v_tofL, v_lofS, v_sumL, v_min2, v_max2, v_intI, v_intB, v_allL, v_isi, isi, if_true, if_false, Bool.and_self, Bool.and_true, Bool.true_and, Bool.and_false, Bool.false_and, Bool.or_true, Bool.true_or, Bool.or_false, Bool.false_or, Bool.not_true, Bool.not_false, Bool.false_eq_true, List.length_cons, List.length_nil, Nat.reduceAdd, Nat.reduceLeDiff, decide_true, decide_false, List.set_cons_zero, List.set_cons_succ, e1, w7 hn]
  have a2 := lc_last (k := k) (f := f) h1 hn (s0 := s0) (s1 := s1) (s3 := .val (.dct true (DictOf ps (W (n - 1))))) (s4 := s4) (s5 := s5) (s6 := s6) (s8 := .val d8) (s9 := s9) (s10 := .val (.int (S n f : Nat))) (s11 := s11) (s12 := s12) (s13 := s13) (s14 := s14) ⟨hp.1, rfl⟩
  rw [a2]
  simp only [v_bind, v_bindx, v_gt0, v_gtS, v_set0, v_setS, v_lit, v_var, v_varV, v_varO, v_varR, v_arg, v_argV, v_argO, v_gV, v_dN, v_dC, v_gN, v_gC, v_d1, v_o1, v_o2, v_o3, v_oD, v_oG, v_opR, v_opRx, v_opF, v_opG, v_opD, v_opDx, v_ds0, v_dsV, v_dsB, v_dsBV, v_dsBO, v_map, v_ch, v_chT, v_chF, v_tB, v_asB, v_asBx, v_tAnd, v_tOr, v_tNot, v_eAnd, v_eOr, v_eNot, v_eIf, v_itE, v_itR, v_itG, v_r1, v_r2, v_seqT, v_seqL, v_clR, v_callR, v_callRx, v_clG, v_clGx, v_clf, v_callf, v_clfG, v_clio, v_cioF, v_cioG, v_cioH, v_oV, v_vlR, v_vlRx, v_oO, v_owL, v_owD, v_sSet, v_setR, v_setRx, v_okV, v_okS, v_sUnp, v_unpR, v_unpG, v_put1, v_putT, v_puts0, v_putsS, v_sPar, v_parR, v_sPut, v_putR, v_putG, v_own, v_putL, v_putD, v_aug, v_augG, v_augH, v_app, v_appF, v_appG, v_sExp, v_expR, v_expRx, v_sRet, v_retR, v_retRx, v_sRetf, v_retf, v_sEnd, v_sRaise, v_sIf, v_ifR, v_ifRx, v_sFor, v_forR, v_sSeq, v_seqN, v_seqR, v_seqx, v_sYes, v_get1, v_get2, v_isD, v_getR1, v_getR2, v_dct1, v_add, v_addT, v_addL, v_sub, v_mul, v_fdiv, v_mod, v_pow, v_neg, v_lt, v_le, v_gtp, v_ge, v_eqI, v_neI, v_eqB, v_neB, v_isN, v_inT, v_ninT, v_ixT, v_ixL, v_ixD, v_revT, v_tup, v_lst, v_dnew, v_dnewT, v_lenT, v_lenL, v_lenD, v_tofT, v_tofL, v_lofS, v_sumL, v_min2, v_max2, v_intI, v_intB, v_allL, v_isi, isi, if_true, if_false, Bool.and_self, Bool.and_true, Bool.true_and, Bool.and_false, Bool.false_and, Bool.or_true, Bool.true_or, Bool.or_false, Bool.false_or, Bool.not_true, Bool.not_false, Bool.false_eq_true, List.length_cons, List.length_nil, Nat.reduceAdd, Nat.reduceLeDiff, decide_true, decide_false, List.set_cons_zero, List.set_cons_succ, e2, w7 hn, l2, w']
end Ev.K94
set_option Elab.async false
set_option linter.all false
set_option maxRecDepth 100000
set_option maxHeartbeats 4000000
namespace Ev.K94
open PySem PySem.Spec PyProof.Rows L2
def smB (cl : Cl) : En → R Fl := sIf (tNot (tB (clR cl 12 (dC (lcE [13, 8] (.nm 8) (itE .rng2 (dC (litR (.int 1)) (dC (o2 .add (argVar 11) (gV (litR (.int 1)))) (dN)))) (sYes) (oG .len (gC (gV (clR cl 4 (dC (varR 11) (dC (varR 7) (dC (varR 8) (dN)))))) (gN)))) (dC (lcE [13, 8] (.nm 8) (itE .rng2 (dC (litR (.int 1)) (dC (o2 .add (argVar 11) (gV (litR (.int 1)))) (dN)))) (sYes) (get2R (argVar 12) (oD .tup (dC (varR 7) (dC (varR 8) (dN)))) (litR (.int 0)))) (dN)))))) (sRet (litR (.bl false))) (sEnd .nx)
theorem count_B {m f l : Nat} (h1 : 1 ≤ m) (hm : m ≤ 6) (hf1 : 1 ≤ f) (hf : f ≤ m) (hl1 : 1 ≤ l) (hl : l ≤ m) : ((rowsN m m).filter (hit f l)).length = B m f l := by
  have mem : ∀ x, 1 ≤ x → x ≤ m → x ∈ one1 m := fun x a b => List.mem_map.mpr ⟨x - 1, List.mem_range.mpr (by omega), by omega⟩
  refine counts m ?_ f (mem f hf1 hf) l (mem l hl1 hl)
  have : m = 1 ∨ m = 2 ∨ m = 3 ∨ m = 4 ∨ m = 5 ∨ m = 6 := by omega
  rcases this with h | h | h | h | h | h <;> (subst h; decide)
theorem lc_sm {m f : Nat} (hm : m ≤ 6) (e : En → R D) {s0 s1 s2 s3 s4 s5 s6 s8 s9 s10 s12 s13 s14 : Sl} (hp : plain s13 = true ∧ plain s8 = true)
    (he : ∀ i : Nat, i < m → e [s0, s1, s2, s3, s4, s5, s6, .val (.int f), .val (.int ((i + 1 : Nat) : Int)), s9, s10, .val (.int m), s12, .und, s14] = .ok (.int (B m f (i + 1) : Nat)) [s0, s1, s2, s3, s4, s5, s6, .val (.int f), .val (.int ((i + 1 : Nat) : Int)), s9, s10, .val (.int m), s12, .und, s14]) :
    lcE [13, 8] (.nm 8) (itE .rng2 (dC (litR (.int 1)) (dC (o2 .add (argVar 11) (gV (litR (.int 1)))) (dN)))) (sYes) e [s0, s1, s2, s3, s4, s5, s6, .val (.int f), s8, s9, s10, .val (.int m), s12, s13, s14] = .ok (.lst (((List.range m).map fun i => ((B m f (i + 1) : Nat) : Int)).map .int)) [s0, s1, s2, s3, s4, s5, s6, .val (.int f), s8, s9, s10, .val (.int m), s12, s13, s14] := by
  refine (lcE_of (xs := rngD 1 1 m) (l := ((List.range m).map fun i => ((B m f (i + 1) : Nat) : Int)).map .int) (ε1 := [s0, s1, s2, s3, s4, s5, s6, .val (.int f), s8, s9, s10, .val (.int m), s12, s13, s14]) (ε2 := [s0, s1, s2, s3, s4, s5, s6, .val (.int f), .und, s9, s10, .val (.int m), s12, .und, s14]) ?_ ?_ ?_).trans rfl
  · have b1 : bnd 1 = true := by decide
    have b2 : bnd ((m : Int) + 1) = true := decide_eq_true (by omega)
    have et : ((m : Int) + 1 - 1).toNat = m := by omega
    simp only [v_bind, v_bindx, v_gt0, v_gtS, v_set0, v_setS, v_lit, v_var, v_varV, v_varO, v_varR, v_arg, v_argV, v_argO, v_gV, v_dN, v_dC, v_gN, v_gC, v_d1, v_o1, v_o2, v_o3, v_oD, v_oG, v_opR, v_opRx, v_opF, v_opG, v_opD, v_opDx, v_ds0, v_dsV, v_dsB, v_dsBV, v_dsBO, v_map, v_ch, v_chT, v_chF, v_tB, v_asB, v_asBx, v_tAnd, v_tOr, v_tNot, v_eAnd, v_eOr, v_eNot, v_eIf, v_itE, v_itR, v_itG, v_r1, v_r2, v_seqT, v_seqL, v_clR, v_callR, v_callRx, v_clG, v_clGx, v_clf, v_callf, v_clfG, v_clio, v_cioF, v_cioG, v_cioH, v_oV, v_vlR, v_vlRx, v_oO, v_owL, v_owD, v_sSet, v_setR, v_setRx, v_okV, v_okS, v_sUnp, v_unpR, v_unpG, v_put1, v_putT, v_puts0, v_putsS, v_sPar, v_parR, v_sPut, v_putR, v_putG, v_own, v_putL, v_putD, v_aug, v_augG, v_augH, v_app, v_appF, v_appG, v_sExp, v_expR, v_expRx, v_sRet, v_retR, v_retRx, v_sRetf, v_retf, v_sEnd, v_sRaise, v_sIf, v_ifR, v_ifRx, v_sFor, v_forR, v_sSeq, v_seqN, v_seqR, v_seqx, v_sYes, v_get1, v_get2, v_isD, v_getR1, v_getR2, v_dct1, v_add, v_addT, v_addL, v_sub, v_mul, v_fdiv, v_mod, v_pow, v_neg, v_lt, v_le, v_gtp, v_ge, v_eqI, v_neI, v_eqB, v_neB, v_isN, v_inT, v_ninT, v_ixT, v_ixL, v_ixD, v_revT, v_tup, v_lst, v_dnew, v_dnewT, v_lenT, v_lenL, v_lenD, v_tofT, v_tofL, v_lofS, v_sumL, v_min2, v_max2, v_intI, v_intB, v_allL, v_isi, isi, if_true, if_false, Bool.and_self, Bool.and_true, Bool.true_and, Bool.and_false, Bool.false_and, Bool.or_true, Bool.true_or, Bool.or_false, Bool.false_or, Bool.not_true, Bool.not_false, Bool.false_eq_true, List.length_cons, List.length_nil, Nat.reduceAdd, Nat.reduceLeDiff, decide_true, decide_false, List.set_cons_zero, List.set_cons_succ, b1, b2, et]
  · show (plain s13 && (plain s8 && true)) = true
    rw [hp.1, hp.2]; rfl
  · have := lcGo_fm (own := [13, 8]) (tg := .nm 8) (t := sYes) (e := e) (ε := [s0, s1, s2, s3, s4, s5, s6, .val (.int f), .und, s9, s10, .val (.int m), s12, .und, s14]) (fun d => match d with | .int i => some (.int (B m f i.toNat : Nat)) | _ => none) (rngD 1 1 m) [] (fun x hx => ?_) (by rw [rngD_len, List.length_nil]; show 0 + m ≤ 16777216; omega)
    · rw [List.nil_append] at this
      have ef : (rngD 1 1 m).filterMap (fun d => match d with | .int i => some (D.int (B m f i.toNat : Nat)) | _ => none) = ((List.range m).map fun i => ((B m f (i + 1) : Nat) : Int)).map .int := by
        unfold rngD
        rw [List.filterMap_map, List.map_map]
        refine fm_map _ fun i _ => ?_
        show some (D.int (B m f (1 + (i : Int) * 1).toNat : Nat)) = some (D.int (B m f (i + 1) : Nat))
        rw [show (1 + (i : Int) * 1).toNat = i + 1 from by omega]
      rw [ef] at this
      exact this
    · unfold rngD at hx
      obtain ⟨i, hi, rfl⟩ := List.mem_map.mp hx
      have hi := List.mem_range.mp hi
      rw [show 1 + (i : Int) * 1 = ((i + 1 : Nat) : Int) from by omega]
      exact ⟨_, v_put1, _, _, v_sYes, he i hi, rfl⟩
theorem sm_ok {k m f : Nat} (h1 : 1 ≤ m) (hm : m ≤ 6) (hf1 : 1 ≤ f) (hf : f ≤ m) {ps : List (Int × Int)} (h : Ct m ps (W (m - 1))) {s0 s1 s2 s3 s4 s5 s6 s8 s9 s10 s13 s14 : Sl} (hp : plain s13 = true ∧ plain s8 = true) : smB (callN tb (k + 10)) [s0, s1, s2, s3, s4, s5, s6, .val (.int f), s8, s9, s10, .val (.int m), .val (.dct true (DictOf ps (W (m - 1)))), s13, s14] = .ok .nx [s0, s1, s2, s3, s4, s5, s6, .val (.int f), s8, s9, s10, .val (.int m), .val (.dct true (DictOf ps (W (m - 1)))), s13, s14] := by
  have a1 := lc_sm (f := f) hm (oG .len (gC (gV (clR (callN tb (k + 10)) 4 (dC (varR 11) (dC (varR 7) (dC (varR 8) (dN)))))) (gN))) (s0 := s0) (s1 := s1) (s2 := s2) (s3 := s3) (s4 := s4) (s5 := s5) (s6 := s6) (s8 := s8) (s9 := s9) (s10 := s10) (s12 := .val (.dct true (DictOf ps (W (m - 1))))) (s13 := s13) (s14 := s14) hp fun i hi => by
    have w := rows_seen_ok (k := k + 6) h1 hm hf1 hf (l := i + 1) (by omega) (by omega)
    have w' : callN tb (k + 10) 4 [.int m, .int f, .int ((i + 1 : Nat) : Int)] = _ := w
    simp only [v_bind, v_bindx, v_gt0, v_gtS, v_set0, v_setS, v_lit, v_var, v_varV, v_varO, v_varR, v_arg, v_argV, v_argO, v_gV, v_dN, v_dC, v_gN, v_gC, v_d1, v_o1, v_o2, v_o3, v_oD, v_oG, v_opR, v_opRx, v_opF, v_opG, v_opD, v_opDx, v_ds0, v_dsV, v_dsB, v_dsBV, v_dsBO, v_map, v_ch, v_chT, v_chF, v_tB, v_asB, v_asBx, v_tAnd, v_tOr, v_tNot, v_eAnd, v_eOr, v_eNot, v_eIf, v_itE, v_itR, v_itG, v_r1, v_r2, v_seqT, v_seqL, v_clR, v_callR, v_callRx, v_clG, v_clGx, v_clf, v_callf, v_clfG, v_clio, v_cioF, v_cioG, v_cioH, v_oV, v_vlR, v_vlRx, v_oO, v_owL, v_owD, v_sSet, v_setR, v_setRx, v_okV, v_okS, v_sUnp, v_unpR, v_unpG, v_put1, v_putT, v_puts0, v_putsS, v_sPar, v_parR, v_sPut, v_putR, v_putG, v_own, v_putL, v_putD, v_aug, v_augG, v_augH, v_app, v_appF, v_appG, v_sExp, v_expR, v_expRx, v_sRet, v_retR, v_retRx, v_sRetf, v_retf, v_sEnd, v_sRaise, v_sIf, v_ifR, v_ifRx, v_sFor, v_forR, v_sSeq, v_seqN, v_seqR, v_seqx, v_sYes, v_get1, v_get2, v_isD, v_getR1, v_getR2, v_dct1, v_add, v_addT, v_addL, v_sub, v_mul, v_fdiv, v_mod, v_pow, v_neg, v_lt, v_le, v_gtp, v_ge, v_eqI, v_neI, v_eqB, v_neB, v_isN, v_inT, v_ninT, v_ixT, v_ixL, v_ixD, v_revT, v_tup, v_lst, v_dnew, v_dnewT, v_lenT, v_lenL, v_lenD, v_tofT, v_tofL, v_lofS, v_sumL, v_min2, v_max2, v_intI, v_intB, v_allL, v_isi, isi, if_true, if_false, Bool.and_self, Bool.and_true, Bool.true_and, Bool.and_false, Bool.false_and, Bool.or_true, Bool.true_or, Bool.or_false, Bool.false_or, Bool.not_true, Bool.not_false, Bool.false_eq_true, List.length_cons, List.length_nil, Nat.reduceAdd, Nat.reduceLeDiff, decide_true, decide_false, List.set_cons_zero, List.set_cons_succ, w']
    rw [List.length_map, count_B h1 hm hf1 hf (by omega) (by omega)]
  have a2 := lc_sm (f := f) hm (get2R (argVar 12) (oD .tup (dC (varR 7) (dC (varR 8) (dN)))) (litR (.int 0))) (s0 := s0) (s1 := s1) (s2 := s2) (s3 := s3) (s4 := s4) (s5 := s5) (s6 := s6) (s8 := s8) (s9 := s9) (s10 := s10) (s12 := .val (.dct true (DictOf ps (W (m - 1))))) (s13 := s13) (s14 := s14) hp fun i hi => by
    have l2 : (2 ≤ line) = True := by decide
    have hk : hkey true (.tup [.int (f : Nat), .int ((i + 1 : Nat) : Int)]) = true := rfl
    simp only [v_bind, v_bindx, v_gt0, v_gtS, v_set0, v_setS, v_lit, v_var, v_varV, v_varO, v_varR, v_arg, v_argV, v_argO, v_gV, v_dN, v_dC, v_gN, v_gC, v_d1, v_o1, v_o2, v_o3, v_oD, v_oG, v_opR, v_opRx, v_opF, v_opG, v_opD, v_opDx, v_ds0, v_dsV, v_dsB, v_dsBV, v_dsBO, v_map, v_ch, v_chT, v_chF, v_tB, v_asB, v_asBx, v_tAnd, v_tOr, v_tNot, v_eAnd, v_eOr, v_eNot, v_eIf, v_itE, v_itR, v_itG, v_r1, v_r2, v_seqT, v_seqL, v_clR, v_callR, v_callRx, v_clG, v_clGx, v_clf, v_callf, v_clfG, v_clio, v_cioF, v_cioG, v_cioH, v_oV, v_vlR, v_vlRx, v_oO, v_owL, v_owD, v_sSet, v_setR, v_setRx, v_okV, v_okS, v_sUnp, v_unpR, v_unpG, v_put1, v_putT, v_puts0, v_putsS, v_sPar, v_parR, v_sPut, v_putR, v_putG, v_own, v_putL, v_putD, v_aug, v_augG, v_augH, v_app, v_appF, v_appG, v_sExp, v_expR, v_expRx, v_sRet, v_retR, v_retRx, v_sRetf, v_retf, v_sEnd, v_sRaise, v_sIf, v_ifR, v_ifRx, v_sFor, v_forR, v_sSeq, v_seqN, v_seqR, v_seqx, v_sYes, v_get1, v_get2, v_isD, v_getR1, v_getR2, v_dct1, v_add, v_addT, v_addL, v_sub, v_mul, v_fdiv, v_mod, v_pow, v_neg, v_lt, v_le, v_gtp, v_ge, v_eqI, v_neI, v_eqB, v_neB, v_isN, v_inT, v_ninT, v_ixT, v_ixL, v_ixD, v_revT, v_tup, v_lst, v_dnew, v_dnewT, v_lenT, v_lenL, v_lenD, v_tofT, v_tofL, v_lofS, v_sumL, v_min2, v_max2, v_intI, v_intB, v_allL, v_isi, isi, if_true, if_false, Bool.and_self, Bool.and_true, Bool.true_and, Bool.and_false, Bool.false_and, Bool.or_true, Bool.true_or, Bool.or_false, Bool.false_or, Bool.not_true, Bool.not_false, Bool.false_eq_true, List.length_cons, List.length_nil, Nat.reduceAdd, Nat.reduceLeDiff, decide_true, decide_false, List.set_cons_zero, List.set_cons_succ, l2, hk, get_B h1 h]
  have w := same_list (k := k + 8) (ns := (List.range m).map fun i => ((B m f (i + 1) : Nat) : Int)) (by rw [List.length_map, List.length_range]; omega)
  have w' : callN tb (k + 10) 12 [.lst (((List.range m).map fun i => ((B m f (i + 1) : Nat) : Int)).map .int), .lst (((List.range m).map fun i => ((B m f (i + 1) : Nat) : Int)).map .int)] = .ok (.bl true) := w
  unfold smB
  rw [v_sIf, v_tNot, v_tB, v_clR, v_dC, a1]
  simp only [v_bind, v_bindx, v_gt0, v_gtS, v_set0, v_setS, v_lit, v_var, v_varV, v_varO, v_varR, v_arg, v_argV, v_argO, v_gV, v_dN, v_dC, v_gN, v_gC, v_d1, v_o1, v_o2, v_o3, v_oD, v_oG, v_opR, v_opRx, v_opF, v_opG, v_opD, v_opDx, v_ds0, v_dsV, v_dsB, v_dsBV, v_dsBO, v_map, v_ch, v_chT, v_chF, v_tB, v_asB, v_asBx, v_tAnd, v_tOr, v_tNot, v_eAnd, v_eOr, v_eNot, v_eIf, v_itE, v_itR, v_itG, v_r1, v_r2, v_seqT, v_seqL, v_clR, v_callR, v_callRx, v_clG, v_clGx, v_clf, v_callf, v_clfG, v_clio, v_cioF, v_cioG, v_cioH, v_oV, v_vlR, v_vlRx, v_oO, v_owL, v_owD, v_sSet, v_setR, v_setRx, v_okV, v_okS, v_sUnp, v_unpR, v_unpG, v_put1, v_putT, v_puts0, v_putsS, v_sPar, v_parR, v_sPut, v_putR, v_putG, v_own, v_putL, v_putD, v_aug, v_augG, v_augH, v_app, v_appF, v_appG, v_sExp, v_expR, v_expRx, v_sRet, v_retR, v_retRx, v_sRetf, v_retf, v_sEnd, v_sRaise, v_sIf, v_ifR, v_ifRx, v_sFor, v_forR, v_sSeq, v_seqN, v_seqR, v_seqx, v_sYes, v_get1, v_get2, v_isD, v_getR1, v_getR2, v_dct1, v_add, v_addT, v_addL, v_sub, v_mul, v_fdiv, v_mod, v_pow, v_neg, v_lt, v_le, v_gtp, v_ge, v_eqI, v_neI, v_eqB, v_neB, v_isN, v_inT, v_ninT, v_ixT, v_ixL, v_ixD, v_revT, v_tup, v_lst, v_dnew, v_dnewT, v_lenT, v_lenL, v_lenD, v_tofT, v_tofL, v_lofS, v_sumL, v_min2, v_max2, v_intI, v_intB, v_allL, v_isi, isi, if_true, if_false, Bool.and_self, Bool.and_true, Bool.true_and, Bool.and_false, Bool.false_and, Bool.or_true, Bool.true_or, Bool.or_false, Bool.false_or, Bool.not_true, Bool.not_false, Bool.false_eq_true, List.length_cons, List.length_nil, Nat.reduceAdd, Nat.reduceLeDiff, decide_true, decide_false, List.set_cons_zero, List.set_cons_succ]
  rw [a2]
  simp only [v_bind, v_bindx, v_gt0, v_gtS, v_set0, v_setS, v_lit, v_var, v_varV, v_varO, v_varR, v_arg, v_argV, v_argO, v_gV, v_dN, v_dC, v_gN, v_gC, v_d1, v_o1, v_o2, v_o3, v_oD, v_oG, v_opR, v_opRx, v_opF, v_opG, v_opD, v_opDx, v_ds0, v_dsV, v_dsB, v_dsBV, v_dsBO, v_map, v_ch, v_chT, v_chF, v_tB, v_asB, v_asBx, v_tAnd, v_tOr, v_tNot, v_eAnd, v_eOr, v_eNot, v_eIf, v_itE, v_itR, v_itG, v_r1, v_r2, v_seqT, v_seqL, v_clR, v_callR, v_callRx, v_clG, v_clGx, v_clf, v_callf, v_clfG, v_clio, v_cioF, v_cioG, v_cioH, v_oV, v_vlR, v_vlRx, v_oO, v_owL, v_owD, v_sSet, v_setR, v_setRx, v_okV, v_okS, v_sUnp, v_unpR, v_unpG, v_put1, v_putT, v_puts0, v_putsS, v_sPar, v_parR, v_sPut, v_putR, v_putG, v_own, v_putL, v_putD, v_aug, v_augG, v_augH, v_app, v_appF, v_appG, v_sExp, v_expR, v_expRx, v_sRet, v_retR, v_retRx, v_sRetf, v_retf, v_sEnd, v_sRaise, v_sIf, v_ifR, v_ifRx, v_sFor, v_forR, v_sSeq, v_seqN, v_seqR, v_seqx, v_sYes, v_get1, v_get2, v_isD, v_getR1, v_getR2, v_dct1, v_add, v_addT, v_addL, v_sub, v_mul, v_fdiv, v_mod, v_pow, v_neg, v_lt, v_le, v_gtp, v_ge, v_eqI, v_neI, v_eqB, v_neB, v_isN, v_inT, v_ninT, v_ixT, v_ixL, v_ixD, v_revT, v_tup, v_lst, v_dnew, v_dnewT, v_lenT, v_lenL, v_lenD, v_tofT, v_tofL, v_lofS, v_sumL, v_min2, v_max2, v_intI, v_intB, v_allL, v_isi, isi, if_true, if_false, Bool.and_self, Bool.and_true, Bool.true_and, Bool.and_false, Bool.false_and, Bool.or_true, Bool.true_or, Bool.or_false, Bool.false_or, Bool.not_true, Bool.not_false, Bool.false_eq_true, List.length_cons, List.length_nil, Nat.reduceAdd, Nat.reduceLeDiff, decide_true, decide_false, List.set_cons_zero, List.set_cons_succ, w']
end Ev.K94
set_option Elab.async false
set_option linter.all false
set_option maxRecDepth 100000
set_option maxHeartbeats 4000000
namespace Ev.K94
open PySem PySem.Spec PyProof.Rows L2
def bodyL (cl : Cl) : En → R Fl := sSeq (sSet 1 (clfR cl 10 (dC (varR 0) (dN)))) (sSeq (sSet 2 (oV (o2 .add (gV (litR (.int 1))) (gV (clioR cl 11 1 (dC (litR (.int 40)) (dN))))))) (sSeq (sUnp (.tp [3, 4]) (oD .tup (dC (clR cl 13 (dC (varR 2) (dN))) (dC (litR (.int 1)) (dN))))) (sSeq (lwK cl) (sSeq (sIf (tB (o2 .ne (gV (oG .sum (gC (gV (lcE [13, 14] (.nm 14) (itE .seq (d1 (oG .sorted (gC (argVar 3) (gN))))) (sYes) (o2 .ix (argVar 3) (argVar 14)))) (gN)))) (argVar 4))) (sRet (litR (.bl false))) (sEnd .nx)) (sSeq (sFor (.nm 6) (itE .rng1 (dC (litR (.int 12)) (dN))) (turnB cl)) (sSeq (sSet 9 (oV (o2 .add (gV (o2 .add (argVar 2) (gV (litR (.int 1))))) (gV (clioR cl 11 1 (dC (o2 .pow (gV (litR (.int 10))) (gV (litR (.int 9)))) (dN))))))) (sSeq (sIf (tNot (tB (clR cl 12 (dC (oD .lst (dC (clR cl 9 (dC (varR 2) (dC (varR 9) (dC (litR (.int 1)) (dN))))) (dC (clR cl 9 (dC (varR 2) (dC (litR (.int 1)) (dC (varR 9) (dN))))) (dC (clR cl 7 (dC (varR 2) (dC (varR 9) (dN)))) (dN))))) (dC (oD .lst (dC (litR (.int 0)) (dC (litR (.int 0)) (dC (litR (.int 0)) (dN))))) (dN)))))) (sRet (litR (.bl false))) (sEnd .nx)) (sSeq (sFor (.nm 7) (itE .rng1 (dC (o2 .add (argVar 2) (gV (litR (.int 2)))) (dN))) (colB cl)) (sSeq (sSet 11 (oV (o2 .add (gV (litR (.int 1))) (gV (clioR cl 11 1 (dC (litR (.int 6)) (dN))))))) (sSeq (sSet 12 (oV (clR cl 13 (dC (varR 11) (dN))))) (sSeq (sFor (.nm 7) (itE .rng2 (dC (litR (.int 1)) (dC (o2 .add (argVar 11) (gV (litR (.int 1)))) (dN)))) (smB cl)) (sRet (litR (.bl true))))))))))))))
theorem body_eq (cl : Cl) : b_law cl = bodyL cl := rfl

theorem plain : plainLaw := fun ns hns => by
  rw [call0 (k := 29) (d := ⟨"law", 1, 15, 0, b_law⟩) rfl rfl rfl]
  have eb : en0 15 [D.scr ns] = [.val (.scr ns), .und, .und, .und, .und, .und, .und, .und, .und, .und, .und, .und, .und, .und, .und] := rfl
  simp only [eb]
  rw [body_eq]
  have ek : callN tb 29 = callN tb (19 + 10) := rfl
  rw [ek]
  have w10 : callN tb (19 + 10) 10 [.scr ns] = .okf [.lst (ns.map .int), .int 0, .int 0, .int 1] := draws_ok (k := 28)
  have dr0 : Dr [.lst (ns.map .int), .int 0, .int 0, .int 1] := ⟨ns, 0, 0, 1, rfl, by decide⟩
  obtain ⟨v, l1, d1, hv, dr1⟩ := drawN (k := 19) dr0 (m := 40) (by decide) (by decide)
  have en : (1 : Int) + (v : Int) = ((v + 1 : Nat) : Int) := by omega
  generalize hn : v + 1 = n at en
  have h1 : 1 ≤ n := by omega
  have hn40 : n ≤ 40 := by omega
  obtain ⟨ps, ct, m1, mS, wb⟩ := both_ok (k := 28) h1 (by omega : n ≤ 50)
  have wb : callN tb (19 + 10) 13 [.int n] = _ := wb
  have l2 : (2 ≤ line) = True := by decide
  have l3 : (3 ≤ line) = True := by decide
  unfold bodyL
  rw [v_sSeq]
  simp only [v_bind, v_bindx, v_gt0, v_gtS, v_set0, v_setS, v_lit, v_var, v_varV, v_varO, v_varR, v_arg, v_argV, v_argO, v_gV, v_dN, v_dC, v_gN, v_gC, v_d1, v_o1, v_o2, v_o3, v_oD, v_oG, v_opR, v_opRx, v_opF, v_opG, v_opD, v_opDx, v_ds0, v_dsV, v_dsB, v_dsBV, v_dsBO, v_map, v_ch, v_chT, v_chF, v_tB, v_asB, v_asBx, v_tAnd, v_tOr, v_tNot, v_eAnd, v_eOr, v_eNot, v_eIf, v_itE, v_itR, v_itG, v_r1, v_r2, v_seqT, v_seqL, v_clR, v_callR, v_callRx, v_clG, v_clGx, v_clf, v_callf, v_clfG, v_clio, v_cioF, v_cioG, v_cioH, v_oV, v_vlR, v_vlRx, v_oO, v_owL, v_owD, v_sSet, v_setR, v_setRx, v_okV, v_okS, v_sUnp, v_unpR, v_unpG, v_put1, v_putT, v_puts0, v_putsS, v_sPar, v_parR, v_sPut, v_putR, v_putG, v_own, v_putL, v_putD, v_aug, v_augG, v_augH, v_app, v_appF, v_appG, v_sExp, v_expR, v_expRx, v_sRet, v_retR, v_retRx, v_sRetf, v_retf, v_sEnd, v_sRaise, v_sIf, v_ifR, v_ifRx, v_sFor, v_forR, v_sSeq, v_seqN, v_seqR, v_seqx, v_sYes, v_get1, v_get2, v_isD, v_getR1, v_getR2, v_dct1, v_add, v_addT, v_addL, v_sub, v_mul, v_fdiv, v_mod, v_pow, v_neg, v_lt, v_le, v_gtp, v_ge, v_eqI, v_neI, v_eqB, v_neB, v_isN, v_inT, v_ninT, v_ixT, v_ixL, v_ixD, v_revT, v_tup, v_lst, v_dnew, v_dnewT, v_lenT, v_lenL, v_lenD, v_tofT, v_tofL, v_lofS, v_sumL, v_min2, v_max2, v_intI, v_intB, v_allL, v_isi, isi, if_true, if_false, Bool.and_self, Bool.and_true, Bool.true_and, Bool.and_false, Bool.false_and, Bool.or_true, Bool.true_or, Bool.or_false, Bool.false_or, Bool.not_true, Bool.not_false, Bool.false_eq_true, List.length_cons, List.length_nil, Nat.reduceAdd, Nat.reduceLeDiff, decide_true, decide_false, List.set_cons_zero, List.set_cons_succ, w10, d1, en, wb, l2]
  obtain ⟨t5, wk⟩ := whole_ok (n := n) (by omega) (cl := callN tb (19 + 10)) (s0 := .val (.scr ns)) (s1 := .own1 (.lst l1)) (s3 := .val (.dct true (DictOf ps (W (n - 1))))) (s5 := .und) (s6 := .und) (s7 := .und) (s8 := .und) (s9 := .und) (s10 := .und) (s11 := .und) (s12 := .und) (s13 := .und) (s14 := .und)
  rw [wk]
  simp only [v_bind, v_bindx, v_gt0, v_gtS, v_set0, v_setS, v_lit, v_var, v_varV, v_varO, v_varR, v_arg, v_argV, v_argO, v_gV, v_dN, v_dC, v_gN, v_gC, v_d1, v_o1, v_o2, v_o3, v_oD, v_oG, v_opR, v_opRx, v_opF, v_opG, v_opD, v_opDx, v_ds0, v_dsV, v_dsB, v_dsBV, v_dsBO, v_map, v_ch, v_chT, v_chF, v_tB, v_asB, v_asBx, v_tAnd, v_tOr, v_tNot, v_eAnd, v_eOr, v_eNot, v_eIf, v_itE, v_itR, v_itG, v_r1, v_r2, v_seqT, v_seqL, v_clR, v_callR, v_callRx, v_clG, v_clGx, v_clf, v_callf, v_clfG, v_clio, v_cioF, v_cioG, v_cioH, v_oV, v_vlR, v_vlRx, v_oO, v_owL, v_owD, v_sSet, v_setR, v_setRx, v_okV, v_okS, v_sUnp, v_unpR, v_unpG, v_put1, v_putT, v_puts0, v_putsS, v_sPar, v_parR, v_sPut, v_putR, v_putG, v_own, v_putL, v_putD, v_aug, v_augG, v_augH, v_app, v_appF, v_appG, v_sExp, v_expR, v_expRx, v_sRet, v_retR, v_retRx, v_sRetf, v_retf, v_sEnd, v_sRaise, v_sIf, v_ifR, v_ifRx, v_sFor, v_forR, v_sSeq, v_seqN, v_seqR, v_seqx, v_sYes, v_get1, v_get2, v_isD, v_getR1, v_getR2, v_dct1, v_add, v_addT, v_addL, v_sub, v_mul, v_fdiv, v_mod, v_pow, v_neg, v_lt, v_le, v_gtp, v_ge, v_eqI, v_neI, v_eqB, v_neB, v_isN, v_inT, v_ninT, v_ixT, v_ixL, v_ixD, v_revT, v_tup, v_lst, v_dnew, v_dnewT, v_lenT, v_lenL, v_lenD, v_tofT, v_tofL, v_lofS, v_sumL, v_min2, v_max2, v_intI, v_intB, v_allL, v_isi, isi, if_true, if_false, Bool.and_self, Bool.and_true, Bool.true_and, Bool.and_false, Bool.false_and, Bool.or_true, Bool.true_or, Bool.or_false, Bool.false_or, Bool.not_true, Bool.not_false, Bool.false_eq_true, List.length_cons, List.length_nil, Nat.reduceAdd, Nat.reduceLeDiff, decide_true, decide_false, List.set_cons_zero, List.set_cons_succ]
  have a1 := lc_sorted ct (by omega) sYes (fun _ => true) (s0 := .val (.scr ns)) (s1 := .own1 (.lst l1)) (s2 := .val (.int n)) (s4 := .val (.int (fac n : Nat))) (s5 := t5) (s6 := .und) (s7 := .und) (s8 := .und) (s9 := .und) (s10 := .und) (s11 := .und) (s12 := .und) (s13 := .und) (s14 := .und) ⟨rfl, rfl⟩ (fun p => v_sYes)
  have e1 : (((ps.mergeSort leP).filter fun _ => true).map (W (n - 1))).sum = (fac n : Nat) := by
    rw [sum_sorted ct, ← m1]
    exact congrArg List.sum (List.map_congr_left fun p _ => (Int.one_mul _).symm)
  have e2 : (((fac n : Nat) : Int) == ((fac n : Nat) : Int)) = true := by simp
  rw [a1]
  simp only [v_bind, v_bindx, v_gt0, v_gtS, v_set0, v_setS, v_lit, v_var, v_varV, v_varO, v_varR, v_arg, v_argV, v_argO, v_gV, v_dN, v_dC, v_gN, v_gC, v_d1, v_o1, v_o2, v_o3, v_oD, v_oG, v_opR, v_opRx, v_opF, v_opG, v_opD, v_opDx, v_ds0, v_dsV, v_dsB, v_dsBV, v_dsBO, v_map, v_ch, v_chT, v_chF, v_tB, v_asB, v_asBx, v_tAnd, v_tOr, v_tNot, v_eAnd, v_eOr, v_eNot, v_eIf, v_itE, v_itR, v_itG, v_r1, v_r2, v_seqT, v_seqL, v_clR, v_callR, v_callRx, v_clG, v_clGx, v_clf, v_callf, v_clfG, v_clio, v_cioF, v_cioG, v_cioH, v_oV, v_vlR, v_vlRx, v_oO, v_owL, v_owD, v_sSet, v_setR, v_setRx, v_okV, v_okS, v_sUnp, v_unpR, v_unpG, v_put1, v_putT, v_puts0, v_putsS, v_sPar, v_parR, v_sPut, v_putR, v_putG, v_own, v_putL, v_putD, v_aug, v_augG, v_augH, v_app, v_appF, v_appG, v_sExp, v_expR, v_expRx, v_sRet, v_retR, v_retRx, v_sRetf, v_retf, v_sEnd, v_sRaise, v_sIf, v_ifR, v_ifRx, v_sFor, v_forR, v_sSeq, v_seqN, v_seqR, v_seqx, v_sYes, v_get1, v_get2, v_isD, v_getR1, v_getR2, v_dct1, v_add, v_addT, v_addL, v_sub, v_mul, v_fdiv, v_mod, v_pow, v_neg, v_lt, v_le, v_gtp, v_ge, v_eqI, v_neI, v_eqB, v_neB, v_isN, v_inT, v_ninT, v_ixT, v_ixL, v_ixD, v_revT, v_tup, v_lst, v_dnew, v_dnewT, v_lenT, v_lenL, v_lenD, v_tofT, v_tofL, v_lofS, v_sumL, v_min2, v_max2, v_intI, v_intB, v_allL, v_isi, isi, if_true, if_false, Bool.and_self, Bool.and_true, Bool.true_and, Bool.and_false, Bool.false_and, Bool.or_true, Bool.true_or, Bool.or_false, Bool.false_or, Bool.not_true, Bool.not_false, Bool.false_eq_true, List.length_cons, List.length_nil, Nat.reduceAdd, Nat.reduceLeDiff, decide_true, decide_false, List.set_cons_zero, List.set_cons_succ, e1, e2]
  have b12 : bnd 12 = true := by decide
  obtain ⟨ε', f1, l3', t6, t7, t8, dr2, hd8, rfl⟩ := forGo_inv (tg := .nm 6) (b := turnB (callN tb (19 + 10))) (rngD 0 1 12) (fun j ε => ∃ l t6 t7 t8, Dr l ∧ (0 < j → ∃ d, t8 = Sl.val d) ∧ ε = [.val (.scr ns), .own1 (.lst l), .val (.int n), .val (.dct true (DictOf ps (W (n - 1)))), .val (.int (fac n : Nat)), t5, t6, t7, t8, .und, .und, .und, .und, .und, .und]) 0 (fun j hj ε p => by
    obtain ⟨l, t6, t7, t8, dr, _, rfl⟩ := p
    obtain ⟨u7, u8, l', dr', e⟩ := turn_ok (k := 19) h1 hn40 ct dr (s0 := .val (.scr ns)) (s4 := .val (.int (fac n : Nat))) (s5 := t5) (s6 := .val (rngD 0 1 12)[j]) (s7 := t7) (s8 := t8) (s9 := .und) (s10 := .und) (s11 := .und) (s12 := .und) (s13 := .und) (s14 := .und)
    exact ⟨_, _, v_put1, .inl e, l', .val (rngD 0 1 12)[j], .val u7, .val u8, dr', fun _ => ⟨_, rfl⟩, rfl⟩) _ ⟨l1, .und, .und, .und, dr1, fun z => absurd z (Nat.lt_irrefl _), rfl⟩
  obtain ⟨d8, rfl⟩ := hd8 (by rw [rngD_len]; decide)
  have et12 : (12 : Int).toNat = 12 := rfl
  simp only [v_bind, v_bindx, v_gt0, v_gtS, v_set0, v_setS, v_lit, v_var, v_varV, v_varO, v_varR, v_arg, v_argV, v_argO, v_gV, v_dN, v_dC, v_gN, v_gC, v_d1, v_o1, v_o2, v_o3, v_oD, v_oG, v_opR, v_opRx, v_opF, v_opG, v_opD, v_opDx, v_ds0, v_dsV, v_dsB, v_dsBV, v_dsBO, v_map, v_ch, v_chT, v_chF, v_tB, v_asB, v_asBx, v_tAnd, v_tOr, v_tNot, v_eAnd, v_eOr, v_eNot, v_eIf, v_itE, v_itR, v_itG, v_r1, v_r2, v_seqT, v_seqL, v_clR, v_callR, v_callRx, v_clG, v_clGx, v_clf, v_callf, v_clfG, v_clio, v_cioF, v_cioG, v_cioH, v_oV, v_vlR, v_vlRx, v_oO, v_owL, v_owD, v_sSet, v_setR, v_setRx, v_okV, v_okS, v_sUnp, v_unpR, v_unpG, v_put1, v_putT, v_puts0, v_putsS, v_sPar, v_parR, v_sPut, v_putR, v_putG, v_own, v_putL, v_putD, v_aug, v_augG, v_augH, v_app, v_appF, v_appG, v_sExp, v_expR, v_expRx, v_sRet, v_retR, v_retRx, v_sRetf, v_retf, v_sEnd, v_sRaise, v_sIf, v_ifR, v_ifRx, v_sFor, v_forR, v_sSeq, v_seqN, v_seqR, v_seqx, v_sYes, v_get1, v_get2, v_isD, v_getR1, v_getR2, v_dct1, v_add, v_addT, v_addL, v_sub, v_mul, v_fdiv, v_mod, v_pow, v_neg, v_lt, v_le, v_gtp, v_ge, v_eqI, v_neI, v_eqB, v_neB, v_isN, v_inT, v_ninT, v_ixT, v_ixL, v_ixD, v_revT, v_tup, v_lst, v_dnew, v_dnewT, v_lenT, v_lenL, v_lenD, v_tofT, v_tofL, v_lofS, v_sumL, v_min2, v_max2, v_intI, v_intB, v_allL, v_isi, isi, if_true, if_false, Bool.and_self, Bool.and_true, Bool.true_and, Bool.and_false, Bool.false_and, Bool.or_true, Bool.true_or, Bool.or_false, Bool.false_or, Bool.not_true, Bool.not_false, Bool.false_eq_true, List.length_cons, List.length_nil, Nat.reduceAdd, Nat.reduceLeDiff, decide_true, decide_false, List.set_cons_zero, List.set_cons_succ, b12, et12]
  rw [f1]
  have dp : decide ((0 : Int) ≤ 9 ∧ (9 : Int) ≤ 1000000 ∧ (10 : Int).natAbs < 2 ^ 64) = true := rfl
  have ep : (10 : Int) ^ (9 : Int).toNat = 1000000000 := by decide
  obtain ⟨v2, l4, d2, _, dr3⟩ := drawN (k := 19) dr2 (m := 1000000000) (by decide) (by decide)
  have ef : (n : Int) + 1 + (v2 : Int) = ((n + 1 + v2 : Nat) : Int) := by omega
  have z1 : B n (n + 1 + v2) 1 = 0 := by unfold B; rw [if_neg (by omega), if_pos (by omega)]
  have z2 : B n 1 (n + 1 + v2) = 0 := by unfold B; rw [if_neg (by omega), if_pos (by omega)]
  have z3 : S n (n + 1 + v2) = 0 := S_big (by omega)
  have c1 : callN tb (19 + 10) 9 [.int n, .int ((n + 1 + v2 : Nat) : Int), .int 1] = .ok (.int 0) := by
    have := w9 (k := 19) (f := n + 1 + v2) (l := 1) h1 hn40
    rw [z1] at this; exact this
  have c2 : callN tb (19 + 10) 9 [.int n, .int 1, .int ((n + 1 + v2 : Nat) : Int)] = .ok (.int 0) := by
    have := w9 (k := 19) (f := 1) (l := n + 1 + v2) h1 hn40
    rw [z2] at this; exact this
  have c3 : callN tb (19 + 10) 7 [.int n, .int ((n + 1 + v2 : Nat) : Int)] = .ok (.int 0) := by
    have := w7 (k := 19) (m := n + 1 + v2) hn40
    rw [z3] at this; exact this
  have c4 : callN tb (19 + 10) 12 [.lst [.int 0, .int 0, .int 0], .lst [.int 0, .int 0, .int 0]] = .ok (.bl true) := same_list (k := 27) (ns := [0, 0, 0]) (by decide)
  simp only [v_bind, v_bindx, v_gt0, v_gtS, v_set0, v_setS, v_lit, v_var, v_varV, v_varO, v_varR, v_arg, v_argV, v_argO, v_gV, v_dN, v_dC, v_gN, v_gC, v_d1, v_o1, v_o2, v_o3, v_oD, v_oG, v_opR, v_opRx, v_opF, v_opG, v_opD, v_opDx, v_ds0, v_dsV, v_dsB, v_dsBV, v_dsBO, v_map, v_ch, v_chT, v_chF, v_tB, v_asB, v_asBx, v_tAnd, v_tOr, v_tNot, v_eAnd, v_eOr, v_eNot, v_eIf, v_itE, v_itR, v_itG, v_r1, v_r2, v_seqT, v_seqL, v_clR, v_callR, v_callRx, v_clG, v_clGx, v_clf, v_callf, v_clfG, v_clio, v_cioF, v_cioG, v_cioH, v_oV, v_vlR, v_vlRx, v_oO, v_owL, v_owD, v_sSet, v_setR, v_setRx, v_okV, v_okS, v_sUnp, v_unpR, v_unpG, v_put1, v_putT, v_puts0, v_putsS, v_sPar, v_parR, v_sPut, v_putR, v_putG, v_own, v_putL, v_putD, v_aug, v_augG, v_augH, v_app, v_appF, v_appG, v_sExp, v_expR, v_expRx, v_sRet, v_retR, v_retRx, v_sRetf, v_retf, v_sEnd, v_sRaise, v_sIf, v_ifR, v_ifRx, v_sFor, v_forR, v_sSeq, v_seqN, v_seqR, v_seqx, v_sYes, v_get1, v_get2, v_isD, v_getR1, v_getR2, v_dct1, v_add, v_addT, v_addL, v_sub, v_mul, v_fdiv, v_mod, v_pow, v_neg, v_lt, v_le, v_gtp, v_ge, v_eqI, v_neI, v_eqB, v_neB, v_isN, v_inT, v_ninT, v_ixT, v_ixL, v_ixD, v_revT, v_tup, v_lst, v_dnew, v_dnewT, v_lenT, v_lenL, v_lenD, v_tofT, v_tofL, v_lofS, v_sumL, v_min2, v_max2, v_intI, v_intB, v_allL, v_isi, isi, if_true, if_false, Bool.and_self, Bool.and_true, Bool.true_and, Bool.and_false, Bool.false_and, Bool.or_true, Bool.true_or, Bool.or_false, Bool.false_or, Bool.not_true, Bool.not_false, Bool.false_eq_true, List.length_cons, List.length_nil, Nat.reduceAdd, Nat.reduceLeDiff, decide_true, decide_false, List.set_cons_zero, List.set_cons_succ, dp, ep, d2, ef, c1, c2, c3, c4, l3]
  obtain ⟨ε'', f2, t7', t10, t8', hh⟩ := forGo_inv (tg := .nm 7) (b := colB (callN tb (19 + 10))) (rngD 0 1 (n + 2)) (fun j ε => ∃ t7 t10 t8, ε = [.val (.scr ns), .own1 (.lst l4), .val (.int n), .val (.dct true (DictOf ps (W (n - 1)))), .val (.int (fac n : Nat)), t5, t6, t7, .val t8, .val (.int ((n + 1 + v2 : Nat) : Int)), t10, .und, .und, .und, .und]) 0 (fun j hj ε p => by
    obtain ⟨u7, u10, u8, rfl⟩ := p
    rw [rngD_at, show (0 : Int) + (j : Int) * 1 = (j : Int) from by omega]
    obtain ⟨t10, e⟩ := col_ok (k := 19) (f := j) h1 hn40 ct mS (s0 := .val (.scr ns)) (s1 := .own1 (.lst l4)) (s4 := .val (.int (fac n : Nat))) (s5 := t5) (s6 := t6) (s9 := .val (.int ((n + 1 + v2 : Nat) : Int))) (s10 := u10) (s11 := .und) (s12 := .und) (s13 := .und) (s14 := .und) (d8 := u8) ⟨rfl, rfl⟩
    exact ⟨_, _, v_put1, .inl e, _, _, _, rfl⟩) _ ⟨t7, .und, d8, rfl⟩
  subst hh
  have b2 : bnd ((n : Int) + 2) = true := decide_eq_true (by omega)
  have et2 : ((n : Int) + 2).toNat = n + 2 := by omega
  simp only [v_bind, v_bindx, v_gt0, v_gtS, v_set0, v_setS, v_lit, v_var, v_varV, v_varO, v_varR, v_arg, v_argV, v_argO, v_gV, v_dN, v_dC, v_gN, v_gC, v_d1, v_o1, v_o2, v_o3, v_oD, v_oG, v_opR, v_opRx, v_opF, v_opG, v_opD, v_opDx, v_ds0, v_dsV, v_dsB, v_dsBV, v_dsBO, v_map, v_ch, v_chT, v_chF, v_tB, v_asB, v_asBx, v_tAnd, v_tOr, v_tNot, v_eAnd, v_eOr, v_eNot, v_eIf, v_itE, v_itR, v_itG, v_r1, v_r2, v_seqT, v_seqL, v_clR, v_callR, v_callRx, v_clG, v_clGx, v_clf, v_callf, v_clfG, v_clio, v_cioF, v_cioG, v_cioH, v_oV, v_vlR, v_vlRx, v_oO, v_owL, v_owD, v_sSet, v_setR, v_setRx, v_okV, v_okS, v_sUnp, v_unpR, v_unpG, v_put1, v_putT, v_puts0, v_putsS, v_sPar, v_parR, v_sPut, v_putR, v_putG, v_own, v_putL, v_putD, v_aug, v_augG, v_augH, v_app, v_appF, v_appG, v_sExp, v_expR, v_expRx, v_sRet, v_retR, v_retRx, v_sRetf, v_retf, v_sEnd, v_sRaise, v_sIf, v_ifR, v_ifRx, v_sFor, v_forR, v_sSeq, v_seqN, v_seqR, v_seqx, v_sYes, v_get1, v_get2, v_isD, v_getR1, v_getR2, v_dct1, v_add, v_addT, v_addL, v_sub, v_mul, v_fdiv, v_mod, v_pow, v_neg, v_lt, v_le, v_gtp, v_ge, v_eqI, v_neI, v_eqB, v_neB, v_isN, v_inT, v_ninT, v_ixT, v_ixL, v_ixD, v_revT, v_tup, v_lst, v_dnew, v_dnewT, v_lenT, v_lenL, v_lenD, v_tofT, v_tofL, v_lofS, v_sumL, v_min2, v_max2, v_intI, v_intB, v_allL, v_isi, isi, if_true, if_false, Bool.and_self, Bool.and_true, Bool.true_and, Bool.and_false, Bool.false_and, Bool.or_true, Bool.true_or, Bool.or_false, Bool.false_or, Bool.not_true, Bool.not_false, Bool.false_eq_true, List.length_cons, List.length_nil, Nat.reduceAdd, Nat.reduceLeDiff, decide_true, decide_false, List.set_cons_zero, List.set_cons_succ, b2, et2]
  rw [f2]
  obtain ⟨v3, l5, d3, hv3, dr4⟩ := drawN (k := 19) dr3 (m := 6) (by decide) (by decide)
  have em : (1 : Int) + (v3 : Int) = ((v3 + 1 : Nat) : Int) := by omega
  generalize hm : v3 + 1 = m at em
  have hm1 : 1 ≤ m := by omega
  have hm6 : m ≤ 6 := by omega
  obtain ⟨qs, ct', _, _, wb'⟩ := both_ok (k := 28) hm1 (by omega : m ≤ 50)
  have wb' : callN tb (19 + 10) 13 [.int m] = _ := wb'
  simp only [v_bind, v_bindx, v_gt0, v_gtS, v_set0, v_setS, v_lit, v_var, v_varV, v_varO, v_varR, v_arg, v_argV, v_argO, v_gV, v_dN, v_dC, v_gN, v_gC, v_d1, v_o1, v_o2, v_o3, v_oD, v_oG, v_opR, v_opRx, v_opF, v_opG, v_opD, v_opDx, v_ds0, v_dsV, v_dsB, v_dsBV, v_dsBO, v_map, v_ch, v_chT, v_chF, v_tB, v_asB, v_asBx, v_tAnd, v_tOr, v_tNot, v_eAnd, v_eOr, v_eNot, v_eIf, v_itE, v_itR, v_itG, v_r1, v_r2, v_seqT, v_seqL, v_clR, v_callR, v_callRx, v_clG, v_clGx, v_clf, v_callf, v_clfG, v_clio, v_cioF, v_cioG, v_cioH, v_oV, v_vlR, v_vlRx, v_oO, v_owL, v_owD, v_sSet, v_setR, v_setRx, v_okV, v_okS, v_sUnp, v_unpR, v_unpG, v_put1, v_putT, v_puts0, v_putsS, v_sPar, v_parR, v_sPut, v_putR, v_putG, v_own, v_putL, v_putD, v_aug, v_augG, v_augH, v_app, v_appF, v_appG, v_sExp, v_expR, v_expRx, v_sRet, v_retR, v_retRx, v_sRetf, v_retf, v_sEnd, v_sRaise, v_sIf, v_ifR, v_ifRx, v_sFor, v_forR, v_sSeq, v_seqN, v_seqR, v_seqx, v_sYes, v_get1, v_get2, v_isD, v_getR1, v_getR2, v_dct1, v_add, v_addT, v_addL, v_sub, v_mul, v_fdiv, v_mod, v_pow, v_neg, v_lt, v_le, v_gtp, v_ge, v_eqI, v_neI, v_eqB, v_neB, v_isN, v_inT, v_ninT, v_ixT, v_ixL, v_ixD, v_revT, v_tup, v_lst, v_dnew, v_dnewT, v_lenT, v_lenL, v_lenD, v_tofT, v_tofL, v_lofS, v_sumL, v_min2, v_max2, v_intI, v_intB, v_allL, v_isi, isi, if_true, if_false, Bool.and_self, Bool.and_true, Bool.true_and, Bool.and_false, Bool.false_and, Bool.or_true, Bool.true_or, Bool.or_false, Bool.false_or, Bool.not_true, Bool.not_false, Bool.false_eq_true, List.length_cons, List.length_nil, Nat.reduceAdd, Nat.reduceLeDiff, decide_true, decide_false, List.set_cons_zero, List.set_cons_succ, d3, em, wb']
  obtain ⟨ε3, f3, u7, hh⟩ := forGo_inv (tg := .nm 7) (b := smB (callN tb (19 + 10))) (rngD 1 1 m) (fun j ε => ∃ t7, ε = [.val (.scr ns), .own1 (.lst l5), .val (.int n), .val (.dct true (DictOf ps (W (n - 1)))), .val (.int (fac n : Nat)), t5, t6, t7, .val t8', .val (.int ((n + 1 + v2 : Nat) : Int)), t10, .val (.int m), .val (.dct true (DictOf qs (W (m - 1)))), .und, .und]) 0 (fun j hj ε p => by
    obtain ⟨u7, rfl⟩ := p
    rw [rngD_len] at hj
    rw [rngD_at, show (1 : Int) + (j : Int) * 1 = ((j + 1 : Nat) : Int) from by omega]
    have e := sm_ok (k := 19) (f := j + 1) hm1 hm6 (by omega) (by omega) ct' (s0 := .val (.scr ns)) (s1 := .own1 (.lst l5)) (s2 := .val (.int n)) (s3 := .val (.dct true (DictOf ps (W (n - 1))))) (s4 := .val (.int (fac n : Nat))) (s5 := t5) (s6 := t6) (s8 := .val t8') (s9 := .val (.int ((n + 1 + v2 : Nat) : Int))) (s10 := t10) (s13 := .und) (s14 := .und) ⟨rfl, rfl⟩
    exact ⟨_, _, v_put1, .inl e, _, rfl⟩) _ ⟨t7', rfl⟩
  subst hh
  have b3 : bnd 1 = true := by decide
  have b4 : bnd ((m : Int) + 1) = true := decide_eq_true (by omega)
  have et3 : ((m : Int) + 1 - 1).toNat = m := by omega
  simp only [v_bind, v_bindx, v_gt0, v_gtS, v_set0, v_setS, v_lit, v_var, v_varV, v_varO, v_varR, v_arg, v_argV, v_argO, v_gV, v_dN, v_dC, v_gN, v_gC, v_d1, v_o1, v_o2, v_o3, v_oD, v_oG, v_opR, v_opRx, v_opF, v_opG, v_opD, v_opDx, v_ds0, v_dsV, v_dsB, v_dsBV, v_dsBO, v_map, v_ch, v_chT, v_chF, v_tB, v_asB, v_asBx, v_tAnd, v_tOr, v_tNot, v_eAnd, v_eOr, v_eNot, v_eIf, v_itE, v_itR, v_itG, v_r1, v_r2, v_seqT, v_seqL, v_clR, v_callR, v_callRx, v_clG, v_clGx, v_clf, v_callf, v_clfG, v_clio, v_cioF, v_cioG, v_cioH, v_oV, v_vlR, v_vlRx, v_oO, v_owL, v_owD, v_sSet, v_setR, v_setRx, v_okV, v_okS, v_sUnp, v_unpR, v_unpG, v_put1, v_putT, v_puts0, v_putsS, v_sPar, v_parR, v_sPut, v_putR, v_putG, v_own, v_putL, v_putD, v_aug, v_augG, v_augH, v_app, v_appF, v_appG, v_sExp, v_expR, v_expRx, v_sRet, v_retR, v_retRx, v_sRetf, v_retf, v_sEnd, v_sRaise, v_sIf, v_ifR, v_ifRx, v_sFor, v_forR, v_sSeq, v_seqN, v_seqR, v_seqx, v_sYes, v_get1, v_get2, v_isD, v_getR1, v_getR2, v_dct1, v_add, v_addT, v_addL, v_sub, v_mul, v_fdiv, v_mod, v_pow, v_neg, v_lt, v_le, v_gtp, v_ge, v_eqI, v_neI, v_eqB, v_neB, v_isN, v_inT, v_ninT, v_ixT, v_ixL, v_ixD, v_revT, v_tup, v_lst, v_dnew, v_dnewT, v_lenT, v_lenL, v_lenD, v_tofT, v_tofL, v_lofS, v_sumL, v_min2, v_max2, v_intI, v_intB, v_allL, v_isi, isi, if_true, if_false, Bool.and_self, Bool.and_true, Bool.true_and, Bool.and_false, Bool.false_and, Bool.or_true, Bool.true_or, Bool.or_false, Bool.false_or, Bool.not_true, Bool.not_false, Bool.false_eq_true, List.length_cons, List.length_nil, Nat.reduceAdd, Nat.reduceLeDiff, decide_true, decide_false, List.set_cons_zero, List.set_cons_succ, b3, b4, et3]
  rw [f3]
  simp only [v_bind, v_bindx, v_gt0, v_gtS, v_set0, v_setS, v_lit, v_var, v_varV, v_varO, v_varR, v_arg, v_argV, v_argO, v_gV, v_dN, v_dC, v_gN, v_gC, v_d1, v_o1, v_o2, v_o3, v_oD, v_oG, v_opR, v_opRx, v_opF, v_opG, v_opD, v_opDx, v_ds0, v_dsV, v_dsB, v_dsBV, v_dsBO, v_map, v_ch, v_chT, v_chF, v_tB, v_asB, v_asBx, v_tAnd, v_tOr, v_tNot, v_eAnd, v_eOr, v_eNot, v_eIf, v_itE, v_itR, v_itG, v_r1, v_r2, v_seqT, v_seqL, v_clR, v_callR, v_callRx, v_clG, v_clGx, v_clf, v_callf, v_clfG, v_clio, v_cioF, v_cioG, v_cioH, v_oV, v_vlR, v_vlRx, v_oO, v_owL, v_owD, v_sSet, v_setR, v_setRx, v_okV, v_okS, v_sUnp, v_unpR, v_unpG, v_put1, v_putT, v_puts0, v_putsS, v_sPar, v_parR, v_sPut, v_putR, v_putG, v_own, v_putL, v_putD, v_aug, v_augG, v_augH, v_app, v_appF, v_appG, v_sExp, v_expR, v_expRx, v_sRet, v_retR, v_retRx, v_sRetf, v_retf, v_sEnd, v_sRaise, v_sIf, v_ifR, v_ifRx, v_sFor, v_forR, v_sSeq, v_seqN, v_seqR, v_seqx, v_sYes, v_get1, v_get2, v_isD, v_getR1, v_getR2, v_dct1, v_add, v_addT, v_addL, v_sub, v_mul, v_fdiv, v_mod, v_pow, v_neg, v_lt, v_le, v_gtp, v_ge, v_eqI, v_neI, v_eqB, v_neB, v_isN, v_inT, v_ninT, v_ixT, v_ixL, v_ixD, v_revT, v_tup, v_lst, v_dnew, v_dnewT, v_lenT, v_lenL, v_lenD, v_tofT, v_tofL, v_lofS, v_sumL, v_min2, v_max2, v_intI, v_intB, v_allL, v_isi, isi, if_true, if_false, Bool.and_self, Bool.and_true, Bool.true_and, Bool.and_false, Bool.false_and, Bool.or_true, Bool.true_or, Bool.or_false, Bool.false_or, Bool.not_true, Bool.not_false, Bool.false_eq_true, List.length_cons, List.length_nil, Nat.reduceAdd, Nat.reduceLeDiff, decide_true, decide_false, List.set_cons_zero, List.set_cons_succ]
  rfl
end Ev.K94
open PySem PySem.W PyProof.Rows
theorem PySem.Challenge.cw_pencilrows_k94_whole_great_orders_of_hei_holds : PySem.Challenge.rw_pencilrows_k94_whole_great_orders_of_hei.Holds := by
  exact Ev.K94.holds_of Ev.K94.plain
