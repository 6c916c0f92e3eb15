import PyProof.Rows.All
import Wide.All
import OpenK.AllK
import Wide.FinOn
import HandS.ForMost
import HandS.ForExc
import HandS.Deep
import HandS.Property
import HandS.TupAny
import HandS.IsInst
import HandS.Style
import HandS.TupLe
import HandS.SortInts
import HandS.Small
import HandS.More
import KE.GoesEnumKw
import HandS.Zip
import HandS.OwnEq
import KE.KOpsOwn
import HandS.ClsMeth
import HandS.DictComp
import HandS.Finally
import PyProof.DictUpdate
import HandS.Star
import HandS.RaiseMore
import HandS.Conv
import PyProof.ReprRoads
import HandS.EndBits
import PySem.Challenge.RW_neverdug_k20_days_drawn_in
set_option Elab.async false
set_option linter.all false
set_option autoImplicit false
set_option maxHeartbeats 1000000
/-! the data layer, part 0: data, what holds it, what is owned -/
namespace DL
open PySem L2

/-- data -/
inductive D where
  | non | bl (b : Bool) | int (i : Int) | str (x : Str)
  | lst (xs : List D) | tup (xs : List D) | ktup (xs : List D) | klst (xs : List D) | dct (t : Bool) (kvs : List (D × D))
  | ins (c : Str) (fs : List (Str × D))
  | opq (v : V)
  deriving Inhabited

def keyD : Key → D
  | .inl i => .int i
  | .inr x => .str x
theorem keyD_inj {a b : Key} (h : keyD a = keyD b) : a = b := by
  cases a <;> cases b <;> simp [keyD] at h <;> rw [h]
def tupD (ks : List Key) : D := .tup (ks.map keyD)

/-- shapes of ownership: frozen; an owned list or dict whose items are so; an owned instance -/
inductive O where
  | z | c (o : O) | i | k (j : Nat) (o : O)
  deriving DecidableEq, Repr

structure Cfg where
  K : PySem.W.Frag
  cl : Str → Option Addr
  cq : ∀ a b x, cl a = some x → cl b = some x → a = b

variable (C : Cfg)

mutual
inductive Rep (F : Hp) : V → D → Prop
  | non : Rep F .non .non
  | bl (b) : Rep F (.bl b) (.bl b)
  | int (i) : Rep F (.int i) (.int i)
  | str (x) : Rep F (.str x) (.str x)
  | opq (v) : Rep F v (.opq v)
  | lst {a vs ds} : Rd F a (.lst vs) → RepL F vs ds → Rep F (.ref a) (.lst ds)
  | tup {a vs ds} : F a = some (.tup vs) → RepL F vs ds → Rep F (.ref a) (.tup ds)
  | ktup {a vs ds} : SqT C.K (fun _ => none) a vs → RepL F vs ds → Rep F (.ref a) (.ktup ds)
  | klst {a vs ds} : SqL C.K (fun _ => none) a vs → RepL F vs ds → Rep F (.ref a) (.klst ds)
  | dK {a} {kvs : List (Key × V)} {ds} : Rd F a (.dK kvs) → RepL F (kvs.map (·.2)) ds → Rep F (.ref a) (.dct false ((kvs.map fun p => keyD p.1).zip ds))
  | dT {a} {kvs : List (List Key × V)} {ds} : Rd F a (.dT kvs) → RepL F (kvs.map (·.2)) ds → Rep F (.ref a) (.dct true ((kvs.map fun p => tupD p.1).zip ds))
  | ins {a c Ca dx} {fs : List (Str × V)} {ds} : F a = some (.ins Ca dx fs) → C.cl c = some Ca → RepL F (fs.map (·.2)) ds → Rep F (.ref a) (.ins c ((fs.map (·.1)).zip ds))
inductive RepL (F : Hp) : List V → List D → Prop
  | nil : RepL F [] []
  | cons {v d vs ds} : Rep F v d → RepL F vs ds → RepL F (v :: vs) (d :: ds)
end

def Sub (F F' : Hp) : Prop := ∀ a o, F a = some o → F' a = some o
def isDc : HO → Bool
  | .dK _ => true
  | .dT _ => true
  | _ => false
/-- what is frozen stays; a dict may be locked -/
def Ext (F F' : Hp) : Prop := ∀ a o, F a = some o → F' a = some o ∨ (isDc o = true ∧ ∃ ob, F' a = some (.frz ob o))
theorem Sub.refl (F : Hp) : Sub F F := fun _ _ h => h
theorem Ext.refl (F : Hp) : Ext F F := fun _ _ h => .inl h
theorem Sub.ext {F F' : Hp} (h : Sub F F') : Ext F F' := fun a o e => .inl (h a o e)
theorem Ext.at {F F' : Hp} (h : Ext F F') {a : Addr} {o : HO} (e : F a = some o) (n : isDc o = false) : F' a = some o := by
  rcases h a o e with h | ⟨d, _⟩
  · exact h
  · rw [n] at d; cases d
variable {C}
theorem Sub.trans {F G H : Hp} (a : Sub F G) (b : Sub G H) : Sub F H := fun x o h => b x o (a x o h)
theorem Ext.trans {F G H : Hp} (a : Ext F G) (b : Ext G H) : Ext F H := fun x o h => by
  rcases a x o h with h1 | ⟨d, ob, h1⟩
  · exact b x o h1
  · exact .inr ⟨d, ob, b.at h1 rfl⟩
theorem Sub.new {F : Hp} {p : Addr} {o : HO} (h : F p = none) : Sub F (upd F p o) := fun a u e => by
  rw [upd_ne (ne_of_none e h)]; exact e
theorem Ext.new {F : Hp} {p : Addr} {o : HO} (h : F p = none) : Ext F (upd F p o) := (Sub.new h).ext
theorem Ext.sqL {F F' : Hp} {a : Addr} {xs : List V} (e : Ext F F') (h : SqL C.K F a xs) : SqL C.K F' a xs := by
  rcases h with (h | ⟨o, h⟩) | h
  · exact .inl (.inl (e.at h rfl))
  · exact .inl (.inr ⟨o, e.at h rfl⟩)
  · exact .inr h
theorem Ext.sqT {F F' : Hp} {a : Addr} {xs : List V} (e : Ext F F') (h : SqT C.K F a xs) : SqT C.K F' a xs := by
  rcases h with (h | ⟨o, h⟩) | h
  · exact .inl (.inl (e.at h rfl))
  · exact .inl (.inr ⟨o, e.at h rfl⟩)
  · exact .inr h

theorem Ext.rd {F F' : Hp} {a : Addr} {o : HO} (e : Ext F F') (h : Rd F a o) : Rd F' a o := by
  rcases h with h | ⟨u, h⟩
  · rcases e _ _ h with h1 | ⟨d, ob, h1⟩
    · exact .inl h1
    · exact .inr ⟨ob, h1⟩
  · exact .inr ⟨u, e.at h rfl⟩
mutual
theorem Rep.mono {F F' : Hp} (e : Ext F F') : ∀ {v : V} {d : D}, Rep C F v d → Rep C F' v d
  | _, _, .non => .non
  | _, _, .bl b => .bl b
  | _, _, .int b => .int b
  | _, _, .str b => .str b
  | _, _, .opq b => .opq b
  | _, _, .lst h r => .lst (e.rd h) (RepL.mono e r)
  | _, _, .tup h r => .tup (e.at h rfl) (RepL.mono e r)
  | _, _, .ktup h r => .ktup h (RepL.mono e r)
  | _, _, .klst h r => .klst h (RepL.mono e r)
  | _, _, .dK h r => .dK (e.rd h) (RepL.mono e r)
  | _, _, .dT h r => .dT (e.rd h) (RepL.mono e r)
  | _, _, .ins h c r => .ins (e.at h rfl) c (RepL.mono e r)
theorem RepL.mono {F F' : Hp} (e : Ext F F') : ∀ {vs : List V} {ds : List D}, RepL C F vs ds → RepL C F' vs ds
  | _, _, .nil => .nil
  | _, _, .cons h r => .cons (Rep.mono e h) (RepL.mono e r)
end

theorem RepL.length {F : Hp} {vs : List V} {ds : List D} (h : RepL C F vs ds) : vs.length = ds.length := by
  induction vs generalizing ds with
  | nil => cases h; rfl
  | cons v vs ih => cases h with | cons a b => simp [ih b]
theorem RepL.get {F : Hp} {vs : List V} {ds : List D} (h : RepL C F vs ds) {i : Nat} {d : D} (e : ds[i]? = some d) : ∃ v, vs[i]? = some v ∧ Rep C F v d := by
  induction vs generalizing ds i with
  | nil => cases h; simp at e
  | cons v vs ih =>
    cases h with
    | cons a b =>
      cases i with
      | zero => simp at e; subst e; exact ⟨v, rfl, a⟩
      | succ i => simpa using ih b (by simpa using e)
theorem RepL.get' {F : Hp} {vs : List V} {ds : List D} (h : RepL C F vs ds) {i : Nat} {v : V} (e : vs[i]? = some v) : ∃ d, ds[i]? = some d ∧ Rep C F v d := by
  induction vs generalizing ds i with
  | nil => simp at e
  | cons v vs ih =>
    cases h with
    | cons a b =>
      cases i with
      | zero => simp at e; subst e; exact ⟨_, rfl, a⟩
      | succ i => simpa using ih b (by simpa using e)
theorem RepL.append {F : Hp} {vs ws : List V} {ds es : List D} (h : RepL C F vs ds) (k : RepL C F ws es) : RepL C F (vs ++ ws) (ds ++ es) := by
  induction vs generalizing ds with
  | nil => cases h; exact k
  | cons v vs ih => cases h with | cons a b => exact .cons a (ih b)
theorem RepL.take {F : Hp} {vs : List V} {ds : List D} (h : RepL C F vs ds) (n : Nat) : RepL C F (vs.take n) (ds.take n) := by
  induction vs generalizing ds n with
  | nil => cases h; simpa using RepL.nil
  | cons v vs ih =>
    cases h with
    | cons a b =>
      cases n with
      | zero => exact .nil
      | succ n => exact .cons a (ih b n)
theorem RepL.drop {F : Hp} {vs : List V} {ds : List D} (h : RepL C F vs ds) (n : Nat) : RepL C F (vs.drop n) (ds.drop n) := by
  induction vs generalizing ds n with
  | nil => cases h; simpa using RepL.nil
  | cons v vs ih =>
    cases h with
    | cons a b =>
      cases n with
      | zero => exact .cons a b
      | succ n => exact ih b n
theorem RepL.set {F : Hp} {vs : List V} {ds : List D} {v : V} {d : D} (h : RepL C F vs ds) (r : Rep C F v d) (n : Nat) : RepL C F (vs.set n v) (ds.set n d) := by
  induction vs generalizing ds n with
  | nil => cases h; simpa using RepL.nil
  | cons v vs ih =>
    cases h with
    | cons a b =>
      cases n with
      | zero => exact .cons r b
      | succ n => exact .cons a (ih b n)
theorem RepL.reverse {F : Hp} {vs : List V} {ds : List D} (h : RepL C F vs ds) : RepL C F vs.reverse ds.reverse := by
  induction vs generalizing ds with
  | nil => cases h; exact .nil
  | cons v vs ih =>
    cases h with
    | cons a b =>
      rw [List.reverse_cons, List.reverse_cons]
      exact RepL.append (ih b) (.cons a .nil)

/-! ### owned trees -/
/-- the item at a place exchanged: the new thing, the old item -/
def setJ : D → Nat → D → Option (D × D)
  | .lst xs, j, e => (xs[j]?).map fun x => (.lst (xs.set j e), x)
  | .dct t kvs, j, e => (kvs[j]?).map fun p => (.dct t (kvs.set j (p.1, e)), p.2)
  | _, _, _ => none
theorem set_sameJ {α : Type} : ∀ {xs : List α} {j : Nat} {x : α}, xs[j]? = some x → xs.set j x = xs
  | [], _, _, h => by simp at h
  | y :: ys, 0, x, h => by simp at h; simp [h]
  | y :: ys, j + 1, x, h => by simp at h ⊢; exact set_sameJ (by simpa using h)
theorem zip_set_r {α β : Type} : ∀ {xs : List α} {ys : List β} {j : Nat} {x : α} {y : β}, xs[j]? = some x → (xs.zip ys).set j (x, y) = xs.zip (ys.set j y)
  | [], _, _, _, _, h => by simp at h
  | a :: xs, [], _, _, _, _ => by simp
  | a :: xs, b :: ys, 0, _, _, h => by simp at h; simp [h]
  | a :: xs, b :: ys, j + 1, x, y, h => by
    simp at h
    simp [zip_set_r (xs := xs) (ys := ys) (j := j) (y := y) h]
theorem setJ_rep {F : Hp} {v w : V} {d0 d inner : D} {j : Nat} (R : Rep C F v d0) (h : setJ d0 j inner = some (d, .opq w)) (Ri : Rep C F w inner) : Rep C F v d := by
  cases R with
  | @lst a vs ds h1 r =>
    simp only [setJ] at h
    cases hj : ds[j]? with
    | none => rw [hj] at h; cases h
    | some x =>
      rw [hj] at h
      cases h
      obtain ⟨w', hw, rw'⟩ := r.get hj
      cases rw'
      have e : vs.set j w = vs := by
        rw [set_sameJ hw]
      refine .lst h1 ?_
      have z := r.set Ri j
      rw [e] at z
      exact z
  | @dK a kvs ds h1 r =>
    simp only [setJ] at h
    cases hj : ((kvs.map fun p => keyD p.1).zip ds)[j]? with
    | none => rw [hj] at h; cases h
    | some x =>
      obtain ⟨kx, vx⟩ := x
      rw [hj] at h
      cases h
      obtain ⟨hk, hd⟩ := List.getElem?_zip_eq_some.mp hj
      obtain ⟨w', hw, rw'⟩ := r.get hd
      cases rw'
      have z := r.set Ri j
      have e : (kvs.map (·.2)).set j w = kvs.map (·.2) := by
        rw [set_sameJ hw]
      rw [e] at z
      rw [zip_set_r hk]
      exact .dK h1 z
  | @dT a kvs ds h1 r =>
    simp only [setJ] at h
    cases hj : ((kvs.map fun p => tupD p.1).zip ds)[j]? with
    | none => rw [hj] at h; cases h
    | some x =>
      obtain ⟨kx, vx⟩ := x
      rw [hj] at h
      cases h
      obtain ⟨hk, hd⟩ := List.getElem?_zip_eq_some.mp hj
      obtain ⟨w', hw, rw'⟩ := r.get hd
      cases rw'
      have z := r.set Ri j
      have e : (kvs.map (·.2)).set j w = kvs.map (·.2) := by
        rw [set_sameJ hw]
      rw [e] at z
      rw [zip_set_r hk]
      exact .dT h1 z
  | _ => cases h

def OwnL (P : V → D → List Addr → Prop) : List V → List D → List Addr → Prop
  | [], [], fp => fp = []
  | v :: vs, d :: ds, fp => ∃ f1 f2, fp = f1 ++ f2 ∧ P v d f1 ∧ OwnL P vs ds f2
  | _, _, _ => False

/-- v holds d, its top cells owned as o says; fp: the owned cells -/
def Own (C : Cfg) (F H : Hp) : O → V → D → List Addr → Prop
  | .z, v, d, fp => Rep C F v d ∧ fp = []
  | .c o, v, d, fp => ∃ a fps, v = .ref a ∧ fp = a :: fps ∧
      ((∃ vs ds, H a = some (.lst vs) ∧ d = .lst ds ∧ OwnL (Own C F H o) vs ds fps) ∨
       (∃ kvs ds, H a = some (.dK kvs) ∧ d = .dct false ((kvs.map fun p => keyD p.1).zip ds) ∧ OwnL (Own C F H o) (kvs.map (·.2)) ds fps) ∨
       (∃ kvs ds, H a = some (.dT kvs) ∧ d = .dct true ((kvs.map fun p => tupD p.1).zip ds) ∧ (∀ p ∈ kvs, ∃ b, F b = some (.tup (p.1.map kV))) ∧ OwnL (Own C F H o) (kvs.map (·.2)) ds fps))
  | .k j o, v, d, fp => ∃ b ws ds d0 fa, setJ d0 j (.lst ds) = some (d, .opq (.ref b)) ∧ Own C F H o v d0 fa ∧ H b = some (.lst ws) ∧ RepL C F ws ds ∧ fp = fa ++ [b]
  | .i, v, d, fp => ∃ a c Ca dx fs ds, v = .ref a ∧ fp = [a] ∧ H a = some (.ins Ca dx fs) ∧ C.cl c = some Ca ∧ d = .ins c ((fs.map (·.1)).zip ds) ∧ RepL C F (fs.map (·.2)) ds

theorem OwnL.imp {P Q : V → D → List Addr → Prop} : ∀ {vs : List V} {ds : List D} {fp : List Addr}, (∀ v d f, (∀ a ∈ f, a ∈ fp) → P v d f → Q v d f) → OwnL P vs ds fp → OwnL Q vs ds fp
  | [], [], _, _, h => h
  | v :: vs, d :: ds, fp, k, h => by
    obtain ⟨f1, f2, rfl, p, r⟩ := h
    exact ⟨f1, f2, rfl, k _ _ _ (fun a ha => List.mem_append_left _ ha) p, OwnL.imp (fun v d f hf => k v d f fun a ha => List.mem_append_right _ (hf a ha)) r⟩
  | [], _ :: _, _, _, h => h.elim
  | _ :: _, [], _, _, h => h.elim

/-- what an owned tree leans on: the frozen part, and its own cells -/
theorem Own.keep {F F' H H' : Hp} (e : Ext F F') : ∀ {o : O} {v : V} {d : D} {fp : List Addr}, (∀ a ∈ fp, H' a = H a) → Own C F H o v d fp → Own C F' H' o v d fp
  | .z, _, _, _, _, h => ⟨h.1.mono e, h.2⟩
  | .i, _, _, _, k, ⟨a, c, Ca, dx, fs, ds, e1, e2, e3, e4, e5, e6⟩ => ⟨a, c, Ca, dx, fs, ds, e1, e2, by rw [k a (by rw [e2]; simp)]; exact e3, e4, e5, e6.mono e⟩
  | .k j o, _, _, _, k, ⟨b, ws, ds, d0, fa, e1, p, e2, e3, e4⟩ => by
    subst e4
    exact ⟨b, ws, ds, d0, fa, e1, Own.keep e (fun a ha => k a (List.mem_append_left _ ha)) p, by rw [k b (by simp)]; exact e2, e3.mono e, rfl⟩
  | .c o, _, _, _, k, ⟨a, fps, e1, e2, h⟩ => by
    refine ⟨a, fps, e1, e2, ?_⟩
    subst e2
    have ka := k a (by simp)
    have go : ∀ {vs : List V} {ds : List D}, OwnL (Own C F H o) vs ds fps → OwnL (Own C F' H' o) vs ds fps := fun h =>
      OwnL.imp (fun v d f hf p => Own.keep (o := o) e (fun b hb => k b (List.mem_cons_of_mem _ (hf b hb))) p) h
    rcases h with ⟨vs, ds, h1, h2, h3⟩ | ⟨kvs, ds, h1, h2, h3⟩ | ⟨kvs, ds, h1, h2, h4, h3⟩
    · exact .inl ⟨vs, ds, by rw [ka]; exact h1, h2, go h3⟩
    · exact .inr (.inl ⟨kvs, ds, by rw [ka]; exact h1, h2, go h3⟩)
    · exact .inr (.inr ⟨kvs, ds, by rw [ka]; exact h1, h2, fun p hp => (h4 p hp).elim fun b hb => ⟨b, e.at hb rfl⟩, go h3⟩)

theorem OwnL.repL {F G : Hp} {P : V → D → List Addr → Prop} : ∀ {vs : List V} {ds : List D} {fp : List Addr}, (∀ v d f, (∀ a ∈ f, a ∈ fp) → P v d f → Rep C G v d) → OwnL P vs ds fp → RepL C G vs ds
  | [], [], _, _, _ => .nil
  | v :: vs, d :: ds, fp, k, h => by
    obtain ⟨f1, f2, rfl, p, r⟩ := h
    exact .cons (k _ _ _ (fun a ha => List.mem_append_left _ ha) p) (OwnL.repL (F := F) (fun v d f hf => k v d f fun a ha => List.mem_append_right _ (hf a ha)) r)
  | [], _ :: _, _, _, h => h.elim
  | _ :: _, [], _, _, h => h.elim
theorem OwnL.length {P : V → D → List Addr → Prop} : ∀ {vs : List V} {ds : List D} {fp : List Addr}, OwnL P vs ds fp → vs.length = ds.length
  | [], [], _, _ => rfl
  | v :: vs, d :: ds, fp, h => by
    obtain ⟨f1, f2, rfl, p, r⟩ := h
    simp [OwnL.length r]
  | [], _ :: _, _, h => h.elim
  | _ :: _, [], _, h => h.elim

/-- seen as frozen in a heap that has the cells -/
theorem Own.rep {F H G : Hp} (e : Ext F G) : ∀ {o : O} {v : V} {d : D} {fp : List Addr}, (∀ a ∈ fp, G a = H a) → Own C F H o v d fp → Rep C G v d
  | .z, _, _, _, _, h => h.1.mono e
  | .i, _, _, _, k, ⟨a, c, Ca, dx, fs, ds, e1, e2, e3, e4, e5, e6⟩ => by
    subst e1 e5
    exact .ins (by rw [k a (by rw [e2]; simp)]; exact e3) e4 (e6.mono e)
  | .k j o, _, _, _, k, ⟨b, ws, ds, d0, fa, e1, p, e2, e3, e4⟩ => by
    subst e4
    exact setJ_rep (Own.rep e (fun a ha => k a (List.mem_append_left _ ha)) p) e1 (.lst (.inl (by rw [k b (by simp)]; exact e2)) (e3.mono e))
  | .c o, _, _, _, k, ⟨a, fps, e1, e2, h⟩ => by
    subst e1 e2
    have ka := k a (by simp)
    have go : ∀ {vs : List V} {ds : List D}, OwnL (Own C F H o) vs ds fps → RepL C G vs ds := fun h =>
      OwnL.repL (F := F) (fun v d f hf p => Own.rep (o := o) e (fun b hb => k b (List.mem_cons_of_mem _ (hf b hb))) p) h
    rcases h with ⟨vs, ds, h1, h2, h3⟩ | ⟨kvs, ds, h1, h2, h3⟩ | ⟨kvs, ds, h1, h2, h4, h3⟩
    · subst h2
      exact .lst (.inl (by rw [ka]; exact h1)) (go h3)
    · subst h2
      exact .dK (.inl (by rw [ka]; exact h1)) (go h3)
    · subst h2
      exact .dT (.inl (by rw [ka]; exact h1)) (go h3)

theorem OwnL.live {P : V → D → List Addr → Prop} {H : Hp} : ∀ {vs : List V} {ds : List D} {fp : List Addr}, (∀ v d f, P v d f → ∀ a ∈ f, ∃ o, H a = some o) → OwnL P vs ds fp → ∀ a ∈ fp, ∃ o, H a = some o
  | [], [], _, _, h, a, ha => by rw [show _ = [] from h] at ha; simp at ha
  | v :: vs, d :: ds, fp, k, h, a, ha => by
    obtain ⟨f1, f2, rfl, p, r⟩ := h
    rcases List.mem_append.mp ha with ha | ha
    · exact k _ _ _ p a ha
    · exact OwnL.live k r a ha
  | [], _ :: _, _, _, h, _, _ => h.elim
  | _ :: _, [], _, _, h, _, _ => h.elim
theorem Own.live {F H : Hp} : ∀ {o : O} {v : V} {d : D} {fp : List Addr}, Own C F H o v d fp → ∀ a ∈ fp, ∃ o, H a = some o
  | .z, _, _, _, h, a, ha => by rw [h.2] at ha; simp at ha
  | .i, _, _, _, ⟨a, c, Ca, dx, fs, ds, e1, e2, e3, e4, e5, e6⟩, b, hb => by
    rw [e2] at hb
    have : b = a := by simpa using hb
    rw [this]; exact ⟨_, e3⟩
  | .k j o, _, _, _, ⟨b, ws, ds, d0, fa, e1, p, e2, e3, e4⟩, a, ha => by
    subst e4
    rcases List.mem_append.mp ha with ha | ha
    · exact Own.live p a ha
    · have : a = b := by simpa using ha
      rw [this]; exact ⟨_, e2⟩
  | .c o, _, _, _, ⟨a, fps, e1, e2, h⟩, b, hb => by
    rw [e2] at hb
    rcases List.mem_cons.mp hb with rfl | hb
    · rcases h with ⟨vs, ds, h1, _⟩ | ⟨kvs, ds, h1, _⟩ | ⟨kvs, ds, h1, _⟩
      · exact ⟨_, h1⟩
      · exact ⟨_, h1⟩
      · exact ⟨_, h1⟩
    · rcases h with ⟨vs, ds, _, _, h3⟩ | ⟨kvs, ds, _, _, h3⟩ | ⟨kvs, ds, _, _, _, h3⟩
      · exact OwnL.live (fun v d f p => Own.live (o := o) p) h3 b hb
      · exact OwnL.live (fun v d f p => Own.live (o := o) p) h3 b hb
      · exact OwnL.live (fun v d f p => Own.live (o := o) p) h3 b hb

theorem OwnL.noT {P : V → D → List Addr → Prop} {H : Hp} : ∀ {vs : List V} {ds : List D} {fp : List Addr}, (∀ v d f, P v d f → ∀ a ∈ f, ∀ xs, H a ≠ some (.tup xs)) → OwnL P vs ds fp → ∀ a ∈ fp, ∀ xs, H a ≠ some (.tup xs)
  | [], [], _, _, h, a, ha => by rw [show _ = [] from h] at ha; simp at ha
  | v :: vs, d :: ds, fp, k, h, a, ha => by
    obtain ⟨f1, f2, rfl, p, r⟩ := h
    rcases List.mem_append.mp ha with ha | ha
    · exact k _ _ _ p a ha
    · exact OwnL.noT k r a ha
  | [], _ :: _, _, _, h, _, _ => h.elim
  | _ :: _, [], _, _, h, _, _ => h.elim
/-- what is owned is no tuple -/
theorem Own.noT {F H : Hp} : ∀ {o : O} {v : V} {d : D} {fp : List Addr}, Own C F H o v d fp → ∀ a ∈ fp, ∀ xs, H a ≠ some (.tup xs)
  | .z, _, _, _, h, a, ha => by rw [h.2] at ha; simp at ha
  | .i, _, _, _, ⟨a, c, Ca, dx, fs, ds, e1, e2, e3, e4, e5, e6⟩, b, hb => by
    rw [e2] at hb
    have : b = a := by simpa using hb
    rw [this, e3]; simp
  | .k j o, _, _, _, ⟨b, ws, ds, d0, fa, e1, p, e2, e3, e4⟩, a, ha => by
    subst e4
    rcases List.mem_append.mp ha with ha | ha
    · exact Own.noT p a ha
    · have : a = b := by simpa using ha
      rw [this, e2]; simp
  | .c o, _, _, _, ⟨a, fps, e1, e2, h⟩, b, hb => by
    rw [e2] at hb
    rcases List.mem_cons.mp hb with rfl | hb
    · rcases h with ⟨vs, ds, h1, _⟩ | ⟨kvs, ds, h1, _⟩ | ⟨kvs, ds, h1, _⟩ <;> rw [h1] <;> simp
    · rcases h with ⟨vs, ds, _, _, h3⟩ | ⟨kvs, ds, _, _, h3⟩ | ⟨kvs, ds, _, _, _, h3⟩
      · exact OwnL.noT (fun v d f p => Own.noT (o := o) p) h3 b hb
      · exact OwnL.noT (fun v d f p => Own.noT (o := o) p) h3 b hb
      · exact OwnL.noT (fun v d f p => Own.noT (o := o) p) h3 b hb

/-! ### the state: frozen F, the others' cells P, the locked things Lk, the cells at hand -/
abbrev Cell := O × V × D
def Owns (C : Cfg) (F H : Hp) : List Cell → List Addr → Prop
  | [], fp => fp = []
  | x :: xs, fp => ∃ f1 f2, fp = f1 ++ f2 ∧ Own C F H x.1 x.2.1 x.2.2 f1 ∧ Owns C F H xs f2
abbrev Lock := Addr → Option Obj
def lk (L : Lock) (a : Addr) (o : HO) : HO := match L a with
  | none => o
  | some ob => .frz ob o
structure Stt (C : Cfg) (F P : Hp) (Lk : Lock) (L : List Cell) (H : Hp) : Prop where
  le : ∀ a o, F a = some o → H a = some (lk Lk a o)
  pe : Sub P H
  dj : ∀ a o, P a = some o → F a = none
  ld : (∀ a, Lk a = none) ∧ ∀ a xs, P a ≠ some (.tup xs)
  ow : ∃ fp, Owns C F H L fp ∧ fp.Nodup ∧ ∀ a ∈ fp, F a = none ∧ P a = none

theorem Owns.keep {F F' H H' : Hp} (e : Ext F F') : ∀ {L : List Cell} {fp : List Addr}, (∀ a ∈ fp, H' a = H a) → Owns C F H L fp → Owns C F' H' L fp
  | [], _, _, h => h
  | x :: xs, _, k, ⟨f1, f2, e1, p, r⟩ => by
    subst e1
    exact ⟨f1, f2, rfl, p.keep e fun a ha => k a (List.mem_append_left _ ha), Owns.keep e (fun a ha => k a (List.mem_append_right _ ha)) r⟩
theorem Owns.live {F H : Hp} : ∀ {L : List Cell} {fp : List Addr}, Owns C F H L fp → ∀ a ∈ fp, ∃ o, H a = some o
  | [], _, h, a, ha => by rw [show _ = [] from h] at ha; simp at ha
  | x :: xs, _, ⟨f1, f2, e1, p, r⟩, a, ha => by
    subst e1
    rcases List.mem_append.mp ha with ha | ha
    · exact p.live a ha
    · exact Owns.live r a ha
theorem Owns.noT {F H : Hp} : ∀ {L : List Cell} {fp : List Addr}, Owns C F H L fp → ∀ a ∈ fp, ∀ xs, H a ≠ some (.tup xs)
  | [], _, h, a, ha => by rw [show _ = [] from h] at ha; simp at ha
  | x :: xs, _, ⟨f1, f2, e1, p, r⟩, a, ha => by
    subst e1
    rcases List.mem_append.mp ha with ha | ha
    · exact p.noT a ha
    · exact Owns.noT r a ha
theorem Owns.append {F H : Hp} : ∀ {L M : List Cell} {f g : List Addr}, Owns C F H L f → Owns C F H M g → Owns C F H (L ++ M) (f ++ g)
  | [], _, f, g, h, k => by rw [show f = [] from h]; exact k
  | x :: xs, _, _, g, ⟨f1, f2, e1, p, r⟩, k => by
    subst e1
    exact ⟨f1, f2 ++ g, by rw [List.append_assoc], p, Owns.append r k⟩
theorem Owns.split {F H : Hp} : ∀ {L M : List Cell} {f : List Addr}, Owns C F H (L ++ M) f → ∃ f1 f2, f = f1 ++ f2 ∧ Owns C F H L f1 ∧ Owns C F H M f2
  | [], _, f, h => ⟨[], f, rfl, rfl, h⟩
  | x :: xs, _, _, ⟨f1, f2, e1, p, r⟩ => by
    obtain ⟨g1, g2, rfl, a, b⟩ := Owns.split r
    subst e1
    exact ⟨f1 ++ g1, g2, by rw [List.append_assoc], ⟨f1, g1, rfl, p, a⟩, b⟩
theorem Owns.perm {F H : Hp} {L M : List Cell} (p : L.Perm M) : ∀ {f : List Addr}, Owns C F H L f → ∃ g, Owns C F H M g ∧ f.Perm g := by
  induction p with
  | nil => intro f h; exact ⟨f, h, .refl _⟩
  | cons x _ ih =>
    rintro f ⟨f1, f2, rfl, p, r⟩
    obtain ⟨g, hg, pg⟩ := ih r
    exact ⟨f1 ++ g, ⟨f1, g, rfl, p, hg⟩, pg.append_left f1⟩
  | swap x y l =>
    rintro f ⟨f1, f2, rfl, p, ⟨g1, g2, rfl, q, r⟩⟩
    refine ⟨g1 ++ (f1 ++ g2), ⟨g1, f1 ++ g2, rfl, q, ⟨f1, g2, rfl, p, r⟩⟩, ?_⟩
    rw [← List.append_assoc, ← List.append_assoc]
    exact List.perm_append_comm.append_right g2
  | trans _ _ ih1 ih2 =>
    intro f h
    obtain ⟨g, hg, pg⟩ := ih1 h
    obtain ⟨k, hk, pk⟩ := ih2 hg
    exact ⟨k, hk, pg.trans pk⟩

section
variable {F F' P H H' : Hp} {Lk : Lock} {L M : List Cell}
theorem Stt.lf (h : Stt C F P Lk L H) (a : Addr) (e : Lk a ≠ none) : F a ≠ none := absurd (h.ld.1 a) e
theorem Stt.at (h : Stt C F P Lk L H) {a : Addr} {o : HO} (e : F a = some o) : H a = some o := by
  have z := h.le a o e
  unfold lk at z
  rw [h.ld.1 a] at z
  exact z
theorem Stt.perm (h : Stt C F P Lk L H) (p : L.Perm M) : Stt C F P Lk M H := by
  obtain ⟨fp, o, n, d⟩ := h.ow
  obtain ⟨g, og, pg⟩ := o.perm p
  exact ⟨h.le, h.pe, h.dj, h.ld, g, og, pg.nodup_iff.mp n, fun a ha => d a (pg.mem_iff.mpr ha)⟩
theorem Stt.tail {x : Cell} (h : Stt C F P Lk (x :: L) H) : Stt C F P Lk L H := by
  obtain ⟨fp, ⟨f1, f2, rfl, p, r⟩, n, d⟩ := h.ow
  exact ⟨h.le, h.pe, h.dj, h.ld, f2, r, (List.nodup_append.mp n).2.1, fun a ha => d a (List.mem_append_right _ ha)⟩
theorem Stt.drop (h : Stt C F P Lk (M ++ L) H) : Stt C F P Lk L H := by
  induction M with
  | nil => exact h
  | cons x xs ih => exact ih h.tail
theorem Stt.zcons {v : V} {d : D} (r : Rep C F v d) (h : Stt C F P Lk L H) : Stt C F P Lk ((.z, v, d) :: L) H := by
  obtain ⟨fp, o, n, q⟩ := h.ow
  exact ⟨h.le, h.pe, h.dj, h.ld, fp, ⟨[], fp, rfl, ⟨r, rfl⟩, o⟩, n, q⟩
theorem Stt.rep {v : V} {d : D} (h : Stt C F P Lk ((.z, v, d) :: L) H) : Rep C F v d := by
  obtain ⟨fp, ⟨f1, f2, rfl, p, r⟩, n, q⟩ := h.ow
  exact p.1
/-- restricted to some addresses -/
def only (H : Hp) (l : List Addr) : Hp := fun a => if a ∈ l then H a else none
/-- two heaps, the first one ahead -/
def join (F G : Hp) : Hp := fun a => (F a).or (G a)
theorem only_in {l : List Addr} {a : Addr} (h : a ∈ l) : only H l a = H a := by simp [only, h]
theorem only_out {l : List Addr} {a : Addr} (h : a ∉ l) : only H l a = none := by simp [only, h]
theorem join_l {F G : Hp} {a : Addr} {o : HO} (h : F a = some o) : join F G a = some o := by simp [join, h]
theorem join_r {F G : Hp} {a : Addr} (h : F a = none) : join F G a = G a := by simp [join, h]
theorem join_sub {F G : Hp} : Sub F (join F G) := fun a o h => join_l h
theorem join_ext {F G : Hp} : Ext F (join F G) := join_sub.ext

/-- the cells of M become frozen -/
theorem Stt.freeze (h : Stt C F P Lk (M ++ L) H) : ∃ F', Ext F F' ∧ (∀ x ∈ M, Rep C F' x.2.1 x.2.2) ∧ Stt C F' P Lk L H := by
  obtain ⟨fp, o, n, d⟩ := h.ow
  obtain ⟨f1, f2, rfl, o1, o2⟩ := o.split
  have n' := List.nodup_append.mp n
  refine ⟨join F (only H f1), join_ext, ?_, ?_⟩
  · have ag : ∀ a ∈ f1, join F (only H f1) a = H a := fun a ha => by
      rw [join_r (d a (List.mem_append_left _ ha)).1, only_in ha]
    clear n d n' o2 h o
    have aux : ∀ (M : List Cell) (g : List Addr), (∀ a ∈ g, join F (only H f1) a = H a) → Owns C F H M g → ∀ x ∈ M, Rep C (join F (only H f1)) x.2.1 x.2.2 := by
      intro M
      induction M with
      | nil => intro g _ _ x hx; simp at hx
      | cons y ys ih =>
        rintro g ag ⟨g1, g2, rfl, p, r⟩ x hx
        rcases List.mem_cons.mp hx with rfl | hx
        · exact p.rep join_ext fun a ha => ag a (List.mem_append_left _ ha)
        · exact ih g2 (fun a ha => ag a (List.mem_append_right _ ha)) r x hx
    exact aux M f1 ag o1
  · refine ⟨fun a ob e => ?_, h.pe, fun a ob e => ?_, h.ld, f2, ?_, n'.2.1, fun a ha => ⟨?_, (d a (List.mem_append_right _ ha)).2⟩⟩
    · by_cases hf : F a = none
      · rw [join_r hf] at e
        by_cases ha : a ∈ f1
        · rw [only_in ha] at e
          have hl : Lk a = none := by
            cases q : Lk a with
            | none => rfl
            | some z => exact absurd hf (h.lf a (by rw [q]; simp))
          rw [e]; unfold lk; rw [hl]
        · rw [only_out ha] at e; cases e
      · obtain ⟨o', ho⟩ := Option.ne_none_iff_exists'.mp hf
        rw [join_l ho] at e
        cases e
        exact h.le a _ ho
    · have hf := h.dj a ob e
      rw [join_r hf]
      by_cases ha : a ∈ f1
      · have z := (d a (List.mem_append_left _ ha)).2
        rw [e] at z; cases z
      · exact only_out ha
    · exact o2.keep join_ext fun _ _ => rfl
    · rw [join_r (d a (List.mem_append_right _ ha)).1]
      exact only_out fun z => n'.2.2 a z a ha rfl

/-- the cells of M are parked among the others' -/
theorem Stt.park (h : Stt C F P Lk (M ++ L) H) : ∃ P', Stt C F P' Lk L H ∧ Sub P P' ∧ ∀ (F2 H2 : Hp) (Lk2 : Lock) (L2 : List Cell), Ext F F2 → Stt C F2 P' Lk2 L2 H2 → Stt C F2 P Lk2 (M ++ L2) H2 := by
  obtain ⟨fp, o, n, d⟩ := h.ow
  obtain ⟨f1, f2, rfl, o1, o2⟩ := o.split
  have n' := List.nodup_append.mp n
  have live := o1.live
  refine ⟨join P (only H f1), ⟨h.le, fun a ob e => ?_, fun a ob e => ?_, ⟨h.ld.1, fun a xs e => ?_⟩, f2, o2, n'.2.1, fun a ha => ⟨(d a (List.mem_append_right _ ha)).1, ?_⟩⟩, join_sub, fun F2 H2 Lk2 L2 e2 h2 => ?_⟩
  · by_cases hp : P a = none
    · rw [join_r hp] at e
      by_cases ha : a ∈ f1
      · rw [only_in ha] at e; exact e
      · rw [only_out ha] at e; cases e
    · obtain ⟨o', ho⟩ := Option.ne_none_iff_exists'.mp hp
      rw [join_l ho] at e; cases e
      exact h.pe a _ ho
  · by_cases hp : P a = none
    · rw [join_r hp] at e
      by_cases ha : a ∈ f1
      · exact (d a (List.mem_append_left _ ha)).1
      · rw [only_out ha] at e; cases e
    · obtain ⟨o', ho⟩ := Option.ne_none_iff_exists'.mp hp
      exact h.dj a _ ho
  · by_cases hp : P a = none
    · rw [join_r hp] at e
      by_cases ha : a ∈ f1
      · rw [only_in ha] at e; exact o1.noT a ha xs e
      · rw [only_out ha] at e; cases e
    · obtain ⟨o', ho⟩ := Option.ne_none_iff_exists'.mp hp
      rw [join_l ho] at e
      cases e
      exact h.ld.2 a xs ho
  · rw [join_r (d a (List.mem_append_right _ ha)).2]
    exact only_out fun z => n'.2.2 a z a ha rfl
  · obtain ⟨g, og, ng, dg⟩ := h2.ow
    have pin : ∀ a ∈ f1, join P (only H f1) a = H a := fun a ha => by
      rw [join_r (d a (List.mem_append_left _ ha)).2, only_in ha]
    have eqH : ∀ a ∈ f1, H2 a = H a := fun a ha => by
      obtain ⟨ob, hb⟩ := live a ha
      rw [hb]
      exact h2.pe a ob (by rw [pin a ha]; exact hb)
    refine ⟨h2.le, fun a ob e => h2.pe a ob (join_l e), fun a ob e => h2.dj a ob (join_l e), ⟨h2.ld.1, fun a xs e => h2.ld.2 a xs (join_l e)⟩, f1 ++ g, (o1.keep e2 eqH).append og, ?_, fun a ha => ?_⟩
    · refine List.nodup_append.mpr ⟨n'.1, ng, fun a ha b hb e => ?_⟩
      subst e
      obtain ⟨ob, hob⟩ := live a ha
      have z := (dg a hb).2
      rw [pin a ha, hob] at z; cases z
    · rcases List.mem_append.mp ha with ha | ha
      · obtain ⟨ob, hob⟩ := live a ha
        exact ⟨h2.dj a ob (by rw [pin a ha]; exact hob), (d a (List.mem_append_left _ ha)).2⟩
      · refine ⟨(dg a ha).1, ?_⟩
        cases q : P a with
        | none => rfl
        | some ob =>
          have z := (dg a ha).2
          rw [join_l q] at z; cases z

/-- a new object of frozen things, frozen itself -/
theorem Stt.newZ {p : Addr} {o : HO} (h : Stt C F P Lk L H) (hp : H p = none) : Ext F (upd F p o) ∧ Stt C (upd F p o) P Lk L (upd H p o) := by
  have fp : F p = none := by
    cases q : F p with
    | none => rfl
    | some ob => have := h.le p ob q; rw [hp] at this; cases this
  have pp : P p = none := by
    cases q : P p with
    | none => rfl
    | some ob => have := h.pe p ob q; rw [hp] at this; cases this
  refine ⟨Ext.new fp, ?_⟩
  obtain ⟨g, og, ng, dg⟩ := h.ow
  have ne : ∀ a ∈ g, a ≠ p := fun a ha e => by
    obtain ⟨ob, hb⟩ := og.live a ha
    rw [e, hp] at hb; cases hb
  refine ⟨fun a ob e => ?_, fun a ob e => ?_, fun a ob e => ?_, h.ld, g, og.keep (Ext.new fp) (fun a ha => upd_ne (ne a ha)), ng, fun a ha => ⟨by rw [upd_ne (ne a ha)]; exact (dg a ha).1, (dg a ha).2⟩⟩
  · by_cases ha : a = p
    · subst ha
      rw [upd_same] at e; cases e
      have hl : Lk a = none := by
        cases q : Lk a with
        | none => rfl
        | some z => exact absurd fp (h.lf a (by rw [q]; simp))
      rw [upd_same]; unfold lk; rw [hl]
    · rw [upd_ne ha] at e ⊢
      exact h.le a ob e
  · rw [upd_ne (fun z => by rw [z, pp] at e; cases e)]
    exact h.pe a ob e
  · have : a ≠ p := fun z => by rw [z, pp] at e; cases e
    rw [upd_ne this]; exact h.dj a ob e
theorem Stt.plain {a : Addr} {o : HO} (h : Stt C F P Lk L H) (e : F a = some o) (n1 : ∀ k, o ≠ .dK k) (n2 : ∀ k, o ≠ .dT k) : H a = some o := h.at e
theorem Stt.sqL {a : Addr} {vs : List V} (h : Stt C F P Lk L H) (q : SqL C.K F a vs) : SqL C.K H a vs := by
  rcases q with (q | ⟨o, q⟩) | q
  · exact .inl (.inl (h.at q))
  · exact .inl (.inr ⟨o, h.at q⟩)
  · exact .inr q
theorem Stt.sqT {a : Addr} {vs : List V} (h : Stt C F P Lk L H) (q : SqT C.K F a vs) : SqT C.K H a vs := by
  rcases q with (q | ⟨o, q⟩) | q
  · exact .inl (.inl (h.plain q (fun _ z => nomatch z) fun _ z => nomatch z))
  · exact .inl (.inr ⟨o, h.plain q (fun _ z => nomatch z) fun _ z => nomatch z⟩)
  · exact .inr q
theorem Stt.tup {a : Addr} {vs : List V} (h : Stt C F P Lk L H) (q : F a = some (.tup vs)) : H a = some (.tup vs) := h.plain q (fun _ z => nomatch z) fun _ z => nomatch z
theorem sqT_k {a : Addr} {vs : List V} (h : SqT C.K (fun _ => none) a vs) : SqT C.K H a vs := by
  rcases h with (h | ⟨o, h⟩) | h
  · cases h
  · cases h
  · exact .inr h
theorem sqL_k {a : Addr} {vs : List V} (h : SqL C.K (fun _ => none) a vs) : SqL C.K H a vs := by
  rcases h with (h | ⟨o, h⟩) | h
  · cases h
  · cases h
  · exact .inr h
theorem Stt.rdL {a : Addr} {vs : List V} (h : Stt C F P Lk L H) (q : Rd F a (.lst vs)) : Rd H a (.lst vs) := by
  rcases q with q | ⟨o, q⟩
  · exact .inl (h.plain q (fun _ z => nomatch z) fun _ z => nomatch z)
  · exact .inr ⟨o, h.plain q (fun _ z => nomatch z) fun _ z => nomatch z⟩
theorem Stt.rd {a : Addr} {o : HO} (h : Stt C F P Lk L H) (e : F a = some o) : Rd H a o := .inl (h.at e)
theorem Stt.rdR {a : Addr} {o : HO} (h : Stt C F P Lk L H) (e : Rd F a o) : Rd H a o := by
  rcases e with e | ⟨u, e⟩
  · exact .inl (h.at e)
  · exact .inr ⟨u, h.at e⟩
theorem Stt.mem {x : Cell} (h : Stt C F P Lk L H) (m : x ∈ L) : ∃ fp, Own C F H x.1 x.2.1 x.2.2 fp := by
  obtain ⟨fp, o, n, d⟩ := h.ow
  clear n d
  induction L generalizing fp with
  | nil => simp at m
  | cons y ys ih =>
    obtain ⟨f1, f2, e, p, r⟩ := o
    rcases List.mem_cons.mp m with rfl | m
    · exact ⟨f1, p⟩
    · exact ih h.tail m f2 r
theorem Stt.rep_mem {v : V} {d : D} (h : Stt C F P Lk L H) (m : (O.z, v, d) ∈ L) : Rep C F v d := by
  obtain ⟨fp, q⟩ := h.mem m
  exact q.1
/-- a tuple of the heap is taken among the frozen things -/
theorem Stt.adopt {q : Addr} {xs : List V} (h : Stt C F P Lk L H) (e : H q = some (.tup xs)) : ∃ F', Ext F F' ∧ F' q = some (.tup xs) ∧ Stt C F' P Lk L H := by
  by_cases hf : F q = none
  · have hp : P q = none := by
      cases z : P q with
      | none => rfl
      | some o =>
        have y := h.pe q o z
        rw [e] at y
        cases y
        exact absurd z (h.ld.2 q xs)
    obtain ⟨g, og, ng, dg⟩ := h.ow
    have ne : ∀ a ∈ g, a ≠ q := fun a ha z => by
      subst z
      exact og.noT a ha xs e
    have ex : Ext F (upd F q (.tup xs)) := Ext.new hf
    refine ⟨_, ex, upd_same, fun a o z => ?_, h.pe, fun a o z => ?_, h.ld, g, og.keep ex fun _ _ => rfl, ng, fun a ha => ⟨?_, (dg a ha).2⟩⟩
    · by_cases y : a = q
      · subst y
        rw [upd_same] at z
        cases z
        unfold lk
        rw [h.ld.1 a]
        exact e
      · rw [upd_ne y] at z
        exact h.le a o z
    · have y : a ≠ q := fun y => by rw [y, hp] at z; cases z
      rw [upd_ne y]
      exact h.dj a o z
    · rw [upd_ne (ne a ha)]
      exact (dg a ha).1
  · obtain ⟨o, ho⟩ := Option.ne_none_iff_exists'.mp hf
    have y := h.at ho
    rw [e] at y
    cases y
    exact ⟨F, Ext.refl F, ho, h⟩
/-- a frozen dict is locked -/
theorem Stt.lockZ {q : Addr} {u : HO} (h : Stt C F P Lk L H) (e : F q = some u) (d : isDc u = true) (od : Obj) : Ext F (upd F q (.frz od u)) ∧ Stt C (upd F q (.frz od u)) P Lk L (upd H q (.frz od u)) := by
  have ex : Ext F (upd F q (.frz od u)) := fun a o z => by
    by_cases y : a = q
    · subst y
      rw [e] at z
      cases z
      exact .inr ⟨d, od, upd_same⟩
    · rw [upd_ne y]; exact .inl z
  refine ⟨ex, ?_⟩
  obtain ⟨g, og, ng, dg⟩ := h.ow
  have ne : ∀ a ∈ g, a ≠ q := fun a ha z => by
    subst z
    rw [(dg a ha).1] at e
    cases e
  have hp : P q = none := by
    cases z : P q with
    | none => rfl
    | some o => rw [h.dj q o z] at e; cases e
  refine ⟨fun a o z => ?_, fun a o z => ?_, fun a o z => ?_, h.ld, g, og.keep ex fun a ha => upd_ne (ne a ha), ng, fun a ha => ⟨?_, (dg a ha).2⟩⟩
  · by_cases y : a = q
    · subst y
      rw [upd_same] at z
      cases z
      unfold lk
      rw [h.ld.1 a]
      exact upd_same
    · rw [upd_ne y] at z ⊢
      exact h.le a o z
  · have y : a ≠ q := fun y => by rw [y, hp] at z; cases z
    rw [upd_ne y]
    exact h.pe a o z
  · have y : a ≠ q := fun y => by rw [y, hp] at z; cases z
    rw [upd_ne y]
    exact h.dj a o z
  · rw [upd_ne (ne a ha)]
    exact (dg a ha).1
/-- the heap grows by something that is not spoken of -/
theorem Stt.grow (h : Stt C F P Lk L H) (e : Sub H H') : Stt C F P Lk L H' := by
  obtain ⟨g, og, ng, dg⟩ := h.ow
  refine ⟨fun a o q => e _ _ (h.le a o q), h.pe.trans e, h.dj, h.ld, g, og.keep (Ext.refl _) (fun a ha => ?_), ng, dg⟩
  obtain ⟨ob, hb⟩ := og.live a ha
  rw [hb]; exact e _ _ hb
end
end DL
set_option Elab.async false
set_option linter.all false
set_option autoImplicit false
set_option maxHeartbeats 1000000
/-! the data layer, part 1: what a piece of code computes; expressions -/
namespace DL
open PySem PySem.Spec PyProof.Rows L2

abbrev Env := List (Option D)
/-- what a piece computes: a value and the slots behind it; an own exception; or nothing is said -/
inductive Res (α : Type) where
  | ok (a : α) (r : DL.Env)
  | exc (c : Str) (fs : List (Str × D))
  | stk
def Res.bind {α β : Type} (x : Res α) (k : α → DL.Env → Res β) : Res β := match x with
  | .ok a r => k a r
  | .exc c fs => .exc c fs
  | .stk => .stk
abbrev SE := DL.Env → Res D
abbrev ST := DL.Env → Res Bool
abbrev SA := DL.Env → Res (List D)

inductive EnvR : List O → DL.Env → L2.St → List Cell → Prop
  | nil : EnvR [] [] [] []
  | skip {o s G r t L} : EnvR G r t L → EnvR (o :: G) (none :: r) (s :: t) L
  | have {o v d G r t L} : EnvR G r t L → EnvR (o :: G) (some d :: r) (some v :: t) ((o, v, d) :: L)
def EnvX (C : Cfg) (T : List Cell) (F P : Hp) (Lk : Lock) (G : List O) (r : DL.Env) (σ : L2.St) (H : Hp) : Prop :=
  ∃ L, EnvR G r σ L ∧ Stt C F P Lk (T ++ L) H

/-- how an own exception stands: its class, its own dict -/
def ExcO (C : Cfg) (F H : Hp) (c : Str) (fs : List (Str × D)) (cls : Value) (dct : Option Addr) : Prop :=
  ∃ Ca, C.cl c = some Ca ∧ cls = .ref Ca ∧ ((fs = [] ∧ dct = none) ∨ ∃ a vs, dct = some a ∧ H a = some (.xd vs) ∧ vs.map (·.1) = fs.map (·.1) ∧ RepL C F (vs.map (·.2)) (fs.map (·.2)))

variable {C : Cfg}
/-- what a result asks of what follows -/
def RD (C : Cfg) (W : WX) (F P : Hp) (Lk : Lock) (σ : L2.St) {α : Type} (x : Res α) (post : α → DL.Env → Prop) : Prop := match x with
  | .ok a r => post a r
  | .exc c fs => ∀ cls dct F' H', Ext F F' → Stt C F' P Lk [] H' → ExcO C F' H' c fs cls dct → W cls dct σ H'
  | .stk => False
section
variable {W : WX} {F F' P P' H : Hp} {Lk : Lock} {σ : L2.St} {α β : Type}
theorem RD.bind {x : Res α} {k : α → DL.Env → Res β} {post : β → DL.Env → Prop} (h : RD C W F P Lk σ (x.bind k) post) : RD C W F P Lk σ x fun a r => RD C W F P Lk σ (k a r) post := by
  cases x with
  | ok a r => exact h
  | exc c fs => exact h
  | stk => exact h
theorem RD.mono {x : Res α} {p q : α → DL.Env → Prop} (h : RD C W F P Lk σ x p) (k : ∀ a r, p a r → q a r) : RD C W F P Lk σ x q := by
  cases x with
  | ok a r => exact k _ _ h
  | exc c fs => exact h
  | stk => exact h
theorem Stt.subP {L : List Cell} (h : Stt C F P' Lk L H) (e : Sub P P') : Stt C F P Lk L H := by
  obtain ⟨g, og, ng, dg⟩ := h.ow
  refine ⟨h.le, e.trans h.pe, fun a o q => h.dj a o (e _ _ q), ⟨h.ld.1, fun a xs q => h.ld.2 a xs (e _ _ q)⟩, g, og, ng, fun a ha => ⟨(dg a ha).1, ?_⟩⟩
  cases q : P a with
  | none => rfl
  | some o => have := (dg a ha).2; rw [e _ _ q] at this; cases this
theorem RD.ext {x : Res α} {p : α → DL.Env → Prop} (e : Ext F F') (eP : Sub P P') (h : RD C W F P Lk σ x p) : RD C W F' P' Lk σ x p := by
  cases x with
  | ok a r => exact h
  | exc c fs => exact fun cls dct G H' g s x => h cls dct G H' (e.trans g) (s.subP eP) x
  | stk => exact h
theorem RD.no {x : Res α} {p : α → DL.Env → Prop} (h : RD C (fun _ _ _ _ => False) F P Lk σ x p) (nx : ∀ c fs, x ≠ .exc c fs) : ∃ a r, x = .ok a r ∧ p a r := by
  cases x with
  | ok a r => exact ⟨a, r, rfl, h⟩
  | exc c fs => exact absurd rfl (nx c fs)
  | stk => exact h.elim
end

/-- the reading of an expression that computes f; its value owned as o -/
def tD (C : Cfg) (W : WX) (G : List O) (f : SE) (o : O) : TE := fun σ H Q => ∃ F P Lk r, EnvX C [] F P Lk G r σ H ∧
  RD C W F P Lk σ (f r) fun d r' => ∀ v F' H', Ext F F' → EnvX C [(o, v, d)] F' P Lk G r' σ H' → Q v H'
def tDT (C : Cfg) (W : WX) (G : List O) (f : ST) : TT := fun σ H Q => ∃ F P Lk r, EnvX C [] F P Lk G r σ H ∧
  RD C W F P Lk σ (f r) fun b r' => ∀ F' H', Ext F F' → EnvX C [] F' P Lk G r' σ H' → Q b H'
/-- several frozen values -/
def tDA (C : Cfg) (W : WX) (G : List O) (f : SA) : TA := fun σ H Q => ∃ F P Lk r, EnvX C [] F P Lk G r σ H ∧
  RD C W F P Lk σ (f r) fun ds r' => ∀ vs F' H', Ext F F' → RepL C F' vs ds → EnvX C [] F' P Lk G r' σ H' → Q vs H'

section
variable {X : Cx} {W : WX} {G : List O} {e a b : Expr} {es : List Expr} {pos : Pos} {F F' P H : Hp} {Lk : Lock} {r : DL.Env} {σ : L2.St}
theorem PE_weak {t t' : TE} (h : PE X e t) (k : ∀ σ H Q, t' σ H Q → t σ H Q) : PE X e t' := ⟨fun pins s σ H Q I h' => h.run pins s σ H Q I (k _ _ _ h')⟩
theorem PT_weak {t t' : TT} (h : PT X e t) (k : ∀ σ H Q, t' σ H Q → t σ H Q) : PT X e t' := ⟨fun pins s σ H Q I h' => h.run pins s σ H Q I (k _ _ _ h')⟩
theorem PW_weak {t t' : TT} (h : PW X e t) (k : ∀ σ H Q, t' σ H Q → t σ H Q) : PW X e t' := ⟨fun wh pins s σ H Q I h' => h.run wh pins s σ H Q I (k _ _ _ h')⟩
theorem PA_weak {t t' : TA} (h : PA X es t) (k : ∀ σ H Q, t' σ H Q → t σ H Q) : PA X es t' := ⟨fun pos pins s σ H Q I h' => h.run pos pins s σ H Q I (k _ _ _ h')⟩

theorem EnvX.rep {v : V} {d : D} {T : List Cell} (h : EnvX C ((.z, v, d) :: T) F P Lk G r σ H) : Rep C F v d ∧ EnvX C T F P Lk G r σ H := by
  obtain ⟨L, e, s⟩ := h
  exact ⟨s.rep, L, e, s.tail⟩
theorem EnvX.zcons {v : V} {d : D} {T : List Cell} (q : Rep C F v d) (h : EnvX C T F P Lk G r σ H) : EnvX C ((.z, v, d) :: T) F P Lk G r σ H := by
  obtain ⟨L, e, s⟩ := h
  exact ⟨L, e, s.zcons q⟩
theorem EnvX.park {T : List Cell} (h : EnvX C T F P Lk G r σ H) : ∃ P', EnvX C [] F P' Lk G r σ H ∧ Sub P P' ∧ ∀ (F2 H2 : Hp) (Lk2 : Lock) (T2 : List Cell) (G2 : List O) (r2 : DL.Env) (σ2 : L2.St), Ext F F2 → EnvX C T2 F2 P' Lk2 G2 r2 σ2 H2 → EnvX C (T ++ T2) F2 P Lk2 G2 r2 σ2 H2 := by
  obtain ⟨L, e, s⟩ := h
  obtain ⟨P', s', ep, k⟩ := s.park
  refine ⟨P', ⟨L, e, s'⟩, ep, fun F2 H2 Lk2 T2 G2 r2 σ2 x ⟨L2, e2, s2⟩ => ⟨L2, e2, ?_⟩⟩
  rw [List.append_assoc]; exact k _ _ _ _ x s2
end
end DL
set_option Elab.async false
set_option linter.all false
set_option autoImplicit false
set_option maxHeartbeats 1000000
/-! the data layer, part 2: expressions -/
namespace DL
open PySem PySem.Spec PyProof.Rows L2

/-! ### what computes -/
def opt {α : Type} (o : Option α) (r : DL.Env) : Res α := match o with
  | some a => .ok a r
  | none => .stk
def eVar (i : Nat) : SE := fun r => match r[i]? with
  | some (some d) => .ok d r
  | _ => .stk
def eC (d : D) : SE := fun r => .ok d r
def eStk : SE := fun _ => .stk
def e1 (g : D → Option D) (f : SE) : SE := fun r => (f r).bind fun x r1 => opt (g x) r1
def e2 (g : D → D → Option D) (f h : SE) : SE := fun r => (f r).bind fun x r1 => (h r1).bind fun y r2 => opt (g x y) r2
def eIf (t : ST) (f h : SE) : SE := fun r => (t r).bind fun b r1 => if b = true then f r1 else h r1
def aNil : SA := fun r => .ok [] r
def aCons (f : SE) (k : SA) : SA := fun r => (f r).bind fun x r1 => (k r1).bind fun xs r2 => .ok (x :: xs) r2
def eA (g : List D → Option D) (k : SA) : SE := fun r => (k r).bind fun xs r1 => opt (g xs) r1
def truth : D → Option Bool
  | .non => some false
  | .bl b => some b
  | .int i => some (i != 0)
  | .str x => if x.length ≤ sizeLine then some ((x.length : Int) != 0) else none
  | .lst xs => some (!xs.isEmpty)
  | .tup xs => some (!xs.isEmpty)
  | .ktup xs => some (!xs.isEmpty)
  | .klst xs => some (!xs.isEmpty)
  | _ => none
def tE (f : SE) : ST := fun r => (f r).bind fun d r1 => opt (truth d) r1
def tAnd (t u : ST) : ST := fun r => (t r).bind fun b r1 => if b = true then u r1 else .ok false r1
def tOr (t u : ST) : ST := fun r => (t r).bind fun b r1 => if b = true then .ok true r1 else u r1
def tNot (t : ST) : ST := fun r => (t r).bind fun b r1 => .ok (!b) r1
def boolD : D → Option Bool
  | .bl b => some b
  | _ => none
/-- and, or of values that are bools -/
def eAnd (f h : SE) : SE := fun r => (f r).bind fun x r1 => match x with
  | .bl true => h r1
  | .bl false => .ok (.bl false) r1
  | _ => .stk
def eOr (f h : SE) : SE := fun r => (f r).bind fun x r1 => match x with
  | .bl false => h r1
  | .bl true => .ok (.bl true) r1
  | _ => .stk
def eNot (f : SE) : SE := fun r => (f r).bind fun x r1 => opt ((truth x).map fun b => .bl (!b)) r1

variable {C : Cfg}
section
variable {X : Cx} {W : WX} {G : List O} {e a b c : Expr} {es : List Expr} {pos : Pos} {F F' P H : Hp} {Lk : Lock} {r : DL.Env} {σ : L2.St}

theorem EnvR.get {L : List Cell} (h : EnvR G r σ L) {i : Nat} {d : D} {o : O} (e : r[i]? = some (some d)) (g : G[i]? = some o) : ∃ v, σ[i]? = some (some v) ∧ (o, v, d) ∈ L := by
  induction h generalizing i with
  | nil => simp at e
  | skip h ih =>
    cases i with
    | zero => simp at e
    | succ i =>
      obtain ⟨v, h1, h2⟩ := ih (i := i) (by simpa using e) (by simpa using g)
      exact ⟨v, by simpa using h1, h2⟩
  | «have» h ih =>
    cases i with
    | zero =>
      simp at e g
      subst e g
      exact ⟨_, rfl, List.mem_cons_self⟩
    | succ i =>
      obtain ⟨v, h1, h2⟩ := ih (i := i) (by simpa using e) (by simpa using g)
      exact ⟨v, by simpa using h1, List.mem_cons_of_mem _ h2⟩

theorem de_var {i : Nat} {x : Str} (hG : G[i]? = some .z) (hN : X.N[i]? = some x) (hv : Vis X.env.scope x) (hd : (x == ("__debug__" : Str)) = false := by decide) (hcd : (x == ("__classdict__" : Str)) = false := by decide) :
    PE X (.Name x pos) (tD C W G (eVar i) .z) := by
  refine PE_weak (pe_var hN hv hd hcd) fun σ H Q h => ?_
  obtain ⟨F, P, Lk, r, ⟨L, E, S⟩, h⟩ := h
  unfold eVar at h
  split at h
  · rename_i d hd
    obtain ⟨v, h1, h2⟩ := E.get hd hG
    exact ⟨v, h1, h v F H (Ext.refl F) ⟨L, E, S.zcons (S.rep_mem h2)⟩⟩
  · exact h.elim

theorem de_c {v : V} {d : D} (h : PE X e (tC v)) (hr : ∀ F, Rep C F v d) : PE X e (tD C W G (eC d) .z) := by
  refine PE_weak h fun σ H Q h => ?_
  obtain ⟨F, P, Lk, r, E, h⟩ := h
  exact h v F H (Ext.refl F) (E.zcons (hr F))
theorem de_int {i j} : PE X (.Constant (.int i) j pos) (tD C W G (eC (.int i)) .z) := de_c pe_int fun _ => .int _
theorem de_bl {i j} : PE X (.Constant (.bool i) j pos) (tD C W G (eC (.bl i)) .z) := de_c pe_bl fun _ => .bl _
theorem de_str {i j} : PE X (.Constant (.str i) j pos) (tD C W G (eC (.str i)) .z) := de_c pe_str fun _ => .str _
theorem de_non {j} : PE X (.Constant .none j pos) (tD C W G (eC .non) .z) := de_c pe_non fun _ => .non

/-- an expression that is never reached -/
theorem de_stk : PE X e (tD C W G eStk .z) := ⟨fun pins s σ H Q I h => by
  obtain ⟨F, P, Lk, r, E, h⟩ := h
  exact h.elim⟩

/-! ### operators, by values -/
/-- a two-place operation -/
def rO2 (C : Cfg) (g : D → D → Option D) (o : O) : R2 := fun x y H Q => ∃ F P Lk L dx dy dz, Stt C F P Lk L H ∧ Rep C F x dx ∧ Rep C F y dy ∧ g dx dy = some dz ∧
  ∀ w F' H', Ext F F' → Stt C F' P Lk ((o, w, dz) :: L) H' → Q w H'
def rO1 (C : Cfg) (g : D → Option D) (o : O) : V → Hp → VK → Prop := fun x H Q => ∃ F P Lk L dx dz, Stt C F P Lk L H ∧ Rep C F x dx ∧ g dx = some dz ∧
  ∀ w F' H', Ext F F' → Stt C F' P Lk ((o, w, dz) :: L) H' → Q w H'
def rON (C : Cfg) (g : List D → Option D) (o : O) : List V → Hp → VK → Prop := fun xs H Q => ∃ F P Lk L ds dz, Stt C F P Lk L H ∧ RepL C F xs ds ∧ g ds = some dz ∧
  ∀ w F' H', Ext F F' → Stt C F' P Lk ((o, w, dz) :: L) H' → Q w H'

theorem RD_opt {α : Type} {o : Option α} {post : α → DL.Env → Prop} (h : RD C W F P Lk σ (opt o r) post) : ∃ a, o = some a ∧ post a r := by
  cases o with
  | none => exact h.elim
  | some a => exact ⟨a, rfl, h⟩

theorem tD2 {g : D → D → Option D} {o : O} {f h : SE} {ta tb : TE} (ka : ∀ σ H Q, tD C W G f .z σ H Q → ta σ H Q) (kb : ∀ σ H Q, tD C W G h .z σ H Q → tb σ H Q) {Q : VK}
    (q : tD C W G (e2 g f h) o σ H Q) : ta σ H fun x H1 => tb σ H1 fun y H2 => rO2 C g o x y H2 Q := by
  obtain ⟨F, P, Lk, r, E, q⟩ := q
  refine ka _ _ _ ⟨F, P, Lk, r, E, (RD.bind q).mono fun dx r1 q1 x F1 H1 x1 E0 => ?_⟩
  obtain ⟨R1, E1⟩ := E0.rep
  clear E0
  refine kb _ _ _ ⟨F1, P, Lk, r1, E1, (RD.bind (q1.ext x1 (Sub.refl P))).mono fun dy r2 q2 y F2 H2 x2 E2 => ?_⟩
  obtain ⟨dz, e3, q3⟩ := RD_opt q2
  obtain ⟨R2, L, E2, S2⟩ := E2.rep
  exact ⟨F2, P, Lk, L, dx, dy, dz, S2, R1.mono x2, R2, e3, fun w F' H' x' S' => q3 w F' H' ((x1.trans x2).trans x') ⟨L, E2, S'⟩⟩
theorem de_bin {op : Operator} {g : D → D → Option D} {o : O} {f h : SE} (ho : OpR X (binaryOp op) (rO2 C g o)) (ha : PE X a (tD C W G f .z)) (hb : PE X b (tD C W G h .z)) : PE X (.BinOp a op b pos) (tD C W G (e2 g f h) o) :=
  PE_weak (pe_op ho ha hb) fun _ _ _ q => tD2 (fun _ _ _ h => h) (fun _ _ _ h => h) q
theorem de_cmp {op : CmpOp} {g : D → D → Option D} {f h : SE} (ho : OpR X (compareOp op) (rO2 C g .z)) (ha : PE X a (tD C W G f .z)) (hb : PE X b (tD C W G h .z)) (hm : behindInMarks op b = false) : PE X (.Compare a [op] [b] pos) (tD C W G (e2 g f h) .z) :=
  PE_weak (pe_cmpR ho ha hb hm) fun _ _ _ q => tD2 (fun _ _ _ h => h) (fun _ _ _ h => h) q
theorem de_un {op : UnaryOp} {g : D → Option D} {o : O} {f : SE} (ho : UnR X (unaryOp op) (rO1 C g o)) (ha : PE X a (tD C W G f .z)) : PE X (.UnaryOp op a pos) (tD C W G (e1 g f) o) := by
  refine PE_weak (pe_un ho ha) fun σ H Q q => ?_
  obtain ⟨F, P, Lk, r, E, q⟩ := q
  refine ⟨F, P, Lk, r, E, (RD.bind q).mono fun dx r1 q1 x F1 H1 x1 E1 => ?_⟩
  obtain ⟨R1, L, E1, S1⟩ := E1.rep
  obtain ⟨dz, e3, q3⟩ := RD_opt q1
  exact ⟨F1, P, Lk, L, dx, dz, S1, R1, e3, fun w F' H' x' S' => q3 w F' H' (x1.trans x') ⟨L, E1, S'⟩⟩

/-! ### arguments -/
theorem da_nil : PA X [] (tDA C W G aNil) := by
  refine PA_weak pa_nil fun σ H Q q => ?_
  obtain ⟨F, P, Lk, r, E, q⟩ := q
  exact q [] F H (Ext.refl F) .nil E
theorem da_cons {f : SE} {k : SA} (ha : PE X e (tD C W G f .z)) (hr : PA X es (tDA C W G k)) (hs : starEach (e :: es) X.env = (false, eval e X.env) :: starEach es X.env := by rfl) : PA X (e :: es) (tDA C W G (aCons f k)) := by
  refine PA_weak (pa_cons ha hr hs) fun σ H Q q => ?_
  obtain ⟨F, P, Lk, r, E, q⟩ := q
  refine ⟨F, P, Lk, r, E, (RD.bind q).mono fun dx r1 q1 x F1 H1 x1 E0 => ?_⟩
  obtain ⟨R1, E1⟩ := E0.rep
  clear E0
  refine ⟨F1, P, Lk, r1, E1, (RD.bind (q1.ext x1 (Sub.refl P))).mono fun dy r2 q2 y F2 H2 x2 R2 E2 => ?_⟩
  exact q2 _ F2 H2 (x1.trans x2) (.cons (R1.mono x2) R2) E2
theorem tDN {g : List D → Option D} {o : O} {k : SA} {t : TA} (ka : ∀ σ H Q, tDA C W G k σ H Q → t σ H Q) {Q : VK} (q : tD C W G (eA g k) o σ H Q) : t σ H fun xs H1 => rON C g o xs H1 Q := by
  obtain ⟨F, P, Lk, r, E, q⟩ := q
  refine ka _ _ _ ⟨F, P, Lk, r, E, (RD.bind q).mono fun ds r1 q1 xs F1 H1 x1 R1 E1 => ?_⟩
  obtain ⟨dz, e3, q3⟩ := RD_opt q1
  obtain ⟨L, E1, S1⟩ := E1
  exact ⟨F1, P, Lk, L, ds, dz, S1, R1, e3, fun w F' H' x' S' => q3 w F' H' (x1.trans x') ⟨L, E1, S'⟩⟩
/-- f(e, ..), f a built-in function; T(e, ..), a built-in type -/
theorem de_callB {x : Str} {id : String} {p : Pos} {g : List D → Option D} {o : O} {k : SA} (hc : CallR X (.builtin id) (rON C g o)) (hg : Gl X x) (hm : X.mg x = none) (hv : bootBuiltins x = some (.builtin id)) (ha : PA X (e :: es) (tDA C W G k)) (hn : x ≠ "__name__" := by decide) (hdb : (x == ("__debug__" : Str)) = false := by decide)
    (he : starEach (e :: es) X.env = (false, eval e X.env) :: starEach es X.env := by rfl) (hpl : (backTo pos (starEach es X.env)).any (·.1) = false := by rfl) : PE X (.Call (.Name x p) (e :: es) [] pos) (tD C W G (eA g k) o) :=
  PE_weak (pe_callB hc hg hm hv ha hn hdb he hpl) fun _ _ _ q => tDN (fun _ _ _ h => h) q
theorem de_callTy {x : Str} {T : String} {p : Pos} {g : List D → Option D} {o : O} {k : SA} (hc : CallR X (.type T) (rON C g o)) (hg : Gl X x) (hm : X.mg x = none) (hv : bootBuiltins x = some (.type T)) (ha : PA X (e :: es) (tDA C W G k)) (hn : x ≠ "__name__" := by decide) (hdb : (x == ("__debug__" : Str)) = false := by decide)
    (he : starEach (e :: es) X.env = (false, eval e X.env) :: starEach es X.env := by rfl) (hpl : (backTo pos (starEach es X.env)).any (·.1) = false := by rfl) : PE X (.Call (.Name x p) (e :: es) [] pos) (tD C W G (eA g k) o) :=
  PE_weak (pe_callTy hc hg hm hv ha hn hdb he hpl) fun _ _ _ q => tDN (fun _ _ _ h => h) q

/-! ### displays -/
def mkTup : List D → Option D := fun xs => if xs.length ≤ sizeLine then some (.tup xs) else none
def mkLst : List D → Option D := fun xs => if xs.length ≤ sizeLine then some (.lst xs) else none
theorem de_tup {x1 : Nat} {k : SA} (h : PA X es (tDA C W G k)) : PE X (.Tuple es x1 pos) (tD C W G (eA mkTup k) .z) := by
  refine PE_weak (pe_tup h) fun σ H Q q => ?_
  obtain ⟨F, P, Lk, r, E, q⟩ := q
  refine ⟨F, P, Lk, r, E, (RD.bind q).mono fun ds r1 q1 xs F1 H1 x1 R1 E1 => ?_⟩
  obtain ⟨dz, e3, q3⟩ := RD_opt q1
  unfold mkTup at e3
  split at e3
  · rename_i hz
    cases e3
    refine ⟨by rw [R1.length]; exact hz, fun p hp => ?_⟩
    obtain ⟨L, E1, S1⟩ := E1
    obtain ⟨x2, S2⟩ := S1.newZ (o := .tup xs) hp
    exact q3 _ _ _ (x1.trans x2) ⟨L, E1, S2.zcons (.tup upd_same (R1.mono x2))⟩
  · cases e3
theorem de_lst {k : SA} (h : PA X es (tDA C W G k)) : PE X (.List es pos) (tD C W G (eA mkLst k) .z) := by
  refine PE_weak (pe_lst h) fun σ H Q q => ?_
  obtain ⟨F, P, Lk, r, E, q⟩ := q
  refine ⟨F, P, Lk, r, E, (RD.bind q).mono fun ds r1 q1 xs F1 H1 x1 R1 E1 => ?_⟩
  obtain ⟨dz, e3, q3⟩ := RD_opt q1
  unfold mkLst at e3
  split at e3
  · rename_i hz
    cases e3
    refine ⟨by rw [R1.length]; exact hz, fun p hp => ?_⟩
    obtain ⟨L, E1, S1⟩ := E1
    obtain ⟨x2, S2⟩ := S1.newZ (o := .lst xs) hp
    exact q3 _ _ _ (x1.trans x2) ⟨L, E1, S2.zcons (.lst (.inl upd_same) (R1.mono x2))⟩
  · cases e3

/-! ### tests -/
theorem RepL.isEmpty {vs : List V} {ds : List D} (h : RepL C F vs ds) : ds.isEmpty = vs.isEmpty := by
  cases h <;> rfl
theorem truth_ok {L : List Cell} {v : V} {d : D} {k : Bool} (S : Stt C F P Lk L H) (R : Rep C F v d) (e : truth d = some k) : TruV C.K v H k := by
  cases R with
  | non => cases e; rfl
  | bl b => cases e; rfl
  | int i => cases e; rfl
  | str x =>
    have e : (if x.length ≤ sizeLine then some ((x.length : Int) != 0) else none) = some k := e
    split at e
    · rename_i h; cases e; exact ⟨h, rfl⟩
    · cases e
  | opq v => cases e
  | lst h r => cases e; exact .inl ⟨_, .inl (S.rdL h), by rw [r.isEmpty]⟩
  | tup h r => cases e; exact .inr (.inl ⟨_, SqT.of (S.tup h), by rw [r.isEmpty]⟩)
  | ktup h r => cases e; exact .inr (.inl ⟨_, sqT_k h, by rw [r.isEmpty]⟩)
  | klst h r => cases e; exact .inl ⟨_, sqL_k h, by rw [r.isEmpty]⟩
  | dK h r => cases e
  | dT h r => cases e
  | ins h c r => cases e
theorem dt_val {f : SE} (hK : X.K = C.K) (ha : PE X a (tD C W G f .z)) (he : ∀ whole, isTrue a X.env whole = (do let v ← whole; standAt a.pos; holding [v] (truthy v)) := by intro _; rfl) : PT X a (tDT C W G (tE f)) := by
  refine PT_weak (pt_truth ha he) fun σ H Q q => ?_
  obtain ⟨F, P, Lk, r, E, q⟩ := q
  refine ⟨F, P, Lk, r, E, (RD.bind q).mono fun ds r1 q1 x F1 H1 x1 E0 => ?_⟩
  obtain ⟨k, e3, q3⟩ := RD_opt q1
  obtain ⟨R1, L, E1, S1⟩ := E0.rep
  clear E0
  exact ⟨k, by rw [hK]; exact truth_ok S1 R1 e3, q3 F1 H1 x1 ⟨L, E1, S1⟩⟩
def boolT (f : SE) : ST := fun r => (f r).bind fun d r1 => opt (boolD d) r1
theorem dt_cmp {op : CmpOp} {g : D → D → Option D} {f h : SE} (ho : OpR X (compareOp op) (rO2 C g .z)) (ha : PE X a (tD C W G f .z)) (hb : PE X b (tD C W G h .z)) (hm : behindInMarks op b = false) : PT X (.Compare a [op] [b] pos) (tDT C W G (boolT (e2 g f h))) := by
  refine PT_weak (pt_cmpR ho ha hb hm) fun σ H Q q => ?_
  show tOp (rO2 C g .z) (tD C W G f .z) (tD C W G h .z) σ H (fun x H' => ∃ k, x = .bl k ∧ Q k H')
  refine tD2 (fun _ _ _ h => h) (fun _ _ _ h => h) ?_
  obtain ⟨F, P, Lk, r, E, q⟩ := q
  refine ⟨F, P, Lk, r, E, (RD.bind q).mono fun ds r1 q1 x F1 H1 x1 E0 => ?_⟩
  obtain ⟨k, e3, q3⟩ := RD_opt q1
  obtain ⟨R1, L, E1, S1⟩ := E0.rep
  clear E0
  cases R1 with
  | bl b => cases e3; exact ⟨_, rfl, q3 F1 H1 x1 ⟨L, E1, S1⟩⟩
  | _ => cases e3
theorem dw_and1 {t : ST} (ha : PT X a (tDT C W G t)) : PW X (.BoolOp .And [a] pos) (tDT C W G t) := pw_and1 ha
theorem dw_or1 {t : ST} (ha : PT X a (tDT C W G t)) : PW X (.BoolOp .Or [a] pos) (tDT C W G t) := pw_or1 ha
theorem dw_and {t u : ST} (ha : PT X a (tDT C W G t)) (hb : PW X (.BoolOp .And (b :: es) pos) (tDT C W G u)) : PW X (.BoolOp .And (a :: b :: es) pos) (tDT C W G (tAnd t u)) := by
  refine PW_weak (pw_and ha hb) fun σ H Q q => ?_
  obtain ⟨F, P, Lk, r, E, q⟩ := q
  refine ⟨F, P, Lk, r, E, (RD.bind q).mono fun k r1 q1 F1 H1 x1 E1 => ?_⟩
  cases k with
  | true =>
    rw [if_pos rfl] at q1 ⊢
    exact ⟨F1, P, Lk, r1, E1, (q1.ext x1 (Sub.refl P)).mono fun k2 r2 q2 F2 H2 x2 E2 => q2 F2 H2 (x1.trans x2) E2⟩
  | false =>
    rw [if_neg Bool.false_ne_true] at q1 ⊢
    exact q1 F1 H1 x1 E1
theorem dw_or {t u : ST} (ha : PT X a (tDT C W G t)) (hb : PW X (.BoolOp .Or (b :: es) pos) (tDT C W G u)) : PW X (.BoolOp .Or (a :: b :: es) pos) (tDT C W G (tOr t u)) := by
  refine PW_weak (pw_or ha hb) fun σ H Q q => ?_
  obtain ⟨F, P, Lk, r, E, q⟩ := q
  refine ⟨F, P, Lk, r, E, (RD.bind q).mono fun k r1 q1 F1 H1 x1 E1 => ?_⟩
  cases k with
  | true =>
    rw [if_pos rfl] at q1 ⊢
    exact q1 F1 H1 x1 E1
  | false =>
    rw [if_neg Bool.false_ne_true] at q1 ⊢
    exact ⟨F1, P, Lk, r1, E1, (q1.ext x1 (Sub.refl P)).mono fun k2 r2 q2 F2 H2 x2 E2 => q2 F2 H2 (x1.trans x2) E2⟩
theorem dt_not {t : ST} (ha : PT X a (tDT C W G t)) : PT X (.UnaryOp .Not a pos) (tDT C W G (tNot t)) := by
  refine PT_weak (pt_not ha) fun σ H Q q => ?_
  obtain ⟨F, P, Lk, r, E, q⟩ := q
  exact ⟨F, P, Lk, r, E, (RD.bind q).mono fun k r1 q1 F1 H1 x1 E1 => q1 F1 H1 x1 E1⟩
theorem de_if {t : ST} {f h : SE} {o : O} (hc : PT X c (tDT C W G t)) (ha : PE X a (tD C W G f o)) (hb : PE X b (tD C W G h o)) : PE X (.IfExp c a b pos) (tD C W G (eIf t f h) o) := by
  refine PE_weak (pe_ifExp hc ha hb) fun σ H Q q => ?_
  obtain ⟨F, P, Lk, r, E, q⟩ := q
  refine ⟨F, P, Lk, r, E, (RD.bind q).mono fun k r1 q1 F1 H1 x1 E1 => ?_⟩
  cases k with
  | true =>
    rw [if_pos rfl] at q1 ⊢
    exact ⟨F1, P, Lk, r1, E1, (q1.ext x1 (Sub.refl P)).mono fun d r2 q2 v F2 H2 x2 E2 => q2 v F2 H2 (x1.trans x2) E2⟩
  | false =>
    rw [if_neg Bool.false_ne_true] at q1 ⊢
    exact ⟨F1, P, Lk, r1, E1, (q1.ext x1 (Sub.refl P)).mono fun d r2 q2 v F2 H2 x2 E2 => q2 v F2 H2 (x1.trans x2) E2⟩
theorem de_one {op : BoolOp} {f : SE} (ha : PE X a (tD C W G f .z)) : PE X (.BoolOp op [a] pos) (tD C W G f .z) := pe_one ha
theorem de_and {f h : SE} (ha : PE X a (tD C W G f .z)) (hb : PE X (.BoolOp .And (b :: es) pos) (tD C W G h .z)) : PE X (.BoolOp .And (a :: b :: es) pos) (tD C W G (eAnd f h) .z) := by
  refine PE_weak (pe_and ha hb) fun σ H Q q => ?_
  obtain ⟨F, P, Lk, r, E, q⟩ := q
  refine ⟨F, P, Lk, r, E, (RD.bind q).mono fun k r1 q1 v F1 H1 x1 E0 => ?_⟩
  obtain ⟨R1, E1⟩ := E0.rep
  clear E0
  cases R1 with
  | bl b =>
    refine ⟨b, rfl, ?_⟩
    cases b with
    | true =>
      rw [if_pos rfl]
      exact ⟨F1, P, Lk, r1, E1, (q1.ext x1 (Sub.refl P)).mono fun d r2 q2 v F2 H2 x2 E2 => q2 v F2 H2 (x1.trans x2) E2⟩
    | false =>
      rw [if_neg Bool.false_ne_true]
      exact q1 _ F1 H1 x1 (E1.zcons (.bl false))
  | _ => exact q1.elim
theorem de_or {f h : SE} (ha : PE X a (tD C W G f .z)) (hb : PE X (.BoolOp .Or (b :: es) pos) (tD C W G h .z)) : PE X (.BoolOp .Or (a :: b :: es) pos) (tD C W G (eOr f h) .z) := by
  refine PE_weak (pe_or ha hb) fun σ H Q q => ?_
  obtain ⟨F, P, Lk, r, E, q⟩ := q
  refine ⟨F, P, Lk, r, E, (RD.bind q).mono fun k r1 q1 v F1 H1 x1 E0 => ?_⟩
  obtain ⟨R1, E1⟩ := E0.rep
  clear E0
  cases R1 with
  | bl b =>
    refine ⟨b, rfl, ?_⟩
    cases b with
    | true =>
      rw [if_pos rfl]
      exact q1 _ F1 H1 x1 (E1.zcons (.bl true))
    | false =>
      rw [if_neg Bool.false_ne_true]
      exact ⟨F1, P, Lk, r1, E1, (q1.ext x1 (Sub.refl P)).mono fun d r2 q2 v F2 H2 x2 E2 => q2 v F2 H2 (x1.trans x2) E2⟩
  | _ => exact q1.elim
theorem UnaryNot {f : SE} (hK : X.K = C.K) (ha : PE X a (tD C W G f .z)) : PE X (.UnaryOp .Not a pos) (tD C W G (eNot f) .z) := by
  refine ⟨fun pins s σ H Q I h => ?_⟩
  obtain ⟨F, P, Lk, r, E, q⟩ := h
  refine UnaryOp_ (thn (ha.run pins s σ H (fun x H1 => ∃ k, TruV X.K x H1 k ∧ Q (.bl (!k)) H1) I ⟨F, P, Lk, r, E, (RD.bind q).mono fun d r1 q1 v F1 H1 x1 E1 => ?_⟩) fun v s1 ⟨x, H1, I1, r1, k, tk, q1⟩ => ?_)
  · obtain ⟨dz, e3, q3⟩ := RD_opt q1
    obtain ⟨R1, L, E1, S1⟩ := E1.rep
    cases hb : truth d with
    | none => rw [hb] at e3; cases e3
    | some k =>
      rw [hb] at e3
      cases e3
      exact ⟨k, by rw [hK]; exact truth_ok S1 R1 hb, q3 _ F1 H1 x1 ⟨L, E1, S1.zcons (.bl _)⟩⟩
  · exact not_of (thn (tru_ok pins s1 σ H1 x v (fun b H' => b = k ∧ Q (.bl (!k)) H') I1 r1 ⟨k, tk, rfl, q1⟩) fun b s2 ⟨H2, I2, e2, q2⟩ => by
      subst e2
      exact ⟨.bl (!b), H2, I2, rfl, q2⟩)
end
end DL
set_option Elab.async false
set_option linter.all false
set_option autoImplicit false
set_option maxHeartbeats 1000000
set_option maxRecDepth 100000
/-! the data layer: defs and calls where nothing is being shown (no guard is held), so that repr of lists and tuples can be walked.
  The names are those of L2, for DL's own use. -/
namespace DL
open PySem PySem.Spec PyProof.Rows L2

/-- room, and no guard held -/
structure Room (n : Nat) (Ar : Around) : Prop where
  rm : L2.Room n Ar
  gd : Ar.guards = some []
namespace Room
variable {m n : Nat} {Ar : Around}
theorem hd (z : Room n Ar) : Ar.handled = none := z.rm.hd
theorem un (z : Room n Ar) : Ar.units + 16 * n + 200 < cLine := z.rm.un
theorem mono (z : Room n Ar) (le : m ≤ n) : Room m Ar := ⟨z.rm.mono le, z.gd⟩
theorem in1 (z : Room (n + 1) Ar) : Room n Ar.in1 := ⟨z.rm.in1, z.gd⟩
theorem make (z : Room (n + 1) Ar) (cl : Addr) (vs : List Value) (ks : List (Str × Value)) : Room n (Ar.under (.builtin "type.__call__" ⟨.ref cl :: vs, ks⟩)) := ⟨z.rm.make cl vs ks, by
  have e := z.gd
  first | exact e | (simp [Around.under, Code.guards, Code.isGuard, guardIds, pushGuards, e])⟩
theorem deep (z : Room (n + 1) Ar) (en : PySem.Env) : Room n (Ar.deeper en) := ⟨z.rm.deeper en, z.gd⟩
theorem units0 (z : Room n Ar) : Ar.units < cLine := z.rm.units0
end Room

/-- a def's promise, held where no guard is -/
structure FnOk (P : Program) (w : World) (K : PySem.W.Frag) (mg : Str → Option Value) (base : Heap) (CX : CXT) (n : Nat) (fa : Addr) (fd : FuncData) (pars : List Str) (pr : Sp) : Prop where
  len : ∀ xs H Q E, pr xs H Q E → xs.length = pars.length
  run : ∀ (Ar : Around) (out : List PySem.Env) (st : Shared) (H : Hp) (ar : Args) (us : List Value) (xs : List V) (Q : VK) (E : XK), Room n Ar → Env0 P w K mg base Ar out st H → BindsTo st fd ar (pars.zip us) → Vals xs us → pr xs H Q E →
    codeAny (model P w) Ar (.call (.ref fa) ar) (CR CX out P w H st Q E) st
section
variable {P : Program} {w : World} {K : PySem.W.Frag} {mg : Str → Option Value} {base : Heap} {CX : CXT} {m n : Nat} {fa : Addr} {fd : FuncData} {pars : List Str} {pr pr' : Sp}
theorem FnOk.mono (D : FnOk P w K mg base CX m fa fd pars pr) (le : m ≤ n) : FnOk P w K mg base CX n fa fd pars pr where
  len := D.len
  run Ar out st H ar us xs Q E z := D.run Ar out st H ar us xs Q E (z.mono le)
theorem FnOk.imp (D : FnOk P w K mg base CX m fa fd pars pr) (to : ∀ xs H Q E, pr' xs H Q E → pr xs H Q E) : FnOk P w K mg base CX m fa fd pars pr' where
  len xs H Q E q := D.len xs H Q E (to _ _ _ _ q)
  run Ar out st H ar us xs Q E z e b v q := D.run Ar out st H ar us xs Q E z e b v (to _ _ _ _ q)
end
section
variable {X : Cx} {CX : CXT} {n : Nat} {fa Ca : Addr} {fd : FuncData} {pars kn : List Str} {pr : Sp} {dxs : List V} {dus : List Value} {E : XK} {x nm : Str} {pp pos ap : Pos} {e o : Expr} {es : List Expr} {ks : List Keyword} {to : TE} {ta tk : TA}
/-- what a call's end gives the caller -/
theorem out_of {pins : List (Addr × Obj)} {σ : L2.St} {H : Hp} {st : Shared} {Q : VK} (px : Passes CX X E) (I : Inv X pins σ H st) {r : Result} {s' : Shared} (h : CR CX X.stack X.prog X.w H st Q E r s') :
    match (motive := Result → Prop) r with
    | .ok (.ret u) => EP X pins σ Q u s'
    | .ok _ => False
    | .error er => X.xe er s' := by
  cases r with
  | error er => exact px _ _ _ _ _ _ I h
  | ok fl => cases fl <;> first | exact h.elim | exact I.after h
theorem run_fn {pins : List (Addr × Obj)} {σ : L2.St} {H : Hp} {s : Shared} {Q : VK} {us : List Value} {vs : List V} (D : FnOk X.prog X.w X.K X.mg X.base CX n fa fd pars pr) (z : Room n X.A) (bi : Binds X.K fd pars dus) (dv : Vals dxs dus) (px : Passes CX X E)
    (I : Inv X pins σ H s) (rv : Vals vs us) (q : pr (vs ++ dxs) H Q E) : wpAny (model X.prog X.w) X.A (call (.ref fa) us) (EP X pins σ Q) X.xe s := by
  have rr := rv.append dv
  have ll : (us ++ dus).length = pars.length := rr.length ▸ D.len _ _ _ _ q
  refine wpAny_call (codeAny_mono (D.run X.A X.stack s H ⟨us, []⟩ _ _ Q E z I.env0 (bi s us I.kIn ll) rr q) fun r s' k => ?_)
  have k := out_of px I k
  cases r with
  | error er => exact k
  | ok fl => cases fl <;> first | exact k | exact k.elim
theorem run_fnk {pins : List (Addr × Obj)} {σ : L2.St} {H : Hp} {s : Shared} {Q : VK} {us ws : List Value} {vs zs : List V} {gU : List Value → List Value → List Value} {gX : List V → List V → List V} (D : FnOk X.prog X.w X.K X.mg X.base CX n fa fd pars pr) (z : Room n X.A)
    (bi : KBinds X.K fd pars kn gU gX) (px : Passes CX X E) (I : Inv X pins σ H s) (rv : Vals vs us) (rz : Vals zs ws) (q : pr (gX vs zs) H Q E) : wpAny (model X.prog X.w) X.A (call (.ref fa) us (kn.zip ws)) (EP X pins σ Q) X.xe s := by
  have rr := bi.rel rv rz
  have ll : (gU us ws).length = pars.length := rr.length ▸ D.len _ _ _ _ q
  refine wpAny_call (codeAny_mono (D.run X.A X.stack s H ⟨us, kn.zip ws⟩ _ _ Q E z I.env0 (bi.to s us ws I.kIn ll) rr q) fun r s' k => ?_)
  have k := out_of px I k
  cases r with
  | error er => exact k
  | ok fl => cases fl <;> first | exact k | exact k.elim
/-- f(e, ..) -/
theorem pe_call (D : FnOk X.prog X.w X.K X.mg X.base CX n fa fd pars pr) (z : Room n X.A) (gl : Gl X x) (mx : X.mg x = some (.ref fa)) (kp : PySem.W.keepIn X.K (.ref fa) = true) (bi : Binds X.K fd pars dus) (dv : Vals dxs dus) (px : Passes CX X E)
    (pa : PA X (e :: es) ta) (nd : (x == ("__debug__" : Str)) = false := by decide) (s1 : starEach (e :: es) X.env = (false, eval e X.env) :: starEach es X.env := by rfl) (s2 : (backTo pos (starEach es X.env)).any (·.1) = false := by rfl) :
    PE X (.Call (.Name x pp) (e :: es) [] pos) (tCall pr dxs E ta) := by
  refine ⟨fun pins s σ H Q I q => wpAny_Call_Name_kw (ld_glob I gl mx ?_ nd)⟩
  exact PySem.W.callWith_K (h₀ := X.base) I.ok.mod.kin kp (thn (pa.run pos pins s σ H _ I q) fun us t1 ⟨vs, H1, I1, rv, q1⟩ => ⟨I1.kIn, run_fn D z bi dv px I1 rv q1⟩) s1 s2
/-- f(e, .., k = v, ..) -/
theorem pe_callK {gU : List Value → List Value → List Value} {gX : List V → List V → List V} (D : FnOk X.prog X.w X.K X.mg X.base CX n fa fd pars pr) (z : Room n X.A) (gl : Gl X x) (mx : X.mg x = some (.ref fa)) (kp : PySem.W.keepIn X.K (.ref fa) = true) (bi : KBinds X.K fd pars kn gU gX) (px : Passes CX X E)
    (pa : PA X (e :: es) ta) (pk : PK X ks tk) (al : (backToKw pos (keywordEach ks X.env)).all (·.1.isSome) = true := by rfl) (ke : (backToKw pos (keywordEach ks X.env)).filterMap (·.1) = kn := by rfl)
    (nd : (x == ("__debug__" : Str)) = false := by decide) (s1 : starEach (e :: es) X.env = (false, eval e X.env) :: starEach es X.env := by rfl)
    (s2 : ((backTo pos (starEach (e :: es) X.env)).any (·.1) || (backToKw pos (keywordEach ks X.env)).any (·.1.isNone)) = false := by rfl) :
    PE X (.Call (.Name x pp) (e :: es) ks pos) (tCallK pr gX E ta tk) := by
  refine ⟨fun pins s σ H Q I q => wpAny_Call_Name_kw (ld_glob I gl mx ?_ nd)⟩
  refine PySem.W.callWith_KW (h₀ := X.base) I.ok.mod.kin kp al (thn (pa.run pos pins s σ H _ I q) fun us t1 ⟨vs, H1, I1, rv, q1⟩ => thn (pk.run pos pins t1 σ H1 _ I1 q1) fun ws t2 ⟨zs, H2, I2, rz, q2⟩ => ⟨I2.kIn, ?_⟩) s2 s1
  rw [ke]
  exact run_fnk D z bi px I2 rv rz q2
/-- o.m(e, ..) -/
theorem pe_meth {pl : Sem Bool} (po : PE X o to) (cl : Cls X.K Ca) (me : Meth X.K Ca nm fa) (D : FnOk X.prog X.w X.K X.mg X.base CX n fa fd pars pr) (z : Room n X.A) (bi : Binds X.K fd pars dus) (dv : Vals dxs dus) (px : Passes CX X E) (pa : PA X (e :: es) ta)
    (s1 : starEach (e :: es) X.env = (false, eval e X.env) :: starEach es X.env := by rfl) (s2 : (backTo pos (starEach es X.env)).any (·.1) = false := by rfl)
    (ev : eval (.Call (.Attribute o nm ap) (e :: es) [] pos) X.env = (do
      let ow ← eval o X.env
      standAt ap.atName
      let (fw, fi) ← holding [ow] (getMethod ow nm pl)
      callWith pos fw fi (backTo pos (starEach (e :: es) X.env)) (backToKw pos (keywordEach [] X.env))) := by rfl) :
    PE X (.Call (.Attribute o nm ap) (e :: es) [] pos) (tMeth Ca nm pr dxs E to ta) := by
  refine ⟨fun pins s σ H Q I q => PySem.W.methodCall_KW (pl := pl) (thn (po.run pins s σ H _ I q) fun u t1 ⟨x, H1, I1, ru, a, dx, fs, ex, ea, no, q1⟩ => ?_) ev⟩
  subst ex
  cases ru
  exact getmeth_ok I1 ea cl me no (PySem.W.callWith_K (first := [.ref a]) (h₀ := X.base) I.ok.mod.kin me.kp (thn (pa.run pos pins t1 σ H1 _ I1 q1) fun us t2 ⟨vs, H2, I2, rv, q2⟩ => ⟨I2.kIn, run_fn (us := .ref a :: us) (vs := .ref a :: vs) D z bi dv px I2 (.cons rfl rv) q2⟩) s1 s2)
/-- o.m() -/
theorem pe_meth0 {pl : Sem Bool} (po : PE X o to) (cl : Cls X.K Ca) (me : Meth X.K Ca nm fa) (D : FnOk X.prog X.w X.K X.mg X.base CX n fa fd pars pr) (z : Room n X.A) (bi : Binds X.K fd pars dus) (dv : Vals dxs dus) (px : Passes CX X E)
    (ev : eval (.Call (.Attribute o nm ap) [] [] pos) X.env = (do
      let ow ← eval o X.env
      standAt ap.atName
      let (fw, fi) ← holding [ow] (getMethod ow nm pl)
      callWith pos fw fi (backTo pos (starEach [] X.env)) (backToKw pos (keywordEach [] X.env))) := by rfl) :
    PE X (.Call (.Attribute o nm ap) [] [] pos) (tMeth Ca nm pr dxs E to tNil) := by
  refine ⟨fun pins s σ H Q I q => PySem.W.methodCall_KW (pl := pl) (thn (po.run pins s σ H _ I q) fun u t1 ⟨x, H1, I1, ru, a, dx, fs, ex, ea, no, q1⟩ => ?_) ev⟩
  subst ex
  cases ru
  exact getmeth_ok I1 ea cl me no (PySem.W.callWith_K0 (first := [.ref a]) I1.kIn me.kp (run_fn (us := [.ref a]) (vs := [.ref a]) D z bi dv px I1 (.cons rfl .nil) q1))
theorem run_make {pins : List (Addr × Obj)} {σ : L2.St} {H : Hp} {s : Shared} {Q : VK} {us : List Value} {vs : List V} (M : Mk X.K Ca fa) (D : FnOk X.prog X.w X.K X.mg X.base CX n fa fd pars pr) (z : Room (n + 1) X.A) (bi : Binds X.K fd pars dus) (dv : Vals dxs dus)
    (px : Passes CX X E) (I : Inv X pins σ H s) (rv : Vals vs us)
    (q : ∀ y dy, H y = none → H dy = none → dy ≠ y → pr (.ref y :: (vs ++ dxs)) (upd (upd H dy (.own y)) y (.ins Ca dy [])) (fun v H2 => v = .non ∧ Q (.ref y) H2) E) :
    wpAny (model X.prog X.w) X.A (call (.ref Ca) us) (EP X pins σ Q) X.xe s := by
  have I2 := Inv.made (C := Ca) I
  have q1 := q (s.heap.objs.size + 1) s.heap.objs.size (I.hok.fresh (Nat.le_succ _)) (I.hok.fresh (Nat.le_refl _)) (Nat.ne_of_lt (Nat.lt_succ_self _))
  have rr : Vals (V.ref (s.heap.objs.size + 1) :: (vs ++ dxs)) (Value.ref (s.heap.objs.size + 1) :: (us ++ dus)) := .cons rfl (rv.append dv)
  have ll : (Value.ref (s.heap.objs.size + 1) :: us ++ dus).length = pars.length := rr.length ▸ D.len _ _ _ _ q1
  refine wpAny_call (make_map (f := fa) I.kIn M.makes M.init (beq_iff_eq.mp M.fn) (codeAny_mono (D.run _ X.stack _ _ ⟨Value.ref (s.heap.objs.size + 1) :: us, []⟩ _ _ _ E (z.make Ca us []) (I2.env0.make Ca us []) (bi _ (Value.ref (s.heap.objs.size + 1) :: us) I2.kIn ll) rr q1) fun r s' k => ?_))
  have k := out_of px I2 k
  cases r with
  | error er => exact k
  | ok fl =>
    cases fl with
    | ret u =>
      obtain ⟨v, H', I3, r3, ev, q3⟩ := k
      subst ev
      exact ⟨r3, V.ref (s.heap.objs.size + 1), H', I3, rfl, q3⟩
    | _ => exact k.elim
/-- C(e, ..) -/
theorem pe_make (M : Mk X.K Ca fa) (D : FnOk X.prog X.w X.K X.mg X.base CX n fa fd pars pr) (z : Room (n + 1) X.A) (gl : Gl X x) (mx : X.mg x = some (.ref Ca)) (bi : Binds X.K fd pars dus) (dv : Vals dxs dus) (px : Passes CX X E)
    (pa : PA X (e :: es) ta) (nd : (x == ("__debug__" : Str)) = false := by decide) (s1 : starEach (e :: es) X.env = (false, eval e X.env) :: starEach es X.env := by rfl) (s2 : (backTo pos (starEach es X.env)).any (·.1) = false := by rfl) :
    PE X (.Call (.Name x pp) (e :: es) [] pos) (tMake Ca pr dxs E ta) := by
  refine ⟨fun pins s σ H Q I q => wpAny_Call_Name_kw (ld_glob I gl mx ?_ nd)⟩
  exact PySem.W.callWith_K (h₀ := X.base) I.ok.mod.kin M.kp (thn (pa.run pos pins s σ H _ I q) fun us t1 ⟨vs, H1, I1, rv, q1⟩ => ⟨I1.kIn, run_make M D z bi dv px I1 rv q1⟩) s1 s2
/-- e.f, a property -/
theorem pe_prop {pa : Addr} (po : PE X e to) (cl : Cls X.K Ca) (hp : PropOf X.K Ca nm pa fa) (D : FnOk X.prog X.w X.K X.mg X.base CX n fa fd pars pr) (z : Room (n + 1) X.A) (bi : Binds X.K fd pars dus) (dv : Vals dxs dus) (px : Passes CX X.nox E)
    (ab : attributeBase e nm X.env (eval e X.env) = eval e X.env) : PE X (.Attribute e nm pos) (tProp Ca pr dxs E to) := by
  refine ⟨fun pins s σ H Q I q => attr_of ab (thn (po.run pins s σ H _ I q) fun u t1 ⟨x, H1, I1, ru, a, dx, fs, ex, ea, q1⟩ => ?_)⟩
  subst ex
  cases ru
  obtain ⟨mA, O, _, _, _, _⟩ := ins_get I1.hok ea
  obtain ⟨od, J, _⟩ := O.look
  obtain ⟨rest, rc⟩ := hp.rec_
  have I2 := I1.tok (t1.toks + 1)
  have rr : Vals (V.ref a :: dxs) (Value.ref a :: dus) := .cons rfl dv
  have ll : ([Value.ref a] ++ dus).length = pars.length := rr.length ▸ D.len _ _ _ _ q1
  have hc : (PySem.W.clsIn X.K Ca).isSome = true := by
    obtain ⟨cd, hc, _⟩ := PySem.W.any_some cl.hd
    rw [hc]; rfl
  refine PySem.W.get_bind I1.kIn J (PySem.W.plainGet_of (cl.get nm)).1 (PySem.W.findObj_data hc hp.at_ hp.get hp.tak) (PySem.W.plainGet_of (cl.get nm)).2 (wpAny_call (PySem.W.prop_get (s := { t1 with toks := t1.toks + 1 }) I1.kIn rc ?_))
  refine codeAny_mono (D.run X.A.in1 X.stack { t1 with toks := t1.toks + 1 } H1 ⟨[.ref a], []⟩ _ _ Q E z.in1 I2.env0.in1 (bi _ [.ref a] I2.kIn ll) rr q1) fun r s' k => ?_
  cases r with
  | error er => exact (px pins σ H1 { t1 with toks := t1.toks + 1 } er s' (I2.wish _) k).elim
  | ok fl =>
    cases fl with
    | ret u =>
      obtain ⟨v, H', I3, rv, q3⟩ := I2.after k
      show wpAny _ _ (handedOut u) _ _ _
      rw [PySem.W.handedOut_of (handed_of rv)]
      exact wpAny_pure ⟨v, H', I3, rv, q3⟩
    | _ => exact k.elim
end
/-- a def by its body -/
theorem okG {P : Program} {w : World} {K : PySem.W.Frag} {mg : Str → Option Value} {base : Heap} {x qual : Str} {st : Stmt} {f : Addr} {fd : FuncData} {N pars : List Str} {n : Nat} {pr : Sp} (Fn : Fun K x qual st f fd) (Sc : FnScope N pars (defScope st)) (len : ∀ xs H Q E, pr xs H Q E → xs.length = pars.length)
    (body : ∀ (cdv : Value) (Ar : Around) (out : List PySem.Env) (s : Shared) (H : Hp) (xs : List V) (Q : VK) (E : XK), Room n (Ar.deeper (envOfC qual (defScope st) s.heap.objs.size f cdv)) → pr xs H Q E →
      ∃ t, PSs (cxOf (L2.CX P w) P w K mg base N qual (defScope st) f cdv Ar out s H E) (defBody st) t ∧ t { nx := fun _ H' => Q .non H', rt := Q } (start N xs) H) : FnOk P w K mg base (L2.CX P w) (n + 1) f fd pars pr := by
  obtain ⟨oc, od, kV, doc, pm, an, cdv, ct, osl, rfl, lk, hcd⟩ := Fn.ex
  refine ⟨len, fun Ar out s H ar us xs Q E z e0 bi rv q => ?_⟩
  have hK : K.In s.heap := e0.mod.kin.keeps fun b o e => (e0.bs b o e).1
  have nl : s.heap.NoLimit := e0.mod.nolimit.keeps fun b o e => (e0.bs b o e).1
  refine codeAny_call_function z.rm.depth (hK _ _ lk) rfl Sc.co Sc.gen rfl (PySem.W.codeRec_of hK hcd) (bi _ _ _ _ (wpAny_newFunctionEnv_cells Sc.kind (fun y hy => ?_) fun en hen s1 into => ?_))
  · rcases Sc.par y.1 (List.of_mem_zip (show (y.1, y.2) ∈ _ from hy)).1 with k | k
    · exact .inl k
    · exact .inr ⟨k, PySem.W.cellsFrom_some _ _ _ (.inl k)⟩
  · subst hen
    refine ⟨nl.keeps into.toInCall.keep, codeAny_func ?_⟩
    obtain ⟨t, ht, ok⟩ := body cdv Ar out s H xs Q E (z.deep _) q
    refine wpAny_mono (ht.run [] s1 (start N xs) H _ (inv_start Sc z.hd e0 (len _ _ _ _ q) rv into) ok) (fun fl s' k => ?_) fun er s' k => k
    cases fl with
    | ret u =>
      obtain ⟨v, σ', H', J, r', q'⟩ := k
      exact ⟨v, H', J.os, J.bare, J.base, J.hok, r', q'⟩
    | next =>
      obtain ⟨σ', H', J, q'⟩ := k
      exact ⟨V.non, H', J.os, J.bare, J.base, J.hok, rfl, q'⟩
    | brk =>
      obtain ⟨_, _, _, q'⟩ := k
      exact q'.elim
    | cont =>
      obtain ⟨_, _, _, q'⟩ := k
      exact q'.elim
end DL
set_option Elab.async false
set_option linter.all false
set_option autoImplicit false
set_option maxHeartbeats 1000000
/-! the data layer, part 3: statements, defs, calls -/
namespace DL
open PySem PySem.Spec PyProof.Rows L2

inductive Fl where
  | nx (r : DL.Env) | rt (d : D) (r : DL.Env) | exc (c : Str) (fs : List (Str × D)) | stk
def RF (C : Cfg) (W : WX) (F P : Hp) (Lk : Lock) (σ : L2.St) (x : Fl) (nx : DL.Env → Prop) (rt : D → DL.Env → Prop) : Prop := match x with
  | .nx r => nx r
  | .rt d r => rt d r
  | .exc c fs => ∀ cls dct F' H', Ext F F' → Stt C F' P Lk [] H' → ExcO C F' H' c fs cls dct → W cls dct σ H'
  | .stk => False
abbrev SS := DL.Env → Fl
def Res.fl {α : Type} (x : Res α) (k : α → DL.Env → Fl) : Fl := match x with
  | .ok a r => k a r
  | .exc c fs => .exc c fs
  | .stk => .stk
def Fl.seq (x : Fl) (k : DL.Env → Fl) : Fl := match x with
  | .nx r => k r
  | y => y

def maskE : List Bool → DL.Env → DL.Env
  | [], _ => []
  | _ :: _, [] => []
  | b :: m, x :: r => (if b = true then x else none) :: maskE m r
def agree : List Bool → List O → List O → Bool
  | [], _, [] => true
  | b :: m, g :: G, h :: K => (!b || decide (g = h)) && agree m G K
  | _, _, _ => false
def Keep (pm : List Nat) (σ σ' : L2.St) : Prop := ∀ i ∈ pm, σ'[i]? = σ[i]?

variable {C : Cfg}
/-- what stands at a return: the value, and the parameters that are handed back -/
def RetX (C : Cfg) (F P : Hp) (Lk : Lock) (m : List Bool) (Gs : List O) (o : O) (v : V) (d : D) (r : DL.Env) (σ : L2.St) (H : Hp) : Prop :=
  ∃ L, EnvR Gs (maskE m r) (σ.take m.length) L ∧ Stt C F P Lk ((o, v, d) :: L) H
/-- how a def returns: the mask of the parameters that go back, their shapes, the value's shape; the slots that stay -/
structure Rt where
  m : List Bool
  Gs : List O
  o : O
  pm : List Nat
def tDS (C : Cfg) (W : WX) (R : Rt) (G : List O) (f : SS) (G' : List O) : TS := fun D σ H => ∃ F P Lk r, EnvX C [] F P Lk G r σ H ∧
  RF C W F P Lk σ (f r) (fun r' => ∀ σ' F' H', Ext F F' → Keep R.pm σ σ' → EnvX C [] F' P Lk G' r' σ' H' → D.nx σ' H')
    (fun d r' => ∀ v σ' F' H', Ext F F' → Keep R.pm σ σ' → RetX C F' P Lk R.m R.Gs R.o v d r' σ' H' → D.rt v H')

section
variable {W : WX} {F F' P P' H : Hp} {Lk : Lock} {σ σ' : L2.St} {pm : List Nat}
theorem Keep.refl : Keep pm σ σ := fun _ _ => rfl
theorem Keep.trans {σ2 : L2.St} (a : Keep pm σ σ') (b : Keep pm σ' σ2) : Keep pm σ σ2 := fun i h => (b i h).trans (a i h)
theorem Keep.set {i : Nat} {x : Option V} (h : i ∉ pm) : Keep pm σ (σ.set i x) := fun j hj => by
  rw [List.getElem?_set_ne]
  rintro rfl
  exact h hj
theorem RF.mono {x : Fl} {n n' : DL.Env → Prop} {t t' : D → DL.Env → Prop} (h : RF C W F P Lk σ x n t) (k : ∀ r, n r → n' r) (l : ∀ d r, t d r → t' d r) : RF C W F P Lk σ x n' t' := by
  cases x with
  | nx r => exact k _ h
  | rt d r => exact l _ _ h
  | exc c fs => exact h
  | stk => exact h
theorem RF.seq {x : Fl} {k : DL.Env → Fl} {n : DL.Env → Prop} {t : D → DL.Env → Prop} (h : RF C W F P Lk σ (x.seq k) n t) : RF C W F P Lk σ x (fun r => RF C W F P Lk σ (k r) n t) t := by
  cases x with
  | nx r => exact h
  | rt d r => exact h
  | exc c fs => exact h
  | stk => exact h
theorem RF.fl {α : Type} {x : Res α} {k : α → DL.Env → Fl} {n : DL.Env → Prop} {t : D → DL.Env → Prop} (h : RF C W F P Lk σ (x.fl k) n t) : RD C W F P Lk σ x fun a r => RF C W F P Lk σ (k a r) n t := by
  cases x with
  | ok a r => exact h
  | exc c fs => exact h
  | stk => exact h
/-- the wish about exceptions does not lean on the slots -/
def WK (W : WX) (pm : List Nat) : Prop := ∀ c d σ σ' H, Keep pm σ σ' → W c d σ H → W c d σ' H
theorem RF.ext {x : Fl} {n : DL.Env → Prop} {t : D → DL.Env → Prop} (hW : WK W pm) (e : Ext F F') (eP : Sub P P') (kp : Keep pm σ σ') (h : RF C W F P Lk σ x n t) : RF C W F' P' Lk σ' x n t := by
  cases x with
  | nx r => exact h
  | rt d r => exact h
  | exc c fs => exact fun cls dct G H' g s x => hW _ _ _ _ _ kp (h cls dct G H' (e.trans g) (s.subP eP) x)
  | stk => exact h
end

section
variable {G G' : List O} {r : DL.Env} {σ : L2.St} {L : List Cell} {F P H : Hp} {Lk : Lock}
theorem EnvR.len (h : EnvR G r σ L) : G.length = r.length ∧ σ.length = r.length := by
  induction h with
  | nil => exact ⟨rfl, rfl⟩
  | skip h ih => simp [ih.1, ih.2]
  | «have» h ih => simp [ih.1, ih.2]
/-- the slot i thrown away -/
theorem EnvR.clear (h : EnvR G r σ L) (i : Nat) : ∃ L' T, EnvR G (r.set i none) σ L' ∧ L.Perm (T ++ L') := by
  induction h generalizing i with
  | nil => exact ⟨[], [], .nil, .refl _⟩
  | @skip o s G r t L h ih =>
    cases i with
    | zero => exact ⟨L, [], .skip h, .refl _⟩
    | succ i =>
      obtain ⟨L', T, a, b⟩ := ih i
      exact ⟨L', T, .skip a, b⟩
  | @«have» o v d G r t L h ih =>
    cases i with
    | zero => exact ⟨L, [(o, v, d)], .skip h, .refl _⟩
    | succ i =>
      obtain ⟨L', T, a, b⟩ := ih i
      refine ⟨(o, v, d) :: L', T, .have a, ?_⟩
      exact (b.cons (o, v, d)).trans (List.perm_middle.symm)
/-- an empty slot filled -/
theorem EnvR.fill (h : EnvR G r σ L) {i : Nat} {o : O} {v : V} {d : D} (hr : r[i]? = some none) : EnvR (G.set i o) (r.set i (some d)) (σ.set i (some v)) L ∨ ∃ L', EnvR (G.set i o) (r.set i (some d)) (σ.set i (some v)) L' ∧ L'.Perm ((o, v, d) :: L) := by
  induction h generalizing i with
  | nil => simp at hr
  | @skip o' s G r t L h ih =>
    cases i with
    | zero => exact .inr ⟨_, .have h, .refl _⟩
    | succ i =>
      rcases ih (i := i) (by simpa using hr) with a | ⟨L', a, b⟩
      · exact .inl (.skip a)
      · exact .inr ⟨L', .skip a, b⟩
  | @«have» o' v' d' G r t L h ih =>
    cases i with
    | zero => simp at hr
    | succ i =>
      rcases ih (i := i) (by simpa using hr) with a | ⟨L', a, b⟩
      · exact .inl (.have a)
      · exact .inr ⟨_, .have a, (b.cons _).trans (List.Perm.swap _ _ _)⟩
theorem EnvR.put (h : EnvR G r σ L) {i : Nat} (hi : i < r.length) (o : O) (v : V) (d : D) : ∃ L' T, EnvR (G.set i o) (r.set i (some d)) (σ.set i (some v)) L' ∧ ((o, v, d) :: L).Perm (T ++ L') := by
  obtain ⟨L1, T, a, b⟩ := h.clear i
  have e : (r.set i none)[i]? = some none := by simp [hi]
  rcases a.fill (o := o) (v := v) (d := d) e with q | ⟨L', q, p⟩
  · rw [List.set_set] at q
    exact ⟨L1, (o, v, d) :: T, q, b.cons _⟩
  · rw [List.set_set] at q
    refine ⟨L', T, q, ?_⟩
    exact (b.cons _).trans ((List.perm_middle.symm).trans (p.symm.append_left T))
theorem EnvX.put {i : Nat} {o : O} {v : V} {d : D} (h : EnvX C [(o, v, d)] F P Lk G r σ H) (hi : i < r.length) : EnvX C [] F P Lk (G.set i o) (r.set i (some d)) (σ.set i (some v)) H := by
  obtain ⟨L, e, s⟩ := h
  obtain ⟨L', T, a, b⟩ := e.put hi o v d
  exact ⟨L', a, (s.perm b).drop⟩
/-- the owned slot i taken out -/
theorem EnvR.take (h : EnvR G r σ L) {i : Nat} {d : D} {o : O} (e : r[i]? = some (some d)) (g : G[i]? = some o) : ∃ v L', σ[i]? = some (some v) ∧ EnvR G (r.set i none) σ L' ∧ L.Perm ((o, v, d) :: L') := by
  induction h generalizing i with
  | nil => simp at e
  | @skip o s G r t L h ih =>
    cases i with
    | zero => simp at e
    | succ i =>
      obtain ⟨v, L', h1, h2, h3⟩ := ih (i := i) (by simpa using e) (by simpa using g)
      exact ⟨v, L', by simpa using h1, .skip h2, h3⟩
  | @«have» o v d G r t L h ih =>
    cases i with
    | zero =>
      simp at e g
      subst e g
      exact ⟨v, L, rfl, .skip h, .refl _⟩
    | succ i =>
      obtain ⟨v, L', h1, h2, h3⟩ := ih (i := i) (by simpa using e) (by simpa using g)
      exact ⟨v, _, by simpa using h1, .have h2, (h3.cons _).trans (List.Perm.swap _ _ _)⟩
/-- .. and put back -/
theorem EnvR.back (h : EnvR G r σ L) {i : Nat} {o : O} {v : V} (d : D) (hr : r[i]? = some none) (g : G[i]? = some o) (hs : σ[i]? = some (some v)) : ∃ L', EnvR G (r.set i (some d)) σ L' ∧ L'.Perm ((o, v, d) :: L) := by
  induction h generalizing i with
  | nil => simp at hr
  | @skip o' s G r t L h ih =>
    cases i with
    | zero =>
      simp at g hs
      subst g hs
      exact ⟨_, .have h, .refl _⟩
    | succ i =>
      obtain ⟨L', a, b⟩ := ih (i := i) (by simpa using hr) (by simpa using g) (by simpa using hs)
      exact ⟨L', .skip a, b⟩
  | @«have» o' v' d' G r t L h ih =>
    cases i with
    | zero => simp at hr
    | succ i =>
      obtain ⟨L', a, b⟩ := ih (i := i) (by simpa using hr) (by simpa using g) (by simpa using hs)
      exact ⟨_, .have a, (b.cons _).trans (List.Perm.swap _ _ _)⟩
theorem EnvX.take {i : Nat} {d : D} {o : O} {T : List Cell} (h : EnvX C T F P Lk G r σ H) (e : r[i]? = some (some d)) (g : G[i]? = some o) : ∃ v, σ[i]? = some (some v) ∧ EnvX C ((o, v, d) :: T) F P Lk G (r.set i none) σ H := by
  obtain ⟨L, a, s⟩ := h
  obtain ⟨v, L', h1, h2, h3⟩ := a.take e g
  refine ⟨v, h1, L', h2, s.perm ?_⟩
  exact (h3.append_left T).trans List.perm_middle
theorem EnvX.back {i : Nat} {d : D} {o : O} {v : V} {T : List Cell} (h : EnvX C ((o, v, d) :: T) F P Lk G r σ H) (hr : r[i]? = some none) (g : G[i]? = some o) (hs : σ[i]? = some (some v)) : EnvX C T F P Lk G (r.set i (some d)) σ H := by
  obtain ⟨L, a, s⟩ := h
  obtain ⟨L', h1, h2⟩ := a.back d hr g hs
  refine ⟨L', h1, s.perm ?_⟩
  exact (List.perm_middle.symm).trans (h2.symm.append_left T)
theorem EnvX.perm {T T' : List Cell} (h : EnvX C T F P Lk G r σ H) (p : T.Perm T') : EnvX C T' F P Lk G r σ H := by
  obtain ⟨L, a, s⟩ := h
  exact ⟨L, a, s.perm (p.append_right L)⟩
theorem EnvX.drop {x : Cell} {T : List Cell} (h : EnvX C (x :: T) F P Lk G r σ H) : EnvX C T F P Lk G r σ H := by
  obtain ⟨L, a, s⟩ := h
  exact ⟨L, a, s.tail⟩
theorem EnvX.len {T : List Cell} (h : EnvX C T F P Lk G r σ H) : G.length = r.length ∧ σ.length = r.length := by
  obtain ⟨L, a, s⟩ := h
  exact a.len
/-- the slots that go back -/
theorem EnvR.mask (h : EnvR G r σ L) : ∀ {m : List Bool} {Gs : List O}, agree m G Gs = true → ∃ L1 L2, EnvR Gs (maskE m r) (σ.take m.length) L1 ∧ L.Perm (L2 ++ L1) := by
  induction h with
  | nil =>
    intro m Gs a
    cases m with
    | nil => cases Gs with
      | nil => exact ⟨[], [], .nil, .refl _⟩
      | cons _ _ => simp [agree] at a
    | cons b m => cases Gs <;> simp [agree] at a
  | @skip o s G r t L h ih =>
    intro m Gs a
    cases m with
    | nil => cases Gs with
      | nil => exact ⟨[], L, .nil, by simp⟩
      | cons _ _ => simp [agree] at a
    | cons b m =>
      cases Gs with
      | nil => simp [agree] at a
      | cons g Gs =>
        simp only [agree, Bool.and_eq_true] at a
        obtain ⟨L1, L2, q, p⟩ := ih a.2
        refine ⟨L1, L2, ?_, p⟩
        have : maskE (b :: m) (none :: r) = none :: maskE m r := by simp [maskE]
        rw [this]
        exact .skip q
  | @«have» o v d G r t L h ih =>
    intro m Gs a
    cases m with
    | nil => cases Gs with
      | nil => exact ⟨[], (o, v, d) :: L, .nil, by simp⟩
      | cons _ _ => simp [agree] at a
    | cons b m =>
      cases Gs with
      | nil => simp [agree] at a
      | cons g Gs =>
        simp only [agree, Bool.and_eq_true] at a
        obtain ⟨L1, L2, q, p⟩ := ih a.2
        cases b with
        | false =>
          refine ⟨L1, (o, v, d) :: L2, ?_, p.cons _⟩
          have : maskE (false :: m) (some d :: r) = none :: maskE m r := by simp [maskE]
          rw [this]
          exact .skip q
        | true =>
          have eg : o = g := by simpa using a.1
          subst eg
          refine ⟨(o, v, d) :: L1, L2, ?_, (p.cons _).trans List.perm_middle.symm⟩
          have : maskE (true :: m) (some d :: r) = some d :: maskE m r := by simp [maskE]
          rw [this]
          exact .have q
theorem EnvX.ret {R : Rt} {v : V} {d : D} (h : EnvX C [(R.o, v, d)] F P Lk G r σ H) (a : agree R.m G R.Gs = true) : RetX C F P Lk R.m R.Gs R.o v d r σ H := by
  obtain ⟨L, e, s⟩ := h
  obtain ⟨L1, L2, q, p⟩ := e.mask a
  refine ⟨L1, q, ?_⟩
  have s2 : Stt C F P Lk ((R.o, v, d) :: (L2 ++ L1)) H := s.perm (p.cons _)
  exact (s2.perm (List.perm_middle.symm)).drop
def leG : List O → List O → Bool
  | [], [] => true
  | g :: G, h :: K => (decide (h = g) || decide (h = .z)) && leG G K
  | _, _ => false
theorem Stt.freeze1 {o : O} {v : V} {d : D} (h : Stt C F P Lk ((o, v, d) :: L) H) : ∃ F', Ext F F' ∧ Stt C F' P Lk ((.z, v, d) :: L) H := by
  obtain ⟨F', e, q, s⟩ := Stt.freeze (M := [(o, v, d)]) h
  exact ⟨F', e, s.zcons (q _ List.mem_cons_self)⟩
theorem EnvR.le (h : EnvR G r σ L) : ∀ {K : List O} {T : List Cell} {F : Hp}, leG G K = true → Stt C F P Lk (T ++ L) H → ∃ F' L', Ext F F' ∧ EnvR K r σ L' ∧ Stt C F' P Lk (T ++ L') H := by
  induction h with
  | nil =>
    intro K T F k s
    cases K with
    | nil => exact ⟨F, [], Ext.refl _, .nil, s⟩
    | cons _ _ => simp [leG] at k
  | @skip o s' G r t L h ih =>
    intro K T F k s
    cases K with
    | nil => simp [leG] at k
    | cons g K =>
      simp only [leG, Bool.and_eq_true] at k
      obtain ⟨F', L', e, q, s2⟩ := ih k.2 s
      exact ⟨F', L', e, .skip q, s2⟩
  | @«have» o v d G r t L h ih =>
    intro K T F k s
    cases K with
    | nil => simp [leG] at k
    | cons g K =>
      simp only [leG, Bool.and_eq_true, Bool.or_eq_true, decide_eq_true_eq] at k
      have s1 : ∃ F1, Ext F F1 ∧ Stt C F1 P Lk (T ++ (g, v, d) :: L) H := by
        rcases k.1 with e | e
        · subst e; exact ⟨F, Ext.refl _, s⟩
        · subst e
          obtain ⟨F1, e1, s1⟩ := Stt.freeze1 (s.perm List.perm_middle)
          exact ⟨F1, e1, s1.perm List.perm_middle.symm⟩
      obtain ⟨F1, e1, s1⟩ := s1
      have s1' : Stt C F1 P Lk ((T ++ [(g, v, d)]) ++ L) H := by simpa using s1
      obtain ⟨F', L', e, q, s2⟩ := ih k.2 s1'
      exact ⟨F', _, e1.trans e, .have q, by simpa using s2⟩
theorem EnvX.le {K : List O} {T : List Cell} (h : EnvX C T F P Lk G r σ H) (k : leG G K = true) : ∃ F', Ext F F' ∧ EnvX C T F' P Lk K r σ H := by
  obtain ⟨L, e, s⟩ := h
  obtain ⟨F', L', x, q, s2⟩ := e.le k s
  exact ⟨F', x, L', q, s2⟩
end

/-! ### statements -/
def sNx : SS := fun r => .nx r
def sSeq (f g : SS) : SS := fun r => (f r).seq g
def sAsg (i : Nat) (f : SE) : SS := fun r => (f r).fl fun d r1 => .nx (r1.set i (some d))
def sDrop (f : SE) : SS := fun r => (f r).fl fun _ r1 => .nx r1
def sRet (f : SE) : SS := fun r => (f r).fl fun d r1 => .rt d r1
def sIf (t : ST) (f g : SS) : SS := fun r => (t r).fl fun b r1 => if b = true then f r1 else g r1
def sStk : SS := fun _ => .stk
section
variable {X : Cx} {W : WX} {R : Rt} {G G1 G2 G' : List O} {e a b c : Expr} {st : Stmt} {sts : List Stmt} {pos : Pos}
theorem PS_weak {t t' : TS} (h : PS X st t) (k : ∀ D σ H, t' D σ H → t D σ H) : PS X st t' := ⟨fun pins s σ H D I h' => h.run pins s σ H D I (k _ _ _ h')⟩
theorem PSs_weak {t t' : TS} (h : PSs X sts t) (k : ∀ D σ H, t' D σ H → t D σ H) : PSs X sts t' := ⟨fun pins s σ H D I h' => h.run pins s σ H D I (k _ _ _ h')⟩
theorem ds_nil : PSs X [] (tDS C W R G sNx G) := by
  refine PSs_weak pss_nil fun D σ H q => ?_
  obtain ⟨F, P, Lk, r, E, q⟩ := q
  exact q σ F H (Ext.refl F) Keep.refl E
theorem ds_cons {f g : SS} (hW : WK W R.pm) (h1 : PS X st (tDS C W R G f G1)) (h2 : PSs X sts (tDS C W R G1 g G2)) : PSs X (st :: sts) (tDS C W R G (sSeq f g) G2) := by
  refine PSs_weak (pss_cons h1 h2) fun D σ H q => ?_
  obtain ⟨F, P, Lk, r, E, q⟩ := q
  refine ⟨F, P, Lk, r, E, (RF.seq q).mono (fun r1 q1 σ1 F1 H1 x1 k1 E1 => ?_) fun d r1 q1 => q1⟩
  refine ⟨F1, P, Lk, r1, E1, (q1.ext hW x1 (Sub.refl P) k1).mono (fun r2 q2 σ2 F2 H2 x2 k2 E2 => ?_) fun d r2 q2 v σ2 F2 H2 x2 k2 E2 => ?_⟩
  · exact q2 σ2 F2 H2 (x1.trans x2) (k1.trans k2) E2
  · exact q2 v σ2 F2 H2 (x1.trans x2) (k1.trans k2) E2
theorem ds_one {f : SS} (h1 : PS X st (tDS C W R G f G1)) : PSs X [st] (tDS C W R G f G1) := pss_one h1
theorem ds_le {f : SS} (hW : WK W R.pm) (k : leG G G1 = true) (h : PSs X sts (tDS C W R G1 f G')) : PSs X sts (tDS C W R G f G') := by
  refine PSs_weak h fun D σ H q => ?_
  obtain ⟨F, P, Lk, r, E, q⟩ := q
  obtain ⟨F1, x1, E1⟩ := E.le k
  refine ⟨F1, P, Lk, r, E1, (q.ext hW x1 (Sub.refl P) Keep.refl).mono (fun r2 q2 σ2 F2 H2 x2 k2 E2 => ?_) fun d r2 q2 v σ2 F2 H2 x2 k2 E2 => ?_⟩
  · exact q2 σ2 F2 H2 (x1.trans x2) k2 E2
  · exact q2 v σ2 F2 H2 (x1.trans x2) k2 E2
theorem ds_leR {f : SS} (k : leG G1 G2 = true) (h : PSs X sts (tDS C W R G f G1)) : PSs X sts (tDS C W R G f G2) := by
  refine PSs_weak h fun D σ H q => ?_
  obtain ⟨F, P, Lk, r, E, q⟩ := q
  refine ⟨F, P, Lk, r, E, q.mono (fun r1 q1 σ1 F1 H1 x1 k1 E1 => ?_) fun d r1 q1 => q1⟩
  obtain ⟨F2, x2, E2⟩ := E1.le k
  exact q1 σ1 F2 H1 (x1.trans x2) k1 E2
theorem d_le {f : SS} (hW : WK W R.pm) (k : leG G G1 = true) (h : PS X st (tDS C W R G1 f G')) : PS X st (tDS C W R G f G') := by
  refine PS_weak h fun D σ H q => ?_
  obtain ⟨F, P, Lk, r, E, q⟩ := q
  obtain ⟨F1, x1, E1⟩ := E.le k
  refine ⟨F1, P, Lk, r, E1, (q.ext hW x1 (Sub.refl P) Keep.refl).mono (fun r2 q2 σ2 F2 H2 x2 k2 E2 => ?_) fun d r2 q2 v σ2 F2 H2 x2 k2 E2 => ?_⟩
  · exact q2 σ2 F2 H2 (x1.trans x2) k2 E2
  · exact q2 v σ2 F2 H2 (x1.trans x2) k2 E2
theorem d_set {i : Nat} {x : Str} {o : O} {f : SE} {pos' : Pos} (hN : X.N.Nodup) (hi : X.N[i]? = some x) (hx : Loc X.env.scope x) (he : PE X e (tD C W G f o)) (hp : R.pm.contains i = false) (hG : i < G.length)
    (hs : swapsWith e (some (.Name x pos')) pos.line X.env = pure false := by rfl) (hf : X.fn x = true ∨ X.env.scope.names.lookup x = some .local := by first | exact .inl rfl | exact .inr rfl | assumption) :
    PS X (.Assign [.Name x pos'] e pos) (tDS C W R G (sAsg i f) (G.set i o)) := by
  refine PS_weak (ps_set hN hi hx he hs hf) fun D σ H q => ?_
  obtain ⟨F, P, Lk, r, E, q⟩ := q
  refine ⟨F, P, Lk, r, E, (RF.fl q).mono fun d r1 q1 v F1 H1 x1 E1 => ?_⟩
  have hl := E1.len
  exact q1 _ F1 H1 x1 (Keep.set (by simpa using hp)) (E1.put (by omega))
theorem d_drop {o : O} {f : SE} (he : PE X e (tD C W G f o)) (hs : swapsWith e none pos.line X.env = pure false := by rfl) : PS X (.Expr e pos) (tDS C W R G (sDrop f) G) := by
  refine PS_weak (ps_expr he hs) fun D σ H q => ?_
  obtain ⟨F, P, Lk, r, E, q⟩ := q
  refine ⟨F, P, Lk, r, E, (RF.fl q).mono fun d r1 q1 v F1 H1 x1 E1 => ?_⟩
  exact q1 _ F1 H1 x1 Keep.refl E1.drop
theorem d_ret {f : SE} (ha : agree R.m G R.Gs = true) (he : PE X e (tD C W G f R.o)) : PS X (.Return (some e) pos) (tDS C W R G (sRet f) G') := by
  refine PS_weak (ps_ret he) fun D σ H q => ?_
  obtain ⟨F, P, Lk, r, E, q⟩ := q
  refine ⟨F, P, Lk, r, E, (RF.fl q).mono fun d r1 q1 v F1 H1 x1 E1 => ?_⟩
  exact q1 v σ F1 H1 x1 Keep.refl (E1.ret ha)
theorem d_if {t : ST} {f g : SS} {as bs : List Stmt} (hW : WK W R.pm) (hc : PT X c (tDT C W G t)) (ha : PSs X as (tDS C W R G f G1)) (hb : PSs X bs (tDS C W R G g G1)) : PS X (.If c as bs pos) (tDS C W R G (sIf t f g) G1) := by
  refine PS_weak (ps_if hc ha hb) fun D σ H q => ?_
  obtain ⟨F, P, Lk, r, E, q⟩ := q
  refine ⟨F, P, Lk, r, E, (RF.fl q).mono fun b r1 q1 F1 H1 x1 E1 => ?_⟩
  cases b with
  | true =>
    rw [if_pos rfl] at q1 ⊢
    refine ⟨F1, P, Lk, r1, E1, (q1.ext hW x1 (Sub.refl P) Keep.refl).mono (fun r2 q2 σ2 F2 H2 x2 k2 E2 => ?_) fun d r2 q2 v σ2 F2 H2 x2 k2 E2 => ?_⟩
    · exact q2 σ2 F2 H2 (x1.trans x2) k2 E2
    · exact q2 v σ2 F2 H2 (x1.trans x2) k2 E2
  | false =>
    rw [if_neg Bool.false_ne_true] at q1 ⊢
    refine ⟨F1, P, Lk, r1, E1, (q1.ext hW x1 (Sub.refl P) Keep.refl).mono (fun r2 q2 σ2 F2 H2 x2 k2 E2 => ?_) fun d r2 q2 v σ2 F2 H2 x2 k2 E2 => ?_⟩
    · exact q2 σ2 F2 H2 (x1.trans x2) k2 E2
    · exact q2 v σ2 F2 H2 (x1.trans x2) k2 E2
/-- code that nothing is said of -/
theorem d_stk : PS X st (tDS C W R G sStk G') := ⟨fun _ _ _ _ _ _ h => by
  obtain ⟨F, P, Lk, r, E, q⟩ := h
  exact q.elim⟩
theorem d_pass : PS X (.Pass pos) (tDS C W R G sNx G) := by
  refine PS_weak ps_pass fun D σ H q => ?_
  obtain ⟨F, P, Lk, r, E, q⟩ := q
  exact q σ F H (Ext.refl F) Keep.refl E
end

/-! ### a def -/
inductive Out where
  | ok (d : D) (ds : DL.Env) | exc (c : Str) (fs : List (Str × D)) | stk
/-- a def's promise: shapes of the parameters, which go back, the value's shape -/
structure Sig where
  Gi : List O
  m : List Bool
  o : O
def spD (C : Cfg) (S : Sig) (mir : List D → Out) : Sp := fun vs H Q E => vs.length = S.Gi.length ∧ ∃ F P Lk ds L, EnvR S.Gi (ds.map some) (vs.map some) L ∧ Stt C F P Lk L H ∧ match mir ds with
  | .ok d ds' => ∀ v F' H', Ext F F' → (∃ L', EnvR S.Gi ds' (vs.map some) L' ∧ Stt C F' P Lk ((S.o, v, d) :: L') H') → Q v H'
  | .exc c fs => ∀ cls dct F' H', Ext F F' → Stt C F' P Lk [] H' → ExcO C F' H' c fs cls dct → E cls dct H'
  | .stk => False
/-- what a body computes; ft: may it come to its end -/
def mkF (ft : Bool) (n : Nat) (m : List Bool) (f : SS) : List D → Out := fun ds => match f (ds.map some ++ List.replicate n none) with
  | .nx r => if ft = true then .ok .non (maskE m r) else .stk
  | .rt d r => .ok d (maskE m r)
  | .exc c fs => .exc c fs
  | .stk => .stk
def pmOf : List Bool → Nat → List Nat
  | [], _ => []
  | b :: m, i => if b = true then i :: pmOf m (i + 1) else pmOf m (i + 1)
def Sig.rt (S : Sig) : Rt := ⟨S.m, S.Gi, S.o, pmOf S.m 0⟩
theorem pmOf_mem : ∀ {m : List Bool} {k i : Nat}, m[i]? = some true → k + i ∈ pmOf m k
  | [], k, i, h => by simp at h
  | b :: m, k, 0, h => by simp at h; subst h; simp [pmOf]
  | b :: m, k, i + 1, h => by
    have q := pmOf_mem (m := m) (k := k + 1) (i := i) (by simpa using h)
    have e : k + 1 + i = k + (i + 1) := by omega
    rw [e] at q
    unfold pmOf
    split
    · exact List.mem_cons_of_mem _ q
    · exact q
theorem maskE_none : ∀ {m : List Bool} {r : DL.Env} {i : Nat} {d : D}, (maskE m r)[i]? = some (some d) → m[i]? = some true
  | [], r, i, d, h => by simp [maskE] at h
  | b :: m, [], i, d, h => by simp [maskE] at h
  | b :: m, x :: r, 0, d, h => by
    simp only [maskE, List.getElem?_cons_zero, Option.some.injEq] at h
    cases b with
    | true => rfl
    | false => simp at h
  | b :: m, x :: r, i + 1, d, h => by
    have h' : (maskE m r)[i]? = some (some d) := by simpa [maskE] using h
    simpa using maskE_none h'
/-- slots with nothing in them may hold what they like -/
theorem EnvR.slots {G : List O} {r : DL.Env} {σ σ' : L2.St} {L : List Cell} (h : EnvR G r σ L) : σ'.length = σ.length → (∀ (i : Nat) (d : D), r[i]? = some (some d) → σ'[i]? = σ[i]?) → EnvR G r σ' L := by
  induction h generalizing σ' with
  | nil =>
    intro hl _
    cases σ' with
    | nil => exact .nil
    | cons _ _ => simp at hl
  | @skip o s G r t L h ih =>
    intro hl k
    cases σ' with
    | nil => simp at hl
    | cons s' t' => exact .skip (ih (by simpa using hl) fun i d e => by simpa using k (i + 1) d (by simpa using e))
  | @«have» o v d G r t L h ih =>
    intro hl k
    cases σ' with
    | nil => simp at hl
    | cons s' t' =>
      have e := k 0 d (by simp)
      simp at e
      subst e
      exact .have (ih (by simpa using hl) fun i d e => by simpa using k (i + 1) d (by simpa using e))
theorem EnvR.pad {G : List O} {r : DL.Env} {σ : L2.St} {L : List Cell} (h : EnvR G r σ L) (n : Nat) : EnvR (G ++ List.replicate n .z) (r ++ List.replicate n none) (σ ++ List.replicate n none) L := by
  induction h with
  | nil =>
    show EnvR (List.replicate n O.z) (List.replicate n none) (List.replicate n none) []
    induction n with
    | zero => exact .nil
    | succ n ih => exact .skip ih
  | skip h ih => exact .skip ih
  | «have» h ih => exact .have ih

section
variable {P : Program} {w : World} {K : PySem.W.Frag} {mg : Str → Option Value} {base : Heap}
/-- the body's context: what the rules lean on -/
structure Bdy (C : Cfg) (X : Cx) (W : WX) (k : Nat) : Prop where
  hK : X.K = C.K
  tk : Takes X W
  po : PassesOwn (model X.prog X.w) X.A X.env X.xe
  cm : X.calm = true
  hr : Room k X.A
/-- THE RULE for a def: its body computes f -/
theorem fn_mk {x qual : Str} {st : Stmt} {f : Addr} {fd : FuncData} {N ps : List Str} {k : Nat} {S : Sig} {ft : Bool} {n : Nat} {body : SS} {G' : List O} (hC : C.K = K) (Fn : Fun K x qual st f fd) (Sc : FnScope N ps (defScope st))
    (hl : S.Gi.length = ps.length) (hn : N.length = ps.length + n) (hm : S.m.length = ps.length) (hft : ft = true → S.o = .z ∧ agree S.m G' S.Gi = true)
    (hb : ∀ (X : Cx) (E : XK) (W : WX), W = (fun c d _ H => E c d H) → X.prog = P → X.w = w → X.mg = mg → X.base = base → X.N = N → X.env.scope = defScope st → X.fn = (fun _ => true) → Bdy C X W k → X.stack = X.env :: X.outer → X.env.frame = some X.env.locals →
      PSs X (defBody st) (tDS C W S.rt (S.Gi ++ List.replicate n .z) body G')) :
    FnOk P w K mg base (L2.CX P w) (k + 1) f fd ps (spD C S (mkF ft n S.m body)) := by
  refine okG Fn Sc (fun vs H Q E h => by rw [h.1, hl]) fun cdv A outer s H vs Q E hr h => ?_
  obtain ⟨hv, F, Pp, Lk, ds, L, E0, S0, h⟩ := h
  have B := hb (cxOf (L2.CX P w) P w K mg base N qual (defScope st) f cdv A outer s H E) E (fun c d _ H => E c d H) rfl rfl rfl rfl rfl rfl rfl rfl
    ⟨hC.symm, takes_of rfl rfl rfl rfl, passes_of rfl, rfl, hr⟩ rfl rfl
  refine ⟨_, B, F, Pp, Lk, ds.map some ++ List.replicate n none, ⟨L, ?_, S0⟩, ?_⟩
  · have e : L2.start N vs = vs.map some ++ List.replicate n none := by
      unfold L2.start
      rw [hn, hv, hl, Nat.add_sub_cancel_left]
    rw [e]
    exact E0.pad n
  · have fin : ∀ (v : V) (d : D) (r' : DL.Env) (σ' : L2.St) (F' H' : Hp), Keep S.rt.pm (L2.start N vs) σ' → RetX C F' Pp Lk S.m S.Gi S.o v d r' σ' H' → ∃ L', EnvR S.Gi (maskE S.m r') (vs.map some) L' ∧ Stt C F' Pp Lk ((S.o, v, d) :: L') H' := by
      rintro v d r' σ' F' H' kp ⟨L', e, s⟩
      refine ⟨L', e.slots ?_ fun i d q => ?_, s⟩
      · have z := e.len
        rw [List.length_map, hv, z.1, z.2]
      · have mi := maskE_none q
        have il : i < S.m.length := (List.getElem?_eq_some_iff.mp mi).1
        have pm : i ∈ S.rt.pm := by
          have := pmOf_mem (k := 0) mi
          simpa [Sig.rt] using this
        have z := kp i pm
        rw [List.getElem?_take_of_lt il, z]
        unfold L2.start
        rw [List.getElem?_append_left (by rw [List.length_map, hv, hl, ← hm]; exact il)]
    unfold mkF at h
    cases hf : body (ds.map some ++ List.replicate n none) with
    | nx r' =>
      rw [hf] at h
      dsimp only at h
      cases ft with
      | false => exact h.elim
      | true =>
        rw [if_pos rfl] at h
        obtain ⟨ho, ha⟩ := hft rfl
        intro σ' F' H' x1 k1 E1
        refine h .non F' H' x1 (fin _ _ _ σ' _ _ k1 ?_)
        have E2 : EnvX C [(S.rt.o, V.non, D.non)] F' Pp Lk G' r' σ' H' := by
          have : S.rt.o = .z := ho
          rw [this]
          exact E1.zcons .non
        exact E2.ret (R := S.rt) ha
    | rt d r' =>
      rw [hf] at h
      exact fun v σ' F' H' x1 k1 E1 => h v F' H' x1 (fin _ _ _ σ' _ _ k1 E1)
    | exc c fs =>
      rw [hf] at h
      exact h
    | stk =>
      rw [hf] at h
      exact h
end

/-! ### calls -/
/-- arguments, some of them local names that are handed over -/
def tDM (C : Cfg) (W : WX) (G : List O) (f : SA) (mv : List (Option Nat)) (os : List O) : TA := fun σ H Q => ∃ F P Lk r, EnvX C [] F P Lk G r σ H ∧
  RD C W F P Lk σ (f r) fun ds r' => ∀ vs F' H' La, Ext F F' → EnvR os (ds.map some) (vs.map some) La → EnvX C La F' P Lk G r' σ H' → (∀ (j i : Nat), mv[j]? = some (some i) → ∃ v : V, vs[j]? = some v ∧ σ[i]? = some (some v) ∧ r'[i]? = some none) → Q vs H'
/-- a local name that is handed over -/
def mMv (i : Nat) (k : SA) : SA := fun r => match r[i]? with
  | some (some d) => (k (r.set i none)).bind fun ds r' => match r'[i]? with
    | some none => .ok (d :: ds) r'
    | _ => .stk
  | _ => .stk
section
variable {X : Cx} {W : WX} {G : List O} {e : Expr} {es : List Expr} {pos : Pos}
theorem dm_nil : PA X [] (tDM C W G aNil [] []) := by
  refine PA_weak pa_nil fun σ H Q q => ?_
  obtain ⟨F, P, Lk, r, E, q⟩ := q
  exact q [] F H [] (Ext.refl F) .nil E (fun j i h => by simp at h)
theorem dm_cons {f : SE} {k : SA} {mv : List (Option Nat)} {os : List O} {o : O} (ha : PE X e (tD C W G f o)) (hr : PA X es (tDM C W G k mv os)) (hs : starEach (e :: es) X.env = (false, eval e X.env) :: starEach es X.env := by rfl) :
    PA X (e :: es) (tDM C W G (aCons f k) (none :: mv) (o :: os)) := by
  refine PA_weak (pa_cons ha hr hs) fun σ H Q q => ?_
  obtain ⟨F, P, Lk, r, E, q⟩ := q
  refine ⟨F, P, Lk, r, E, (RD.bind q).mono fun dx r1 q1 x F1 H1 x1 E1 => ?_⟩
  obtain ⟨P', E1', eP, unp⟩ := E1.park
  refine ⟨F1, P', Lk, r1, E1', (RD.bind (q1.ext x1 eP)).mono fun ds r2 q2 vs F2 H2 La x2 R2 E2 mv2 => ?_⟩
  have E3 := unp F2 H2 Lk La G r2 σ x2 E2
  refine q2 (x :: vs) F2 H2 ((o, x, dx) :: La) (x1.trans x2) (.have R2) E3 fun j i h => ?_
  cases j with
  | zero => simp at h
  | succ j =>
    obtain ⟨v, h1, h2⟩ := mv2 j i (by simpa using h)
    exact ⟨v, by simpa using h1, h2⟩
theorem dm_mv {i : Nat} {x : Str} {p : Pos} {k : SA} {mv : List (Option Nat)} {os : List O} {o : O} (hG : G[i]? = some o) (hN : X.N[i]? = some x) (hv : Vis X.env.scope x) (hr : PA X es (tDM C W G k mv os))
    (hd : (x == ("__debug__" : Str)) = false := by decide) (hcd : (x == ("__classdict__" : Str)) = false := by decide) (hs : starEach (.Name x p :: es) X.env = (false, eval (.Name x p) X.env) :: starEach es X.env := by rfl) :
    PA X (.Name x p :: es) (tDM C W G (mMv i k) (some i :: mv) (o :: os)) := by
  refine PA_weak (pa_cons (pe_var hN hv hd hcd) hr hs) fun σ H Q q => ?_
  obtain ⟨F, P, Lk, r, E, q⟩ := q
  unfold mMv at q
  split at q
  · rename_i d hd
    obtain ⟨v, h1, E1⟩ := E.take hd hG
    obtain ⟨P', E1', eP, unp⟩ := E1.park
    refine ⟨v, h1, F, P', Lk, _, E1', (RD.bind (q.ext (Ext.refl F) eP)).mono fun ds r2 q2 vs F2 H2 La x2 R2 E2 mv2 => ?_⟩
    split at q2
    · rename_i hr2
      have E3 := unp F2 H2 Lk La G r2 σ x2 E2
      refine q2 (v :: vs) F2 H2 ((o, v, d) :: La) x2 (.have R2) E3 fun j i' h => ?_
      cases j with
      | zero => simp at h; subst h; exact ⟨v, rfl, h1, hr2⟩
      | succ j =>
        obtain ⟨v, h1, h2⟩ := mv2 j i' (by simpa using h)
        exact ⟨v, by simpa using h1, h2⟩
    · exact q2.elim
  · exact q.elim
/-- what was handed over comes back -/
def wb : List (Option Nat) → DL.Env → DL.Env → DL.Env
  | some i :: mv, x :: xs, r => wb mv xs (r.set i x)
  | none :: mv, _ :: xs, r => wb mv xs r
  | _, _, r => r
def eCall (mir : List D → Out) (mv : List (Option Nat)) (k : SA) : SE := fun r => (k r).bind fun ds r1 => match mir ds with
  | .ok d ds' => .ok d (wb mv ds' r1)
  | .exc c fs => .exc c fs
  | .stk => .stk
/-- the shapes that are handed over fit the slots; no slot twice -/
def mvOk (G : List O) : List (Option Nat) → List O → Bool
  | [], [] => true
  | some i :: mv, o :: os => decide (G[i]? = some o) && !(mv.contains (some i)) && mvOk G mv os
  | none :: mv, _ :: os => mvOk G mv os
  | _, _ => false
theorem wb_ok {F P H : Hp} {Lk : Lock} {σ : L2.St} : ∀ {mv : List (Option Nat)} {os : List O} {ds' : DL.Env} {vs : List V} {La T : List Cell} {r : DL.Env}, mvOk G mv os = true → EnvR os ds' (vs.map some) La →
    (∀ (j i : Nat), mv[j]? = some (some i) → ∃ v : V, vs[j]? = some v ∧ σ[i]? = some (some v) ∧ r[i]? = some none) → EnvX C (T ++ La) F P Lk G r σ H → EnvX C T F P Lk G (wb mv ds' r) σ H
  | [], os, ds', vs, La, T, r, a, e, m, E => by
    cases os with
    | nil =>
      cases vs with
      | nil => cases e; simpa [wb] using E
      | cons _ _ => cases e
    | cons _ _ => simp [mvOk] at a
  | none :: mv, os, ds', vs, La, T, r, a, e, m, E => by
    cases os with
    | nil => simp [mvOk] at a
    | cons o os =>
      have a' : mvOk G mv os = true := by simpa [mvOk] using a
      have m' : ∀ (x : V) (vt : List V), vs = x :: vt → ∀ (j i : Nat), mv[j]? = some (some i) → ∃ v : V, vt[j]? = some v ∧ σ[i]? = some (some v) ∧ r[i]? = some none := fun x vt ev j i h => by
        obtain ⟨v, h1, h2⟩ := m (j + 1) i (by simpa using h)
        exact ⟨v, by rw [ev] at h1; simpa using h1, h2⟩
      cases vs with
      | nil => cases e
      | cons x vt =>
        cases e with
        | skip e => exact wb_ok (mv := mv) a' e (m' x vt rfl) E
        | «have» e =>
          refine wb_ok (mv := mv) a' e (m' x vt rfl) ?_
          exact (E.perm List.perm_middle).drop
  | some i :: mv, os, ds', vs, La, T, r, a, e, m, E => by
    cases os with
    | nil => simp [mvOk] at a
    | cons o os =>
      simp only [mvOk, Bool.and_eq_true, decide_eq_true_eq, Bool.not_eq_true'] at a
      obtain ⟨⟨g, nc⟩, a'⟩ := a
      obtain ⟨v, h1, h2, h3⟩ := m 0 i rfl
      cases vs with
      | nil => simp at h1
      | cons x vt =>
        have ex : x = v := by simpa using h1
        subst ex
        have ne : ∀ (j i' : Nat), mv[j]? = some (some i') → i' ≠ i := fun j i' h z => by
          subst z
          have : some i' ∈ mv := List.mem_of_getElem? h
          rw [List.contains_iff_mem.mpr this] at nc
          cases nc
        have m' : ∀ (y : Option D), ∀ (j i' : Nat), mv[j]? = some (some i') → ∃ v : V, vt[j]? = some v ∧ σ[i']? = some (some v) ∧ (r.set i y)[i']? = some none := fun y j i' h => by
          obtain ⟨v, h1, h2, h3⟩ := m (j + 1) i' (by simpa using h)
          refine ⟨v, by simpa using h1, h2, ?_⟩
          rw [List.getElem?_set_ne (Ne.symm (ne j i' h))]
          exact h3
        cases e with
        | skip e =>
          refine wb_ok (mv := mv) (r := r.set i none) a' e (m' none) ?_
          have er : r.set i none = r := by
            apply List.ext_getElem?
            intro j
            by_cases hj : j = i
            · subst hj
              rw [List.getElem?_set_self (List.getElem?_eq_some_iff.mp h3).1, h3]
            · rw [List.getElem?_set_ne (Ne.symm hj)]
          rw [er]
          exact E
        | @«have» _ _ d _ _ _ L e =>
          refine wb_ok (mv := mv) (r := r.set i (some d)) a' e (m' (some d)) ?_
          exact EnvX.back (E.perm List.perm_middle) h3 g h2
theorem callD {S : Sig} {mir : List D → Out} {mv : List (Option Nat)} {k : SA} {E : XK} {t : TA} (hW : ∀ c d σ H, W c d σ H → E c d H) (hmv : mvOk G mv S.Gi = true) (ka : ∀ σ H Q, tDM C W G k mv S.Gi σ H Q → t σ H Q) {σ : L2.St} {H : Hp} {Q : VK}
    (q : tD C W G (eCall mir mv k) S.o σ H Q) : t σ H fun vs H1 => spD C S mir (vs ++ []) H1 Q E := by
  obtain ⟨F, P, Lk, r, En, q⟩ := q
  refine ka _ _ _ ⟨F, P, Lk, r, En, (RD.bind q).mono fun ds r1 q1 vs F1 H1 La x1 R1 E1 m1 => ?_⟩
  show spD C S mir (vs ++ []) H1 Q E
  rw [List.append_nil]
  have hl : vs.length = S.Gi.length := by
    have z := R1.len
    rw [List.length_map, List.length_map] at z
    omega
  obtain ⟨Le, eL, sL⟩ := E1
  obtain ⟨P', S', eP, unp⟩ := Stt.park (M := Le) (L := La) (sL.perm List.perm_append_comm)
  refine ⟨hl, F1, P', Lk, ds, La, R1, S', ?_⟩
  cases hm : mir ds with
  | stk => rw [hm] at q1; exact q1.elim
  | exc c fs =>
    rw [hm] at q1
    exact fun cls dct F' H' x' s' xo => hW _ _ σ _ (q1 cls dct F' H' (x1.trans x') (s'.subP eP) xo)
  | ok d ds' =>
    rw [hm] at q1
    rintro v F' H' x' ⟨L', R', S2⟩
    refine q1 v F' H' (x1.trans x') ?_
    have S3 := unp F' H' Lk _ x' S2
    have E3 : EnvX C ([(S.o, v, d)] ++ L') F' P Lk G r1 σ H' := ⟨Le, eL, S3.perm (List.perm_append_comm (l₁ := Le) (l₂ := (S.o, v, d) :: L'))⟩
    exact wb_ok hmv R' m1 E3
theorem de_call {S : Sig} {mir : List D → Out} {mv : List (Option Nat)} {k : SA} {j kk : Nat} {f : Addr} {fd : FuncData} {ps : List Str} {x : Str} {p : Pos} {E : XK} (Fn : FnOk X.prog X.w X.K X.mg X.base (L2.CX X.prog X.w) j f fd ps (spD C S mir)) (hr : Room kk X.A) (hj : j ≤ kk) (hg : Gl X x) (hm : X.mg x = some (.ref f)) (hk : PySem.W.keepIn X.K (.ref f) = true) (hb : Binds X.K fd ps [])
    (tk : Takes X W) (hW : W = fun c d _ H => E c d H) (hmv : mvOk G mv S.Gi = true) (ha : PA X (e :: es) (tDM C W G k mv S.Gi)) (hdb : (x == ("__debug__" : Str)) = false := by decide) (he : starEach (e :: es) X.env = (false, eval e X.env) :: starEach es X.env := by rfl) (hpl : (backTo pos (starEach es X.env)).any (·.1) = false := by rfl) :
    PE X (.Call (.Name x p) (e :: es) [] pos) (tD C W G (eCall mir mv k) S.o) := by
  subst hW
  exact PE_weak (pe_call (E := E) Fn (hr.mono hj) hg hm hk hb .nil (passes_call tk fun _ _ _ _ h => h) ha hdb he hpl) fun σ H Q q => callD (C := C) (W := fun c d _ H => E c d H) (E := E) (fun _ _ _ _ h => h) hmv (fun _ _ _ h => h) q
end
end DL
set_option Elab.async false
set_option linter.all false
set_option autoImplicit false
set_option maxHeartbeats 1000000
/-! the data layer, part 4: operations by values -/
namespace DL
open PySem PySem.Spec PyProof.Rows L2

/-! ### data as the library's data -/
mutual
def toPy : D → Option PyData
  | .non => some .none
  | .bl b => some (.bool b)
  | .int i => some (.int i)
  | .str x => some (.str x)
  | .lst xs => (toPyL xs).map .list
  | .tup xs => (toPyL xs).map .tuple
  | .ktup xs => (toPyL xs).map .tuple
  | .klst xs => (toPyL xs).map .list
  | .dct _ _ => none
  | .ins _ _ => none
  | .opq _ => none
def toPyL : List D → Option (List PyData)
  | [] => some []
  | x :: xs => match toPy x, toPyL xs with
    | some a, some b => some (a :: b)
    | _, _ => none
end
def shp (d : D) : Option PyData := (toPy d).bind fun p => if SeqAt.shaped p = true then some p else none
def eqD (x y : D) : Option Bool := match shp x, shp y with
  | some a, some b => some (PyData.eqv a b)
  | _, _ => none
def anyEq (x : PyData) (ys : List PyData) : Bool := ys.any fun z => PyData.eqv z x

variable {C : Cfg}
section
variable {F P H : Hp} {Lk : Lock} {L : List Cell} {K : PySem.W.Frag}
mutual
theorem Rep.dp (S : Stt C F P Lk L H) : ∀ {v : V} {d : D} {p : PyData}, Rep C F v d → toPy d = some p → Dp C.K H v p
  | _, _, _, .non, e => by cases e; exact .non
  | _, _, _, .bl b, e => by cases e; exact .bl b
  | _, _, _, .int b, e => by cases e; exact .int b
  | _, _, _, .str b, e => by cases e; exact .str b
  | _, _, _, .opq b, e => by simp [toPy] at e
  | _, _, p, .lst (ds := ds) h r, e => by
    cases q : toPyL ds with
    | none => simp [toPy, q] at e
    | some ps =>
      simp [toPy, q] at e
      subst e
      exact .lst (.inl (S.rdL h)) (RepL.dp S r q)
  | _, _, p, .tup (ds := ds) h r, e => by
    cases q : toPyL ds with
    | none => simp [toPy, q] at e
    | some ps =>
      simp [toPy, q] at e
      subst e
      exact .tup (SqT.of (S.tup h)) (RepL.dp S r q)
  | _, _, p, .ktup (ds := ds) h r, e => by
    cases q : toPyL ds with
    | none => simp [toPy, q] at e
    | some ps =>
      simp [toPy, q] at e
      subst e
      exact .tup (sqT_k h) (RepL.dp S r q)
  | _, _, p, .klst (ds := ds) h r, e => by
    cases q : toPyL ds with
    | none => simp [toPy, q] at e
    | some ps =>
      simp [toPy, q] at e
      subst e
      exact .lst (sqL_k h) (RepL.dp S r q)
  | _, _, _, .dK h r, e => by simp [toPy] at e
  | _, _, _, .dT h r, e => by simp [toPy] at e
  | _, _, _, .ins h c r, e => by simp [toPy] at e
theorem RepL.dp (S : Stt C F P Lk L H) : ∀ {vs : List V} {ds : List D} {ps : List PyData}, RepL C F vs ds → toPyL ds = some ps → DpAll C.K H vs ps
  | _, _, _, .nil, e => by simp [toPyL] at e; subst e; exact .nil
  | _, _, _, .cons (d := d) (ds := ds) h r, e => by
    cases q : toPy d with
    | none => simp [toPyL, q] at e
    | some a =>
      cases q2 : toPyL ds with
      | none => simp [toPyL, q, q2] at e
      | some b =>
        simp [toPyL, q, q2] at e
        subst e
        exact .cons (Rep.dp S h q) (RepL.dp S r q2)
end
theorem shp_of {d : D} {p : PyData} (h : shp d = some p) : toPy d = some p ∧ SeqAt.shaped p = true := by
  unfold shp at h
  cases q : toPy d with
  | none => rw [q] at h; cases h
  | some a =>
    rw [q] at h
    have h : (if SeqAt.shaped a = true then some a else none) = some p := h
    split at h
    · rename_i z; cases h; exact ⟨rfl, z⟩
    · cases h
end

section
variable {X : Cx}
/-- a value op -/
def gB (f : D → D → Option Bool) : D → D → Option D := fun x y => (f x y).map .bl
theorem gB_some {f : D → D → Option Bool} {x y z : D} (h : gB f x y = some z) : ∃ b, f x y = some b ∧ z = .bl b := by
  unfold gB at h
  cases q : f x y with
  | none => rw [q] at h; cases h
  | some b => rw [q] at h; cases h; exact ⟨b, rfl, rfl⟩
theorem op_eq_D (hK : X.K = C.K) (hu : X.A.units + 64 < cLine) : OpR X (compareOp .Eq) (rO2 C (gB eqD) .z) := by
  intro pins s σ H x y v u Q I rx ry ⟨F, P, Lk, L, dx, dy, dz, S, hx, hy, e, k⟩
  obtain ⟨b, e1, e2⟩ := gB_some e
  clear e
  subst e2
  have e := e1
  unfold eqD at e
  split at e
  · rename_i a b h1 h2
    obtain ⟨t1, s1⟩ := shp_of h1
    obtain ⟨t2, s2⟩ := shp_of h2
    cases e
    exact op_eqD hu pins s σ H x y v u Q I rx ry ⟨_, _, by rw [hK]; exact hx.dp S t1, by rw [hK]; exact hy.dp S t2, s1, s2, k _ F H (Ext.refl F) (S.zcons (.bl _))⟩
  · cases e
def neD (x y : D) : Option Bool := (eqD x y).map (!·)
theorem op_ne_D (hK : X.K = C.K) (hu : X.A.units + 64 < cLine) : OpR X (compareOp .NotEq) (rO2 C (gB neD) .z) := by
  intro pins s σ H x y v u Q I rx ry ⟨F, P, Lk, L, dx, dy, dz, S, hx, hy, e, k⟩
  obtain ⟨b, e1, e2⟩ := gB_some e
  clear e
  subst e2
  have e := e1
  unfold neD eqD at e
  split at e
  · rename_i a b h1 h2
    obtain ⟨t1, s1⟩ := shp_of h1
    obtain ⟨t2, s2⟩ := shp_of h2
    cases e
    exact op_neD hu pins s σ H x y v u Q I rx ry ⟨_, _, by rw [hK]; exact hx.dp S t1, by rw [hK]; exact hy.dp S t2, s1, s2, k _ F H (Ext.refl F) (S.zcons (.bl _))⟩
  · cases e

/-! ### ints -/
theorem rep_int {F : Hp} {v : V} {i : Int} (h : Rep C F v (.int i)) : v = .int i := by cases h; rfl
theorem rep_str {F : Hp} {v : V} {i : Str} (h : Rep C F v (.str i)) : v = .str i := by cases h; rfl
theorem rep_bl {F : Hp} {v : V} {i : Bool} (h : Rep C F v (.bl i)) : v = .bl i := by cases h; rfl
theorem rep_non {F : Hp} {v : V} (h : Rep C F v .non) : v = .non := by cases h; rfl
def iB (p : Int → Int → Bool) : D → D → Option Bool
  | .int i, .int j => some (p i j)
  | _, _ => none
theorem op_cmpI {op : CmpOp} {p : Int → Int → Bool} (h : OpR X (compareOp op) (rI0 fun i j => .bl (p i j))) : OpR X (compareOp op) (rO2 C (gB (iB p)) .z) := by
  intro pins s σ H x y v u Q I rx ry ⟨F, P, Lk, L, dx, dy, dz, S, hx, hy, e, k⟩
  obtain ⟨b, e1, e2⟩ := gB_some e
  clear e
  subst e2
  have e := e1
  unfold iB at e
  split at e
  · cases e
    exact h pins s σ H x y v u Q I rx ry ⟨_, _, rep_int hx, rep_int hy, k _ F H (Ext.refl F) (S.zcons (.bl _))⟩
  · cases e
/-- < of ints, texts, tuples of ints -/
def intsD : List D → Option (List Int)
  | [] => some []
  | .int i :: xs => (intsD xs).map (i :: ·)
  | _ :: _ => none
theorem intsD_rep {F : Hp} : ∀ {ds : List D} {vs : List V} {ns : List Int}, RepL C F vs ds → intsD ds = some ns → vs = ns.map V.int
  | [], _, _, .nil, e => by cases e; rfl
  | d :: ds, _, ns, .cons h r, e => by
    cases d <;> simp only [intsD] at e <;> try (cases e; done)
    rename_i i
    cases q : intsD ds with
    | none => rw [q] at e; cases e
    | some ms =>
      rw [q] at e
      cases e
      rw [rep_int h, intsD_rep r q]
      rfl
def ltD : D → D → Option Bool
  | .int i, .int j => some (decide (i < j))
  | .str a, .str b => some (decide (a.cps.toList < b.cps.toList))
  | .tup xs, .tup ys => match intsD xs, intsD ys with
    | some ns, some ms => some (HT.lexLt ns ms)
    | _, _ => none
  | _, _ => none
theorem op_lt_D (hK : X.K = C.K) (hu : X.A.units < cLine) : OpR X (compareOp .Lt) (rO2 C (gB ltD) .z) := by
  intro pins s σ H x y v u Q I rx ry ⟨F, P, Lk, L, dx, dy, dz, S, hx, hy, e, k⟩
  obtain ⟨b, e1, e2⟩ := gB_some e
  clear e
  subst e2
  have e := e1
  unfold ltD at e
  split at e
  · cases e
    exact op_lt pins s σ H x y v u Q I rx ry ⟨_, _, rep_int hx, rep_int hy, k _ F H (Ext.refl F) (S.zcons (.bl _))⟩
  · cases e
    exact op_lt_str pins s σ H x y v u Q I rx ry ⟨_, _, rep_str hx, rep_str hy, k _ F H (Ext.refl F) (S.zcons (.bl _))⟩
  · split at e
    · rename_i ns ms h1 h2
      cases e
      cases hx with
      | tup a r1 =>
        cases hy with
        | tup b r2 =>
          have z1 := intsD_rep r1 h1
          have z2 := intsD_rep r2 h2
          subst z1 z2
          exact op_ltT hu pins s σ H _ _ v u Q I rx ry ⟨_, _, ns, ms, rfl, rfl, SqT.of (S.tup a), SqT.of (S.tup b), k _ F H (Ext.refl F) (S.zcons (.bl _))⟩
    · cases e
  · cases e
theorem op_binI {op : Operator} {cd : Int → Int → Prop} [DecidableRel cd] {p : Int → Int → Int} (h : OpR X (binaryOp op) (rI cd fun i j => .int (p i j))) :
    OpR X (binaryOp op) (rO2 C (fun a b => match a, b with | .int i, .int j => if cd i j then some (.int (p i j)) else none | _, _ => none) .z) := by
  intro pins s σ H x y v u Q I rx ry ⟨F, P, Lk, L, dx, dy, dz, S, hx, hy, e, k⟩
  dsimp only at e
  split at e
  · split at e
    · rename_i hc
      cases e
      exact h pins s σ H x y v u Q I rx ry ⟨_, _, rep_int hx, rep_int hy, hc, k _ F H (Ext.refl F) (S.zcons (.int _))⟩
    · cases e
  · cases e
instance : DecidableRel CDiv := fun i j => by unfold CDiv; infer_instance
instance : DecidableRel CMul := fun i j => by unfold CMul; infer_instance
instance : DecidableRel CPow := fun i j => by unfold CPow; infer_instance
def subD : D → D → Option D
  | .int i, .int j => some (.int (i - j))
  | _, _ => none
theorem op_sub_D : OpR X (binaryOp .Sub) (rO2 C subD .z) := by
  intro pins s σ H x y v u Q I rx ry ⟨F, P, Lk, L, dx, dy, dz, S, hx, hy, e, k⟩
  unfold subD at e
  split at e
  · cases e
    exact op_sub pins s σ H x y v u Q I rx ry ⟨_, _, rep_int hx, rep_int hy, k _ F H (Ext.refl F) (S.zcons (.int _))⟩
  · cases e
def modD : D → D → Option D
  | .int i, .int j => if 0 < j then some (.int (i % j)) else none
  | _, _ => none
theorem op_mod_D : OpR X (binaryOp .Mod) (rO2 C modD .z) := by
  intro pins s σ H x y v u Q I rx ry ⟨F, P, Lk, L, dx, dy, dz, S, hx, hy, e, k⟩
  unfold modD at e
  split at e
  · split at e
    · rename_i hc
      cases e
      exact op_mod pins s σ H x y v u Q I rx ry ⟨_, _, rep_int hx, rep_int hy, hc, k _ F H (Ext.refl F) (S.zcons (.int _))⟩
    · cases e
  · cases e
def fdivD : D → D → Option D
  | .int i, .int j => if 0 < j ∧ j < 1073741824 then some (.int (i / j)) else none
  | _, _ => none
theorem op_fdiv_D : OpR X (binaryOp .FloorDiv) (rO2 C fdivD .z) := by
  intro pins s σ H x y v u Q I rx ry ⟨F, P, Lk, L, dx, dy, dz, S, hx, hy, e, k⟩
  unfold fdivD at e
  split at e
  · split at e
    · rename_i hc
      cases e
      exact op_fdiv pins s σ H x y v u Q I rx ry ⟨_, _, rep_int hx, rep_int hy, hc, k _ F H (Ext.refl F) (S.zcons (.int _))⟩
    · cases e
  · cases e
def powD : D → D → Option D
  | .int i, .int j => if 0 ≤ j ∧ j ≤ 1000000 ∧ i.natAbs < 2 ^ 64 then some (.int (i ^ j.toNat)) else none
  | _, _ => none
theorem op_pow_D : OpR X (binaryOp .Pow) (rO2 C powD .z) := by
  intro pins s σ H x y v u Q I rx ry ⟨F, P, Lk, L, dx, dy, dz, S, hx, hy, e, k⟩
  unfold powD at e
  split at e
  · split at e
    · rename_i hc
      cases e
      exact op_pow pins s σ H x y v u Q I rx ry ⟨_, _, rep_int hx, rep_int hy, hc, k _ F H (Ext.refl F) (S.zcons (.int _))⟩
    · cases e
  · cases e

/-! ### lists: +, * -/
theorem lstRd {pins : List (Addr × Obj)} {σ : L2.St} {H : Hp} {s : Shared} {l : Addr} {xs : List V} (I : Inv X pins σ H s) (h : Rd H l (.lst xs)) :
    xs.length ≤ sizeLine ∧ ∃ (its : List Value) (n : Nat), Vals xs its ∧ xs.length = its.length ∧ s.heap.get? l = some { cls := .type "list", data := .seq its.toArray n } := by
  obtain ⟨z, its, n, r, e⟩ := h.ok I.hok
  exact ⟨z, its, n, r, r.length, e⟩
theorem catL {pins : List (Addr × Obj)} {σ : L2.St} {H : Hp} {s : Shared} {l b : Addr} {xs zs : List V} {Q : VK} (I : Inv X pins σ H s) (h1 : Rd H l (.lst xs)) (h2 : Rd H b (.lst zs)) (hz : xs.length + zs.length ≤ sizeLine)
    (q : ∀ p, H p = none → Q (.ref p) (upd H p (.lst (xs ++ zs)))) : wpAny (model X.prog X.w) X.A (binaryOp .Add (.ref l) (.ref b)) (EP X pins σ Q) X.xe s := by
  obtain ⟨z, its, n, r, hl, e⟩ := lstRd I h1
  obtain ⟨z2, its2, n2, r2, hl2, e2⟩ := lstRd I h2
  refine PySem.P.add_list e e2 ?_ (by rw [List.size_toArray, List.size_toArray]; omega)
  have ea : its.toArray ++ its2.toArray = (its ++ its2).toArray := by simp
  rw [ea]
  exact ⟨.ref _, _, I.lnew (t' := s.toks) (r.append r2) (by rw [List.length_append]; omega), rfl, q _ I.fresh⟩
def addD : D → D → Option D
  | .int i, .int j => some (.int (i + j))
  | .int i, .bl j => some (.int (i + b2i j))
  | .str a, .str b => if a.length + b.length ≤ sizeLine then some (.str (a ++ b)) else none
  | .lst xs, .lst ys => if xs.length + ys.length ≤ sizeLine then some (.lst (xs ++ ys)) else none
  | .tup xs, .tup ys => if xs.length + ys.length ≤ sizeLine then some (.tup (xs ++ ys)) else none
  | _, _ => none
theorem op_add_D (hK : X.K = C.K) : OpR X (binaryOp .Add) (rO2 C addD .z) := by
  intro pins s σ H x y v u Q I rx ry ⟨F, P, Lk, L, dx, dy, dz, S, hx, hy, e, k⟩
  unfold addD at e
  split at e
  · cases e
    exact op_add pins s σ H x y v u Q I rx ry ⟨_, _, rep_int hx, rep_int hy, k _ F H (Ext.refl F) (S.zcons (.int _))⟩
  · cases e
    exact op_add_ib pins s σ H x y v u Q I rx ry ⟨_, _, rep_int hx, rep_bl hy, k _ F H (Ext.refl F) (S.zcons (.int _))⟩
  · split at e
    · rename_i hc
      cases e
      exact op_add_str pins s σ H x y v u Q I rx ry ⟨_, _, rep_str hx, rep_str hy, hc, k _ F H (Ext.refl F) (S.zcons (.str _))⟩
    · cases e
  · split at e
    · rename_i hc
      cases e
      cases hx with
      | lst h1 r1 =>
        cases hy with
        | lst h2 r2 =>
          cases rx
          cases ry
          refine catL I (S.rdL h1) (S.rdL h2) (by rw [r1.length, r2.length]; exact hc) fun p hp => ?_
          obtain ⟨x2, S2⟩ := S.newZ (o := .lst _) hp
          exact k _ _ _ x2 (S2.zcons (.lst (.inl upd_same) ((r1.append r2).mono x2)))
    · cases e
  · split at e
    · rename_i hc
      cases e
      cases hx with
      | @tup a1 vs1 ds1 h1 r1 =>
        cases hy with
        | @tup a2 vs2 ds2 h2 r2 =>
          refine op_catA pins s σ H _ _ v u Q I rx ry ⟨_, _, vs1, vs2, rfl, rfl, SqT.of (S.tup h1), SqT.of (S.tup h2), by rw [r1.length, r2.length]; exact hc, fun z => ?_, fun _ z => ?_, fun _ _ p hp => ?_⟩
          · subst z
            cases r1
            exact k _ F H (Ext.refl F) (S.zcons (.tup h2 r2))
          · subst z
            cases r2
            refine k _ F H (Ext.refl F) (S.zcons ?_)
            rw [List.append_nil]
            exact .tup h1 r1
          · obtain ⟨x2, S2⟩ := S.newZ (o := .tup _) hp
            exact k _ _ _ x2 (S2.zcons (.tup upd_same ((r1.append r2).mono x2)))
    · cases e
  · cases e
theorem RepL.rep {F : Hp} {vs : List V} {ds : List D} (h : RepL C F vs ds) : ∀ n : Nat, RepL C F (List.replicate n vs).flatten (List.replicate n ds).flatten
  | 0 => .nil
  | n + 1 => by
    rw [List.replicate_succ, List.replicate_succ, List.flatten_cons, List.flatten_cons]
    exact h.append (RepL.rep h n)
theorem len_flat {α : Type} (xs : List α) : ∀ n : Nat, (List.replicate n xs).flatten.length = xs.length * n
  | 0 => by simp
  | n + 1 => by
    rw [List.replicate_succ, List.flatten_cons, List.length_append, len_flat xs n, Nat.mul_succ, Nat.add_comm]
def mulD : D → D → Option D
  | .int i, .int j => if (-(2 ^ 64) < i ∧ i < 2 ^ 64) ∨ (-(2 ^ 64) < j ∧ j < 2 ^ 64) then some (.int (i * j)) else none
  | .lst xs, .int k => if -(2 ^ 63) ≤ k ∧ k < 2 ^ 63 ∧ xs.length * k.toNat ≤ sizeLine then some (.lst (List.replicate k.toNat xs).flatten) else none
  | _, _ => none
theorem repL' {pins : List (Addr × Obj)} {σ : L2.St} {H : Hp} {s : Shared} {l : Addr} {xs : List V} {k : Int} {t : Tok} {Q : VK} (I : Inv X pins σ H s) (hH : H l = some (.lst xs)) (h1 : -(2 ^ 63) ≤ k) (h2 : k < 2 ^ 63) (hz : xs.length * k.toNat ≤ sizeLine)
    (q : ∀ p, H p = none → Q (.ref p) (upd H p (.lst (List.replicate k.toNat xs).flatten))) : wpAny (model X.prog X.w) X.A (binaryOp .Mult (.ref l) (.int k t)) (EP X pins σ Q) X.xe s :=
  op_rep pins s σ H (.ref l) (.int k) _ _ Q I rfl ⟨t, rfl⟩ ⟨l, k, xs, rfl, rfl, hH, h1, h2, hz, q⟩
theorem op_mul_D : OpR X (binaryOp .Mult) (rO2 C (fun a b => match a, b with
  | .int i, .int j => if (-(2 ^ 64) < i ∧ i < 2 ^ 64) ∨ (-(2 ^ 64) < j ∧ j < 2 ^ 64) then some (.int (i * j)) else none
  | _, _ => none) .z) := by
  intro pins s σ H x y v u Q I rx ry ⟨F, P, Lk, L, dx, dy, dz, S, hx, hy, e, k⟩
  dsimp only at e
  split at e
  · split at e
    · rename_i hc
      cases e
      exact op_mul pins s σ H x y v u Q I rx ry ⟨_, _, rep_int hx, rep_int hy, hc, k _ F H (Ext.refl F) (S.zcons (.int _))⟩
    · cases e
  · cases e

/-! ### calls -/
theorem repl1 {F : Hp} {vs : List V} {d : D} (h : RepL C F vs [d]) : ∃ v, vs = [v] ∧ Rep C F v d := by
  cases h with
  | cons a b => cases b; exact ⟨_, rfl, a⟩
theorem repl2 {F : Hp} {vs : List V} {d e : D} (h : RepL C F vs [d, e]) : ∃ v w, vs = [v, w] ∧ Rep C F v d ∧ Rep C F w e := by
  cases h with
  | cons a b => cases b with
    | cons c z => cases z; exact ⟨_, _, rfl, a, c⟩
def g1 (f : D → Option D) : List D → Option D
  | [x] => f x
  | _ => none
def g2 (f : D → D → Option D) : List D → Option D
  | [x, y] => f x y
  | _ => none
theorem cr1 {f : Value} {g : D → Option D} {o : O} {r : List V → Hp → VK → Prop} (h : CallR X f r)
    (k : ∀ (F P : Hp) Lk L (H : Hp) x dx dz (Q : VK), Stt C F P Lk L H → Rep C F x dx → g dx = some dz → (∀ w F' H', Ext F F' → Stt C F' P Lk ((o, w, dz) :: L) H' → Q w H') → r [x] H Q) : CallR X f (rON C (g1 g) o) := by
  intro pins s σ H xs us Q I ru ⟨F, P, Lk, L, ds, dz, S, R, e, q⟩
  unfold g1 at e
  split at e
  · obtain ⟨v, rfl, Rv⟩ := repl1 R
    exact h pins s σ H _ us Q I ru (k F P Lk L H v _ dz Q S Rv e q)
  · cases e
theorem cr2 {f : Value} {g : D → D → Option D} {o : O} {r : List V → Hp → VK → Prop} (h : CallR X f r)
    (k : ∀ (F P : Hp) Lk L (H : Hp) x y dx dy dz (Q : VK), Stt C F P Lk L H → Rep C F x dx → Rep C F y dy → g dx dy = some dz → (∀ w F' H', Ext F F' → Stt C F' P Lk ((o, w, dz) :: L) H' → Q w H') → r [x, y] H Q) : CallR X f (rON C (g2 g) o) := by
  intro pins s σ H xs us Q I ru ⟨F, P, Lk, L, ds, dz, S, R, e, q⟩
  unfold g2 at e
  split at e
  · obtain ⟨v, w, rfl, Rv, Rw⟩ := repl2 R
    exact h pins s σ H _ us Q I ru (k F P Lk L H v w _ _ dz Q S Rv Rw e q)
  · cases e
def lenD : D → Option D
  | .str x => if x.length ≤ sizeLine then some (.int x.length) else none
  | .lst xs => some (.int xs.length)
  | .tup xs => some (.int xs.length)
  | .ktup xs => some (.int xs.length)
  | .klst xs => some (.int xs.length)
  | _ => none
theorem call_len_D (hK : X.K = C.K) : CallR X (.builtin "len") (rON C (g1 lenD) .z) :=
  cr1 call_len fun F P Lk L H x dx dz Q S R e q => by
    unfold lenD at e
    split at e
    · split at e
      · rename_i hc; cases e; cases R; exact ⟨_, _, rfl, ⟨hc, rfl⟩, q _ F H (Ext.refl F) (S.zcons (.int _))⟩
      · cases e
    · cases e
      cases R with
      | lst h r => exact ⟨_, _, rfl, .inl ⟨_, .inl (S.rdL h), rfl⟩, by rw [r.length]; exact q _ F H (Ext.refl F) (S.zcons (.int _))⟩
    · cases e
      cases R with
      | tup h r => exact ⟨_, _, rfl, .inr ⟨_, SqT.of (S.tup h), rfl⟩, by rw [r.length]; exact q _ F H (Ext.refl F) (S.zcons (.int _))⟩
    · cases e
      cases R with
      | ktup h r => exact ⟨_, _, rfl, .inr ⟨_, by rw [hK]; exact sqT_k h, rfl⟩, by rw [r.length]; exact q _ F H (Ext.refl F) (S.zcons (.int _))⟩
    · cases e
      cases R with
      | klst h r => exact ⟨_, _, rfl, .inl ⟨_, by rw [hK]; exact sqL_k h, rfl⟩, by rw [r.length]; exact q _ F H (Ext.refl F) (S.zcons (.int _))⟩
    · cases e
def absD : D → Option D
  | .int i => some (.int (if i < 0 then -i else i))
  | _ => none
theorem call_abs_D : CallR X (.builtin "abs") (rON C (g1 absD) .z) :=
  cr1 call_abs fun F P Lk L H x dx dz Q S R e q => by
    unfold absD at e
    split at e
    · cases e; cases R; exact ⟨_, rfl, q _ F H (Ext.refl F) (S.zcons (.int _))⟩
    · cases e
def max2D : D → D → Option D
  | .int i, .int j => some (.int (if j > i then j else i))
  | _, _ => none
def min2D : D → D → Option D
  | .int i, .int j => some (.int (if j < i then j else i))
  | _, _ => none
theorem call_max2_D (hc : X.calm = true) : CallR X (.builtin "max") (rON C (g2 max2D) .z) :=
  cr2 (call_max2 hc) fun F P Lk L H x y dx dy dz Q S R R2 e q => by
    unfold max2D at e
    split at e
    · cases e; cases R; cases R2; exact ⟨_, _, rfl, q _ F H (Ext.refl F) (S.zcons (.int _))⟩
    · cases e
theorem call_min2_D (hc : X.calm = true) : CallR X (.builtin "min") (rON C (g2 min2D) .z) :=
  cr2 (call_min2 hc) fun F P Lk L H x y dx dy dz Q S R R2 e q => by
    unfold min2D at e
    split at e
    · cases e; cases R; cases R2; exact ⟨_, _, rfl, q _ F H (Ext.refl F) (S.zcons (.int _))⟩
    · cases e
def intD : D → Option D
  | .int i => some (.int i)
  | .bl k => some (.int (if k then 1 else 0))
  | _ => none
theorem call_int_D : CallR X (.type "int") (rON C (g1 intD) .z) :=
  cr1 call_int1 fun F P Lk L H x dx dz Q S R e q => by
    unfold intD at e
    split at e
    · cases e; cases R; exact .inl ⟨_, rfl, q _ F H (Ext.refl F) (S.zcons (.int _))⟩
    · cases e; cases R; exact .inr ⟨_, rfl, q _ F H (Ext.refl F) (S.zcons (.int _))⟩
    · cases e
def divmodD : D → D → Option D
  | .int i, .int j => if 0 < j ∧ j < 1073741824 then some (.tup [.int (i / j), .int (i % j)]) else none
  | _, _ => none
theorem call_divmod_D : CallR X (.builtin "divmod") (rON C (g2 divmodD) .z) :=
  cr2 call_divmod fun F P Lk L H x y dx dy dz Q S R R2 e q => by
    unfold divmodD at e
    split at e
    · split at e
      · rename_i hc
        cases e; cases R; cases R2
        refine ⟨_, _, rfl, hc, fun p hp => ?_⟩
        obtain ⟨x2, S2⟩ := S.newZ (o := .tup _) hp
        exact q _ _ _ x2 (S2.zcons (.tup upd_same (.cons (.int _) (.cons (.int _) .nil))))
      · cases e
    · cases e
def boolsD : List D → Option (List Bool)
  | [] => some []
  | .bl b :: xs => (boolsD xs).map (b :: ·)
  | _ :: _ => none
theorem boolsD_rep {F : Hp} : ∀ {ds : List D} {vs : List V} {ns : List Bool}, RepL C F vs ds → boolsD ds = some ns → vs = ns.map V.bl
  | [], _, _, .nil, e => by cases e; rfl
  | d :: ds, _, ns, .cons h r, e => by
    cases d <;> simp only [boolsD] at e <;> try (cases e; done)
    rename_i i
    cases q : boolsD ds with
    | none => rw [q] at e; cases e
    | some ms =>
      rw [q] at e
      cases e
      rw [rep_bl h, boolsD_rep r q]
      rfl
def allD : D → Option D
  | .lst xs => (boolsD xs).map fun bs => .bl (bs.all id)
  | _ => none
def anyD : D → Option D
  | .lst xs => (boolsD xs).map fun bs => .bl (bs.any id)
  | _ => none
def sumD : D → Option D
  | .lst xs => (intsD xs).map fun bs => .int bs.sum
  | _ => none
theorem call_all_D (hK : X.K = C.K) (hc : X.calm = true) : CallR X (.builtin "all") (rON C (g1 allD) .z) :=
  cr1 (cr_all hc) fun F P Lk L H x dx dz Q S R e q => by
    unfold allD at e
    split at e
    · rename_i xs
      cases hb : boolsD xs with
      | none => rw [hb] at e; cases e
      | some bs =>
        rw [hb] at e; cases e
        cases R with
        | lst h r =>
          have z := boolsD_rep r hb
          subst z
          exact ⟨_, bs, rfl, .inl (S.rdL h), q _ F H (Ext.refl F) (S.zcons (.bl _))⟩
    · cases e
theorem call_any_D (hK : X.K = C.K) (hc : X.calm = true) : CallR X (.builtin "any") (rON C (g1 anyD) .z) :=
  cr1 (cr_any hc) fun F P Lk L H x dx dz Q S R e q => by
    unfold anyD at e
    split at e
    · rename_i xs
      cases hb : boolsD xs with
      | none => rw [hb] at e; cases e
      | some bs =>
        rw [hb] at e; cases e
        cases R with
        | lst h r =>
          have z := boolsD_rep r hb
          subst z
          exact ⟨_, bs, rfl, .inl (S.rdL h), q _ F H (Ext.refl F) (S.zcons (.bl _))⟩
    · cases e
theorem call_sum_D (hK : X.K = C.K) (hc : X.calm = true) : CallR X (.builtin "sum") (rON C (g1 sumD) .z) :=
  cr1 (cr_sum hc) fun F P Lk L H x dx dz Q S R e q => by
    unfold sumD at e
    split at e
    · rename_i xs
      cases hb : intsD xs with
      | none => rw [hb] at e; cases e
      | some bs =>
        rw [hb] at e; cases e
        cases R with
        | lst h r =>
          have z := intsD_rep r hb
          subst z
          exact ⟨_, bs, rfl, .inl (S.rdL h), q _ F H (Ext.refl F) (S.zcons (.int _))⟩
    · cases e
/-- list(x), tuple(x) -/
def listD : D → Option D
  | .lst xs => some (.lst xs)
  | .tup xs => some (.lst xs)
  | .ktup xs => some (.lst xs)
  | _ => none
def tupleD : D → Option D
  | .lst xs => some (.tup xs)
  | .tup xs => some (.tup xs)
  | .ktup xs => some (.ktup xs)
  | _ => none
end
end DL
set_option Elab.async false
set_option linter.all false
set_option autoImplicit false
set_option maxHeartbeats 1000000
/-! the data layer, part 5: places, slices, membership, sorting, kinds -/
namespace DL
open PySem PySem.Spec PyProof.Rows L2
variable {C : Cfg}

/-! ### dicts: looking up -/
def toKey : D → Option Key
  | .int i => some (.inl i)
  | .str x => some (.inr x)
  | _ => none
def toKeys : List D → Option (List Key)
  | [] => some []
  | x :: xs => match toKey x, toKeys xs with
    | some a, some b => some (a :: b)
    | _, _ => none
theorem toKey_keyD (k : Key) : toKey (keyD k) = some k := by cases k <;> rfl
theorem toKeys_map : ∀ ks : List Key, toKeys (ks.map keyD) = some ks
  | [] => rfl
  | k :: ks => by simp [toKeys, toKey_keyD, toKeys_map ks]
theorem toKey_some {d : D} {k : Key} (h : toKey d = some k) : d = keyD k := by
  cases d <;> simp [toKey] at h <;> subst h <;> rfl
theorem toKeys_some : ∀ {ds : List D} {ks : List Key}, toKeys ds = some ks → ds = ks.map keyD
  | [], ks, h => by simp [toKeys] at h; subst h; rfl
  | d :: ds, ks, h => by
    cases q : toKey d with
    | none => simp [toKeys, q] at h
    | some a =>
      cases q2 : toKeys ds with
      | none => simp [toKeys, q, q2] at h
      | some b =>
        simp [toKeys, q, q2] at h
        subst h
        rw [toKey_some q, toKeys_some q2]
        rfl
theorem tupD_inj {a b : List Key} (h : tupD a = tupD b) : a = b := by
  unfold tupD at h
  injection h with h
  have := congrArg toKeys h
  rw [toKeys_map, toKeys_map] at this
  exact Option.some.inj this
/-- equality of keys -/
def keyB (a b : D) : Bool := match a, b with
  | .int i, .int j => i == j
  | .str x, .str y => x == y
  | .tup xs, .tup ys => match toKeys xs, toKeys ys with
    | some p, some q => decide (p = q)
    | _, _ => false
  | _, _ => false
theorem keyB_key (a b : Key) : keyB (keyD a) (keyD b) = decide (a = b) := by
  cases a <;> cases b <;> simp [keyB, keyD]
  · rw [Bool.eq_iff_iff]; simp
  · rw [Bool.eq_iff_iff]; simp
theorem keyB_tup (a b : List Key) : keyB (tupD a) (tupD b) = decide (a = b) := by
  simp [keyB, tupD, toKeys_map]
def lookD (kvs : List (D × D)) (k : D) : Option D := (kvs.find? fun p => keyB p.1 k).map (·.2)
theorem look_rel {κ : Type} [DecidableEq κ] {F : Hp} (f : κ → D) (hf : ∀ a b, keyB (f a) (f b) = decide (a = b)) : ∀ {kvs : List (κ × V)} {ds : List D}, RepL C F (kvs.map (·.2)) ds → ∀ k : κ,
    (∀ d, lookD ((kvs.map fun p => f p.1).zip ds) (f k) = some d → ∃ v, valV kvs k = some v ∧ Rep C F v d) ∧ (lookD ((kvs.map fun p => f p.1).zip ds) (f k) = none → valV kvs k = none)
  | [], _, _, k => ⟨fun d h => by simp [lookD] at h, fun _ => rfl⟩
  | p :: kvs, _, .cons (d := e) (ds := ds) a r, k => by
    have ih := look_rel f hf r k
    simp only [List.map_cons, List.zip_cons_cons]
    by_cases q : p.1 = k
    · have hb : keyB (f p.1) (f k) = true := by rw [hf, q]; simp
      refine ⟨fun d h => ?_, fun h => ?_⟩
      · unfold lookD at h
        rw [List.find?_cons_of_pos (by simpa using hb)] at h
        have h : some e = some d := h
        cases h
        exact ⟨p.2, valV_pos q, a⟩
      · unfold lookD at h
        rw [List.find?_cons_of_pos (by simpa using hb)] at h
        cases h
    · have hb : keyB (f p.1) (f k) = false := by rw [hf]; simp [q]
      have e1 : lookD ((f p.1, e) :: (kvs.map fun p => f p.1).zip ds) (f k) = lookD ((kvs.map fun p => f p.1).zip ds) (f k) := by
        unfold lookD
        rw [List.find?_cons_of_neg (by simp [hb])]
      rw [e1, valV_neg q]
      exact ih

/-- the place that an index means -/
def ixD : D → D → Option D
  | .lst xs, .int i => atI xs i
  | .tup xs, .int i => atI xs i
  | .ktup xs, .int i => atI xs i
  | .klst xs, .int i => atI xs i
  | .str x, .int i => if x.length ≤ sizeLine then (atI x.cps.toList i).map fun c => .str ⟨#[c]⟩ else none
  | .dct false kvs, k => (toKey k).bind fun _ => lookD kvs k
  | .dct true kvs, .tup ks => (toKeys ks).bind fun _ => lookD kvs (.tup ks)
  | _, _ => none
theorem atI_rep {F : Hp} {vs : List V} {ds : List D} (r : RepL C F vs ds) {i : Int} {d : D} (h : atI ds i = some d) : ∃ v, atI vs i = some v ∧ Rep C F v d := by
  unfold atI at h ⊢
  rw [r.length]
  cases q : ixN ds.length i with
  | none => rw [q] at h; cases h
  | some j =>
    rw [q] at h
    exact r.get h
section
variable {X : Cx} {W : WX} {G : List O} {a b e : Expr} {es : List Expr} {pos : Pos}
theorem RepL.keys {F P H : Hp} {Lk : Lock} {L : List Cell} (S : Stt C F P Lk L H) : ∀ {ks : List Key} {vs : List V}, RepL C F vs (ks.map keyD) → vs = ks.map kV
  | [], _, h => by cases h; rfl
  | .inl i :: ks, _, .cons h r => by cases h; rw [RepL.keys S r]; rfl
  | .inr i :: ks, _, .cons h r => by cases h; rw [RepL.keys S r]; rfl
theorem ix_D (hK : X.K = C.K) (hu : X.A.units + 1 < cLine) : IxR X (rO2 C ixD .z) := by
  intro value slice pins s σ H x y v u Q I rx ry ⟨F, P, Lk, L, dx, dy, dz, S, hx, hy, e, k⟩ hs
  unfold ixD at e
  split at e
  · cases hx with
    | lst h r =>
      obtain ⟨z, hz, Rz⟩ := atI_rep r e
      exact ix_list value slice pins s σ H _ y v u Q I rx ry ⟨_, _, _, z, rfl, rep_int hy, .inl (S.rdL h), hz, k z F H (Ext.refl F) (S.zcons Rz)⟩ hs
  · cases hx with
    | tup h r =>
      obtain ⟨z, hz, Rz⟩ := atI_rep r e
      exact ix_tup value slice pins s σ H _ y v u Q I rx ry ⟨_, _, _, z, rfl, rep_int hy, SqT.of (S.tup h), hz, k z F H (Ext.refl F) (S.zcons Rz)⟩ hs
  · cases hx with
    | ktup h r =>
      obtain ⟨z, hz, Rz⟩ := atI_rep r e
      exact ix_tup value slice pins s σ H _ y v u Q I rx ry ⟨_, _, _, z, rfl, rep_int hy, by rw [hK]; exact sqT_k h, hz, k z F H (Ext.refl F) (S.zcons Rz)⟩ hs
  · cases hx with
    | klst h r =>
      obtain ⟨z, hz, Rz⟩ := atI_rep r e
      exact ix_list value slice pins s σ H _ y v u Q I rx ry ⟨_, _, _, z, rfl, rep_int hy, by rw [hK]; exact sqL_k h, hz, k z F H (Ext.refl F) (S.zcons Rz)⟩ hs
  · split at e
    · rename_i hl
      obtain ⟨c, hc, rfl⟩ := Option.map_eq_some_iff.mp e
      exact ix_str value slice pins s σ H _ y v u Q I rx ry ⟨_, _, c, rep_str hx, rep_int hy, hl, hc, k _ F H (Ext.refl F) (S.zcons (.str _))⟩ hs
    · cases e
  · obtain ⟨ky, hky, e⟩ := Option.bind_eq_some_iff.mp e
    have hdk := toKey_some hky
    subst hdk
    cases hx with
    | dK h r =>
      obtain ⟨z, hz, Rz⟩ := (look_rel keyD keyB_key r ky).1 _ e
      have g : DGet H _ y (some z) := .inl ⟨_, ky, S.rdR h, by cases ky <;> (cases hy; rfl), hz.symm⟩
      cases rx
      exact tail_any (dict_typeIs I g) PySem.F.slot_dict_getitem.lookup (d_getItem hu I g ry fun w' s3 I3 rw' => ⟨z, H, I3, rw', k z F H (Ext.refl F) (S.zcons Rz)⟩) hs
  · obtain ⟨ks, hks, e⟩ := Option.bind_eq_some_iff.mp e
    have hdk := toKeys_some hks
    subst hdk
    cases hx with
    | dT h r =>
      obtain ⟨z, hz, Rz⟩ := (look_rel tupD keyB_tup r ks).1 _ e
      cases hy with
      | @tup b vs ds hb rb =>
        have hvs := RepL.keys S rb
        subst hvs
        have g : DGet H _ (.ref b) (some z) := .inr ⟨_, ks, b, S.rdR h, rfl, S.tup hb, hz.symm⟩
        cases rx
        exact tail_any (dict_typeIs I g) PySem.F.slot_dict_getitem.lookup (d_getItem hu I g ry fun w' s3 I3 rw' => ⟨z, H, I3, rw', k z F H (Ext.refl F) (S.zcons Rz)⟩) hs
  · cases e
theorem de_ix {f h : SE} (hK : X.K = C.K) (hu : X.A.units + 1 < cLine) (ha : PE X a (tD C W G f .z)) (hb : PE X b (tD C W G h .z)) (hs : PlainIx b) : PE X (.Subscript a b pos) (tD C W G (e2 ixD f h) .z) :=
  PE_weak (pe_ix (ix_D hK hu) ha hb hs) fun _ _ _ q => tD2 (fun _ _ _ h => h) (fun _ _ _ h => h) q

/-! ### slices -/
def cutD (xs : List D) (lo hi : Option Int) : List D := (xs.drop (HT.sIx xs.length 0 lo)).take (HT.sIx xs.length xs.length hi - HT.sIx xs.length 0 lo)
def slD : D → Option Int → Option Int → Option D
  | .lst xs, lo, hi => some (.lst (cutD xs lo hi))
  | .tup xs, lo, hi => some (.tup (cutD xs lo hi))
  | .str x, lo, hi => if x.length ≤ sizeLine then some (.str (cutS x lo hi)) else none
  | _, _, _ => none
abbrev SO := DL.Env → Res (Option Int)
def oNone : SO := fun r => .ok none r
def oInt (f : SE) : SO := fun r => (f r).bind fun d r1 => match d with
  | .int i => .ok (some i) r1
  | _ => .stk
def eSl (f : SE) (lo hi : SO) : SE := fun r => (f r).bind fun x r1 => (lo r1).bind fun l r2 => (hi r2).bind fun h r3 => opt (slD x l h) r3
def tDO (C : Cfg) (W : WX) (G : List O) (f : SO) : TO := fun σ H Q => ∃ F P Lk r, EnvX C [] F P Lk G r σ H ∧
  RD C W F P Lk σ (f r) fun o r' => ∀ F' H', Ext F F' → EnvX C [] F' P Lk G r' σ H' → Q o H'
theorem do_none : PO X none (tDO C W G oNone) := by
  have h := po_none (X := X)
  refine ⟨fun pins s σ H Q I q => h.run pins s σ H Q I ?_⟩
  obtain ⟨F, P, Lk, r, E, q⟩ := q
  exact q F H (Ext.refl F) E
theorem do_int {f : SE} (hf : PE X e (tD C W G f .z)) : PO X (some e) (tDO C W G (oInt f)) := by
  have h := po_some hf
  refine ⟨fun pins s σ H Q I q => h.run pins s σ H Q I ?_⟩
  obtain ⟨F, P, Lk, r, E, q⟩ := q
  refine ⟨F, P, Lk, r, E, (RD.bind q).mono fun d r1 q1 v F1 H1 x1 E0 => ?_⟩
  obtain ⟨R1, E1⟩ := E0.rep
  clear E0
  cases R1 with
  | int i => exact ⟨i, rfl, q1 F1 H1 x1 E1⟩
  | _ => exact q1.elim
theorem cut_rep {F : Hp} {vs : List V} {ds : List D} (r : RepL C F vs ds) (lo hi : Option Int) : RepL C F (cutV vs lo hi) (cutD ds lo hi) := by
  unfold cutV cutD
  rw [r.length]
  exact (r.drop _).take _
theorem sl_D (hK : X.K = C.K) : SlR X (fun x lo hi H Q => ∃ F P Lk L dx dz, Stt C F P Lk L H ∧ Rep C F x dx ∧ slD dx lo hi = some dz ∧ ∀ w F' H', Ext F F' → Stt C F' P Lk ((.z, w, dz) :: L) H' → Q w H') := by
  intro pins s σ H x v vl vu lo hi sl Q I rx hs pl pu ⟨F, P, Lk, L, dx, dz, S, hx, e, k⟩
  unfold slD at e
  split at e
  · cases e
    cases hx with
    | lst h r =>
      refine sl_list pins s σ H _ v vl vu _ _ sl Q I rx hs pl pu ⟨_, _, rfl, .inl (S.rdL h), fun p hp => ?_⟩
      obtain ⟨x2, S2⟩ := S.newZ (o := .lst _) hp
      exact k _ _ _ x2 (S2.zcons (.lst (.inl upd_same) ((cut_rep r _ _).mono x2)))
  · cases e
    cases hx with
    | @tup a vs ds h r =>
      refine sl_tupA pins s σ H _ v vl vu _ _ sl Q I rx hs pl pu ⟨_, _, rfl, SqT.of (S.tup h), fun hw => ?_, fun _ p hp => ?_⟩
      · refine k _ F H (Ext.refl F) (S.zcons ?_)
        have z := cut_rep r lo hi
        have e1 : cutV vs lo hi = vs := by
          unfold cutV
          rw [hw.1, hw.2]
          simp
        rw [e1] at z
        exact .tup h z
      · obtain ⟨x2, S2⟩ := S.newZ (o := .tup _) hp
        exact k _ _ _ x2 (S2.zcons (.tup upd_same ((cut_rep r _ _).mono x2)))
  · split at e
    · rename_i hc
      cases e
      exact sl_str pins s σ H _ v vl vu _ _ sl Q I rx hs pl pu ⟨_, rep_str hx, hc, k _ F H (Ext.refl F) (S.zcons (.str _))⟩
    · cases e
  · cases e
theorem de_sl {f : SE} {lo hi : Option Expr} {fl fh : SO} {p2 : Pos} (hK : X.K = C.K) (ha : PE X a (tD C W G f .z)) (hl : PO X lo (tDO C W G fl)) (hh : PO X hi (tDO C W G fh)) :
    PE X (.Subscript a (.Slice lo hi none p2) pos) (tD C W G (eSl f fl fh) .z) := by
  refine PE_weak (pe_slice (sl_D (C := C) hK) ha hl hh) fun σ H Q q => ?_
  obtain ⟨F, P, Lk, r, E, q⟩ := q
  refine ⟨F, P, Lk, r, E, (RD.bind q).mono fun dx r1 q1 x F1 H1 x1 E0 => ?_⟩
  obtain ⟨R1, E1⟩ := E0.rep
  clear E0
  refine ⟨F1, P, Lk, r1, E1, (RD.bind (q1.ext x1 (Sub.refl P))).mono fun l r2 q2 F2 H2 x2 E2 => ?_⟩
  refine ⟨F2, P, Lk, r2, E2, (RD.bind (q2.ext x2 (Sub.refl P))).mono fun u r3 q3 F3 H3 x3 E3 => ?_⟩
  obtain ⟨dz, e3, q4⟩ := RD_opt q3
  obtain ⟨L, E3, S3⟩ := E3
  exact ⟨F3, P, Lk, L, dx, dz, S3, R1.mono (x2.trans x3), e3, fun w F' H' x' S' => q4 w F' H' (((x1.trans x2).trans x3).trans x') ⟨L, E3, S'⟩⟩

/-! ### in -/
def inD (x y : D) : Option Bool := match y with
  | .lst ys => match shp x, shp (.lst ys) with
    | some a, some (.list bs) => some (anyEq a bs)
    | _, _ => none
  | .tup ys => match shp x, shp (.tup ys) with
    | some a, some (.tuple bs) => some (anyEq a bs)
    | _, _ => none
  | .ktup ys => match shp x, shp (.ktup ys) with
    | some a, some (.tuple bs) => some (anyEq a bs)
    | _, _ => none
  | .str t => match x with
    | .str s => some (!(Builtin.Str.occurrences t s 0 t.length 1).isEmpty)
    | _ => none
  | .dct false kvs => (toKey x).bind fun _ => some (lookD kvs x).isSome
  | .dct true kvs => match x with
    | .tup ks => (toKeys ks).bind fun _ => some (lookD kvs (.tup ks)).isSome
    | _ => none
  | _ => none
def ninD (x y : D) : Option Bool := (inD x y).map (!·)
theorem look_get {F P H : Hp} {Lk : Lock} {L : List Cell} {a : Addr} {x : V} {dx : D} {b : Bool} (S : Stt C F P Lk L H) {t : Bool} {kvs : List (D × D)} (hx : Rep C F x dx) (hy : Rep C F (.ref a) (.dct t kvs)) (e : inD dx (.dct t kvs) = some b) : ∃ o, DGet H a x o ∧ o.isSome = b ∧
    ∀ v, o = some v → ∃ d, lookD kvs dx = some d ∧ Rep C F v d := by
  cases hy with
  | dK h r =>
    obtain ⟨ky, hky, e⟩ := Option.bind_eq_some_iff.mp e
    have hdk := toKey_some hky
    subst hdk
    have e : (lookD _ (keyD ky)).isSome = b := Option.some.inj e
    refine ⟨_, .inl ⟨_, ky, S.rdR h, by cases ky <;> (cases hx; rfl), rfl⟩, ?_, fun v hv => ?_⟩
    · cases q : lookD _ (keyD ky) with
      | none => rw [q] at e; rw [(look_rel keyD keyB_key r ky).2 q]; exact e
      | some d => rw [q] at e; obtain ⟨z, hz, _⟩ := (look_rel keyD keyB_key r ky).1 _ q; rw [hz]; exact e
    · cases q : lookD _ (keyD ky) with
      | none => rw [(look_rel keyD keyB_key r ky).2 q] at hv; cases hv
      | some d => obtain ⟨z, hz, Rz⟩ := (look_rel keyD keyB_key r ky).1 _ q; rw [hz] at hv; cases hv; exact ⟨d, rfl, Rz⟩
  | dT h r =>
    cases hx with
    | @tup bb vs ks hb rb =>
      obtain ⟨ky, hky, e⟩ := Option.bind_eq_some_iff.mp e
      have hdk := toKeys_some hky
      subst hdk
      have e : (lookD _ (tupD ky)).isSome = b := Option.some.inj e
      have hvs := RepL.keys S rb
      subst hvs
      refine ⟨_, .inr ⟨_, ky, bb, S.rdR h, rfl, S.tup hb, rfl⟩, ?_, fun v hv => ?_⟩
      · cases q : lookD _ (tupD ky) with
        | none => rw [q] at e; rw [(look_rel tupD keyB_tup r ky).2 q]; exact e
        | some d => rw [q] at e; obtain ⟨z, hz, _⟩ := (look_rel tupD keyB_tup r ky).1 _ q; rw [hz]; exact e
      · cases q : lookD _ (tupD ky) with
        | none => rw [(look_rel tupD keyB_tup r ky).2 q] at hv; cases hv
        | some d => obtain ⟨z, hz, Rz⟩ := (look_rel tupD keyB_tup r ky).1 _ q; rw [hz] at hv; cases hv; exact ⟨d, q, Rz⟩
    | _ => cases e
theorem inTup {A : Around} {pins : List (Addr × Obj)} {σ : L2.St} {H : Hp} {s : Shared} {x y : V} {v u : Value} {p : PyData} {qs : List PyData} {Q : Value → Shared → Prop} {E : Value → Shared → Prop} (I : Inv X pins σ H s) (hu : A.units + 65 < cLine) (rx : RelV x v) (ry : RelV y u)
    (dx : Dp X.K H x p) (dy : Dp X.K H y (.tuple qs)) (s1 : SeqAt.shaped p = true) (s2 : SeqAt.shaped (.tuple qs) = true) :
    (Q (.bool (anyEq p qs)) s → wpAny (model X.prog X.w) A (compareOp .In v u) Q E s) ∧ (Q (.bool (!anyEq p qs)) s → wpAny (model X.prog X.w) A (compareOp .NotIn v u) Q E s) := by
  obtain ⟨as, r1⟩ := Dp.reads I _ x v dx rx
  obtain ⟨bs, r2⟩ := Dp.reads I _ y u dy ry
  exact ⟨fun q => SeqAt.in_tuple_reads r2 r1 (SeqAt.canLay_of_shaped s2) (SeqAt.canLay_of_shaped s1) (PyProof.Rows.room_in_shaped s1 hu) q,
    fun q => SeqAt.notIn_tuple_reads r2 r1 (SeqAt.canLay_of_shaped s2) (SeqAt.canLay_of_shaped s1) (PyProof.Rows.room_in_shaped s1 hu) q⟩
theorem in_both (hK : X.K = C.K) (hu : X.A.units + 65 < cLine) {pins : List (Addr × Obj)} {s : Shared} {σ : L2.St} {H F P : Hp} {Lk : Lock} {L : List Cell} {x y : V} {v u : Value} {dx dy : D} {b : Bool} (I : Inv X pins σ H s) (rx : RelV x v) (ry : RelV y u) (S : Stt C F P Lk L H) (hx : Rep C F x dx) (hy : Rep C F y dy) (e : inD dx dy = some b) :
    (∀ Q : VK, Q (.bl b) H → wpAny (model X.prog X.w) X.A (compareOp .In v u) (EP X pins σ Q) X.xe s) ∧ (∀ Q : VK, Q (.bl (!b)) H → wpAny (model X.prog X.w) X.A (compareOp .NotIn v u) (EP X pins σ Q) X.xe s) := by
  unfold inD at e
  split at e
  · split at e
    · rename_i p qs h1 h2
      obtain ⟨t1, s1⟩ := shp_of h1
      obtain ⟨t2, s2⟩ := shp_of h2
      cases e
      exact ⟨fun Q q => op_inD hu pins s σ H x y v u Q I rx ry ⟨_, _, by rw [hK]; exact hx.dp S t1, by rw [hK]; exact hy.dp S t2, s1, s2, q⟩,
        fun Q q => op_notInD hu pins s σ H x y v u Q I rx ry ⟨_, _, by rw [hK]; exact hx.dp S t1, by rw [hK]; exact hy.dp S t2, s1, s2, q⟩⟩
    · cases e
  · split at e
    · rename_i p qs h1 h2
      obtain ⟨t1, s1⟩ := shp_of h1
      obtain ⟨t2, s2⟩ := shp_of h2
      cases e
      have d1 : Dp X.K H x p := by rw [hK]; exact hx.dp S t1
      have d2 : Dp X.K H y (.tuple qs) := by rw [hK]; exact hy.dp S t2
      exact ⟨fun Q q => (inTup I hu rx ry d1 d2 s1 s2).1 ⟨.bl _, H, I, rfl, q⟩, fun Q q => (inTup I hu rx ry d1 d2 s1 s2).2 ⟨.bl _, H, I, rfl, q⟩⟩
    · cases e
  · split at e
    · rename_i p qs h1 h2
      obtain ⟨t1, s1⟩ := shp_of h1
      obtain ⟨t2, s2⟩ := shp_of h2
      cases e
      have d1 : Dp X.K H x p := by rw [hK]; exact hx.dp S t1
      have d2 : Dp X.K H y (.tuple qs) := by rw [hK]; exact hy.dp S t2
      exact ⟨fun Q q => (inTup I hu rx ry d1 d2 s1 s2).1 ⟨.bl _, H, I, rfl, q⟩, fun Q q => (inTup I hu rx ry d1 d2 s1 s2).2 ⟨.bl _, H, I, rfl, q⟩⟩
    · cases e
  · split at e
    · cases e
      exact ⟨fun Q q => op_in_str pins s σ H x y v u Q I rx ry ⟨_, _, rep_str hx, rep_str hy, q⟩, fun Q q => L2.op_notIn_str pins s σ H x y v u Q I rx ry ⟨_, _, rep_str hx, rep_str hy, q⟩⟩
    · cases e
  · obtain ⟨a, rfl⟩ : ∃ a, y = .ref a := by cases hy; exact ⟨_, rfl⟩
    obtain ⟨o, g, ho, _⟩ := look_get S hx hy e
    cases ry
    subst ho
    exact ⟨fun Q q => d_in (by omega) I g rx fun s3 I3 => ⟨.bl o.isSome, H, I3, rfl, q⟩, fun Q q => d_notIn (by omega) I g rx fun s3 I3 => ⟨.bl (!o.isSome), H, I3, rfl, q⟩⟩
  · split at e
    · obtain ⟨a, rfl⟩ : ∃ a, y = .ref a := by cases hy; exact ⟨_, rfl⟩
      obtain ⟨o, g, ho, _⟩ := look_get S hx hy e
      cases ry
      subst ho
      exact ⟨fun Q q => d_in (by omega) I g rx fun s3 I3 => ⟨.bl o.isSome, H, I3, rfl, q⟩, fun Q q => d_notIn (by omega) I g rx fun s3 I3 => ⟨.bl (!o.isSome), H, I3, rfl, q⟩⟩
    · cases e
  · cases e
theorem op_in_D (hK : X.K = C.K) (hu : X.A.units + 65 < cLine) : OpR X (compareOp .In) (rO2 C (gB inD) .z) := by
  intro pins s σ H x y v u Q I rx ry ⟨F, P, Lk, L, dx, dy, dz, S, hx, hy, e0, k⟩
  obtain ⟨b, e, e2⟩ := gB_some e0
  subst e2
  exact (in_both hK hu I rx ry S hx hy e).1 Q (k _ F H (Ext.refl F) (S.zcons (.bl _)))
theorem op_nin_D (hK : X.K = C.K) (hu : X.A.units + 65 < cLine) : OpR X (compareOp .NotIn) (rO2 C (gB ninD) .z) := by
  intro pins s σ H x y v u Q I rx ry ⟨F, P, Lk, L, dx, dy, dz, S, hx, hy, e0, k⟩
  obtain ⟨b, e1, e2⟩ := gB_some e0
  subst e2
  obtain ⟨b', e, e3⟩ := Option.map_eq_some_iff.mp e1
  subst e3
  exact (in_both hK hu I rx ry S hx hy e).2 Q (k _ F H (Ext.refl F) (S.zcons (.bl _)))
/-! ### is None -/
def isND (x y : D) : Option Bool := match y with
  | .non => match x with
    | .non => some true
    | .opq _ => none
    | _ => some false
  | .bl b => match x with
    | .bl a => some (decide (a = b))
    | _ => none
  | _ => none
def isNND (x y : D) : Option Bool := (isND x y).map (!·)
theorem isN_rep {F : Hp} {x : V} {dx : D} {b : Bool} (hx : Rep C F x dx) (e : isND dx .non = some b) : decide (x = V.non) = b := by
  cases hx <;> simp [isND] at e <;> subst e <;> simp
theorem op_is_D : OpR X (compareOp .Is) (rO2 C (gB isND) .z) := by
  intro pins s σ H x y v u Q I rx ry ⟨F, P, Lk, L, dx, dy, dz, S, hx, hy, e0, k⟩
  obtain ⟨b, e, e2⟩ := gB_some e0
  subst e2
  cases hy with
  | non => exact op_isN pins s σ H x _ v u Q I rx ry ⟨rfl, by rw [isN_rep hx e]; exact k _ F H (Ext.refl F) (S.zcons (.bl _))⟩
  | bl c =>
    cases hx <;> simp [isND] at e
    subst e
    exact op_is_bl pins s σ H _ _ v u Q I rx ry ⟨_, _, rfl, rfl, k _ F H (Ext.refl F) (S.zcons (.bl _))⟩
  | _ => simp [isND] at e
theorem op_isn_D : OpR X (compareOp .IsNot) (rO2 C (gB isNND) .z) := by
  intro pins s σ H x y v u Q I rx ry ⟨F, P, Lk, L, dx, dy, dz, S, hx, hy, e0, k⟩
  obtain ⟨b, e1, e2⟩ := gB_some e0
  subst e2
  obtain ⟨b', e, e3⟩ := Option.map_eq_some_iff.mp e1
  subst e3
  cases hy with
  | non => exact op_notN pins s σ H x _ v u Q I rx ry ⟨rfl, by rw [isN_rep hx e]; exact k _ F H (Ext.refl F) (S.zcons (.bl _))⟩
  | bl c =>
    cases hx <;> simp [isND] at e
    subst e
    exact op_isnot_bl pins s σ H _ _ v u Q I rx ry ⟨_, _, rfl, rfl, by simpa using k _ F H (Ext.refl F) (S.zcons (.bl _))⟩
  | _ => simp [isND] at e

/-! ### list(..), tuple(..) -/
theorem call_tuple_D (hK : X.K = C.K) : CallR X (.type "tuple") (rON C (g1 tupleD) .z) :=
  cr1 call_tuple_of fun F P Lk L H x dx dz Q S R e q => by
    unfold tupleD at e
    split at e
    · cases e
      cases R with
      | lst h r =>
        refine ⟨_, _, rfl, .inl ⟨.inl (S.rdL h), fun p hp => ?_⟩⟩
        obtain ⟨x2, S2⟩ := S.newZ (o := .tup _) hp
        exact q _ _ _ x2 (S2.zcons (.tup upd_same (r.mono x2)))
    · cases e
      cases R with
      | tup h r => exact ⟨_, _, rfl, .inr ⟨SqT.of (S.tup h), q _ F H (Ext.refl F) (S.zcons (.tup h r))⟩⟩
    · cases e
      cases R with
      | ktup h r => exact ⟨_, _, rfl, .inr ⟨by rw [hK]; exact sqT_k h, q _ F H (Ext.refl F) (S.zcons (.ktup h r))⟩⟩
    · cases e
end
end DL
set_option Elab.async false
set_option linter.all false
set_option autoImplicit false
set_option maxHeartbeats 1000000
/-! the data layer, part 6: what is walked; for; comprehensions -/
namespace DL
open PySem PySem.Spec PyProof.Rows L2
variable {C : Cfg}

/-- the iterator J yields the items, whatever is built above F -/
structure Yld (C : Cfg) (J : It) (F : Hp) (items : List D) : Prop where
  go : ∀ (i : Nat) F2 P Lk L H, Ext F F2 → Stt C F2 P Lk L H → i < items.length → J.go i H
  stop : ∀ F2 P Lk L H, Ext F F2 → Stt C F2 P Lk L H → J.stop items.length H
  yld : ∀ (i : Nat) F2 P Lk L H v H', Ext F F2 → Stt C F2 P Lk L H → i < items.length → J.yld i H v H' → ∃ F3 d, Ext F2 F3 ∧ items[i]? = some d ∧ Rep C F3 v d ∧ Stt C F3 P Lk L H'
abbrev SI := DL.Env → Res (List D)
def tDI (C : Cfg) (W : WX) (G : List O) (f : SI) : TI := fun σ H R => ∃ F P Lk r, EnvX C [] F P Lk G r σ H ∧
  RD C W F P Lk σ (f r) fun items r' => ∀ J F' H', Ext F F' → EnvX C [] F' P Lk G r' σ H' → Yld C J F' items → R J H'
section
variable {X : Cx} {W : WX} {G : List O} {a b e tg : Expr} {es : List Expr} {pos : Pos}
theorem PI_weak {t t' : TI} (h : PI X tg e t) (k : ∀ σ H R, t' σ H R → t σ H R) : PI X tg e t' := ⟨fun pins s σ H R I h' => h.run pins s σ H R I (k _ _ _ h')⟩
theorem yld_list {K : PySem.W.Frag} {F : Hp} {a : Addr} {vs : List V} {ds : List D} (h : Rd F a (.lst vs)) (r : RepL C F vs ds) : Yld C (Itl K a) F ds where
  go := fun i F2 P Lk L H e S hi => by
    obtain ⟨v, hv, _⟩ := r.get (List.getElem?_eq_getElem hi)
    exact ⟨vs, v, .inl (S.rdL (e.rd h)), hv⟩
  stop := fun F2 P Lk L H e S => ⟨vs, .inl (S.rdL (e.rd h)), by rw [r.length]; exact Nat.le_refl _⟩
  yld := fun i F2 P Lk L H v H' e S hi y => by
    obtain ⟨e1, y⟩ := y
    subst e1
    obtain ⟨d, hd, Rd⟩ := r.get' (y vs (.inl (S.rdL (e.rd h))))
    exact ⟨F2, d, Ext.refl _, hd, Rd.mono e, S⟩
theorem yld_tup {K : PySem.W.Frag} {F : Hp} {a : Addr} {vs : List V} {ds : List D} (h : ∀ F2 P Lk L H, Ext F F2 → Stt C F2 P Lk L H → SqT K H a vs) (r : RepL C F vs ds) : Yld C (Itt K a) F ds where
  go := fun i F2 P Lk L H e S hi => by
    obtain ⟨v, hv, _⟩ := r.get (List.getElem?_eq_getElem hi)
    exact ⟨vs, v, h _ _ _ _ _ e S, hv⟩
  stop := fun F2 P Lk L H e S => ⟨vs, h _ _ _ _ _ e S, by rw [r.length]; exact Nat.le_refl _⟩
  yld := fun i F2 P Lk L H v H' e S hi y => by
    obtain ⟨e1, y⟩ := y
    subst e1
    obtain ⟨d, hd, Rd⟩ := r.get' (y vs (h _ _ _ _ _ e S))
    exact ⟨F2, d, Ext.refl _, hd, Rd.mono e, S⟩
theorem yld_range {lo : Int} {n : Nat} {F : Hp} : Yld C (Itr lo n) F ((List.range n).map fun i => D.int (lo + (i : Nat))) where
  go := fun i F2 P Lk L H e S hi => by show i < n; simpa using hi
  stop := fun F2 P Lk L H e S => by show n ≤ _; simp
  yld := fun i F2 P Lk L H v H' e S hi y => by
    obtain ⟨e1, y⟩ := y
    subst e1 y
    have hi : i < n := by simpa using hi
    exact ⟨F2, _, Ext.refl _, by simp [hi], .int _, S⟩
theorem yld_str {x : Str} {F : Hp} : Yld C (Its x) F (x.cps.toList.map fun c => D.str ⟨#[c]⟩) where
  go := fun i F2 P Lk L H e S hi => by show i < x.cps.size; simpa using hi
  stop := fun F2 P Lk L H e S => by show x.cps.size ≤ _; simp
  yld := fun i F2 P Lk L H v H' e S hi y => by
    obtain ⟨e1, c, hc, y⟩ := y
    subst e1 y
    exact ⟨F2, .str ⟨#[c]⟩, Ext.refl _, by simp [hc], .str _, S⟩
/-! a list, a tuple, a text by itself -/
def itD : D → Option (List D)
  | .lst xs => some xs
  | .tup xs => some xs
  | .ktup xs => some xs
  | .str x => some (x.cps.toList.map fun c => D.str ⟨#[c]⟩)
  | _ => none
def iE (f : SE) : SI := fun r => (f r).bind fun d r1 => opt (itD d) r1
theorem di_val {f : SE} (hK : X.K = C.K) (he : PE X e (tD C W G f .z)) : PI X tg e (tDI C W G (iE f)) := by
  have h1 := pi_list (tg := tg) he
  have h2 := pi_tup (tg := tg) he
  have h3 := pi_str (tg := tg) he
  refine ⟨fun pins s σ H R I q => ?_⟩
  obtain ⟨F, P, Lk, r, E, q⟩ := q
  have q := RD.bind (k := fun d r1 => opt (itD d) r1) q
  -- the value's kind is known before it is evaluated
  cases hf : f r with
  | stk => rw [hf] at q; exact q.elim
  | exc c fs =>
    rw [hf] at q
    refine h1.run pins s σ H R I ?_
    refine ⟨F, P, Lk, r, E, ?_⟩
    rw [hf]
    exact q
  | ok d r1 =>
    rw [hf] at q
    obtain ⟨items, e3, q3⟩ := RD_opt q
    have go : ∀ (K : V → Hp → Prop), (∀ v F' H', Ext F F' → EnvX C [(.z, v, d)] F' P Lk G r1 σ H' → K v H') → tD C W G f .z σ H K := fun K k => ⟨F, P, Lk, r, E, by rw [hf]; exact fun v F' H' x E' => k v F' H' x E'⟩
    unfold itD at e3
    split at e3
    · cases e3
      refine h1.run pins s σ H R I (go _ fun v F' H' x E0 => ?_)
      obtain ⟨R1, L, E1, S1⟩ := E0.rep
      clear E0
      cases R1 with
      | lst h rr => exact ⟨_, rfl, ⟨_, .inl (S1.rdL h)⟩, q3 _ F' H' x ⟨L, E1, S1⟩ (yld_list h rr)⟩
    · cases e3
      refine h2.run pins s σ H R I (go _ fun v F' H' x E0 => ?_)
      obtain ⟨R1, L, E1, S1⟩ := E0.rep
      clear E0
      cases R1 with
      | tup h rr => exact ⟨_, rfl, ⟨_, SqT.of (S1.tup h)⟩, q3 _ F' H' x ⟨L, E1, S1⟩ (yld_tup (fun F2 P2 Lk2 L2 H2 e2 S2 => SqT.of (S2.tup (e2.at h rfl))) rr)⟩
    · cases e3
      refine h2.run pins s σ H R I (go _ fun v F' H' x E0 => ?_)
      obtain ⟨R1, L, E1, S1⟩ := E0.rep
      clear E0
      cases R1 with
      | ktup h rr => exact ⟨_, rfl, ⟨_, by rw [hK]; exact sqT_k h⟩, q3 _ F' H' x ⟨L, E1, S1⟩ (yld_tup (fun F2 P2 Lk2 L2 H2 e2 S2 => by rw [hK]; exact sqT_k h) rr)⟩
    · cases e3
      refine h3.run pins s σ H R I (go _ fun v F' H' x E0 => ?_)
      obtain ⟨R1, L, E1, S1⟩ := E0.rep
      clear E0
      cases R1 with
      | str y => exact ⟨_, rfl, q3 _ F' H' x ⟨L, E1, S1⟩ yld_str⟩
    · cases e3
/-! ranges -/
def rngD (lo hi : Int) : List D := (List.range (hi - lo).toNat).map fun i => D.int (lo + (i : Nat))
def okI (i : Int) : Bool := decide (-(2 ^ 62) ≤ i) && decide (i < 2 ^ 62)
def rg1 : List D → Option (List D)
  | [.int j] => if okI j = true then some (rngD 0 j) else none
  | _ => none
def rg2 : List D → Option (List D)
  | [.int i, .int j] => if okI i = true ∧ okI j = true then some (rngD i j) else none
  | _ => none
def iRg1 (k : SA) : SI := fun r => (k r).bind fun ds r1 => opt (rg1 ds) r1
def iRg2 (k : SA) : SI := fun r => (k r).bind fun ds r1 => opt (rg2 ds) r1
theorem okI_iff {i : Int} : okI i = true ↔ -(2 ^ 62) ≤ i ∧ i < 2 ^ 62 := by simp [okI]
theorem di_range1 {k : SA} {p : Pos} (hg : Gl X "range") (hm : X.mg "range" = none) (ha : PA X [a] (tDA C W G k)) (hs : starEach [a] X.env = [(false, eval a X.env)] := by rfl) : PI X tg (.Call (.Name "range" p) [a] [] pos) (tDI C W G (iRg1 k)) := by
  refine PI_weak (pi_range1 hg hm ha hs) fun σ H R q => ?_
  obtain ⟨F, P, Lk, r, E, q⟩ := q
  refine ⟨F, P, Lk, r, E, (RD.bind q).mono fun ds r1 q1 vs F1 H1 x1 R1 E1 => ?_⟩
  obtain ⟨items, e3, q3⟩ := RD_opt q1
  unfold rg1 at e3
  split at e3
  · split at e3
    · rename_i j hj
      cases e3
      obtain ⟨v, rfl, Rv⟩ := repl1 R1
      have z := rep_int Rv
      subst z
      obtain ⟨z1, z2⟩ := okI_iff.mp hj
      refine ⟨j, rfl, z1, z2, q3 _ F1 H1 x1 E1 ?_⟩
      have e : rngD 0 j = (List.range j.toNat).map fun i => D.int ((0 : Int) + (i : Nat)) := by simp [rngD]
      rw [e]
      exact yld_range
    · cases e3
  · cases e3
theorem di_range2 {k : SA} {p : Pos} (hg : Gl X "range") (hm : X.mg "range" = none) (ha : PA X [a, b] (tDA C W G k)) (hs : starEach [a, b] X.env = [(false, eval a X.env), (false, eval b X.env)] := by rfl) (hs2 : starEach [b] X.env = [(false, eval b X.env)] := by rfl) :
    PI X tg (.Call (.Name "range" p) [a, b] [] pos) (tDI C W G (iRg2 k)) := by
  refine PI_weak (pi_range2 hg hm ha hs hs2) fun σ H R q => ?_
  obtain ⟨F, P, Lk, r, E, q⟩ := q
  refine ⟨F, P, Lk, r, E, (RD.bind q).mono fun ds r1 q1 vs F1 H1 x1 R1 E1 => ?_⟩
  obtain ⟨items, e3, q3⟩ := RD_opt q1
  unfold rg2 at e3
  split at e3
  · split at e3
    · rename_i i j hj
      cases e3
      obtain ⟨v, w, rfl, Rv, Rw⟩ := repl2 R1
      have z := rep_int Rv
      have z' := rep_int Rw
      subst z z'
      obtain ⟨z1, z2⟩ := okI_iff.mp hj.1
      obtain ⟨z3, z4⟩ := okI_iff.mp hj.2
      exact ⟨i, j, rfl, ⟨z1, z2, z3, z4⟩, q3 _ F1 H1 x1 E1 yld_range⟩
    · cases e3
  · cases e3
end

/-! ### targets -/
inductive Tg where
  | nm (i : Nat) | tp (ts : List Tg) | sb (i : Nat) (f : SE)
/-- in its place, or at the end -/
def putD (kvs : List (D × D)) (k e : D) : List (D × D) := if (kvs.any fun p => keyB p.1 k) = true then kvs.map fun p => if keyB p.1 k = true then (p.1, e) else p else kvs ++ [(k, e)]
/-- xs[i] = e; d[k] = e -/
def setIx : D → D → D → Option D
  | .lst xs, .int i, e => (ixN xs.length i).map fun j => .lst (xs.set j e)
  | .dct false kvs, k, e => if kvs.length < sizeLine then (toKey k).map fun _ => .dct false (putD kvs k e) else none
  | .dct true kvs, .tup ks, e => if kvs.length < sizeLine then (toKeys ks).map fun _ => .dct true (putD kvs (.tup ks) e) else none
  | _, _, _ => none
mutual
def Tg.put : Tg → D → DL.Env → Option DL.Env
  | .nm i, d, r => if i < r.length then some (r.set i (some d)) else none
  | .tp ts, .tup ds, r => Tg.putL ts ds r
  | .tp _, _, _ => none
  | .sb i f, d, r => match r[i]? with
    | some (some _) => match f r with
      | .ok ix r1 => match r1[i]? with
        | some (some c) => match setIx c ix d with
          | some c' => some (r1.set i (some c'))
          | none => none
        | _ => none
      | _ => none
    | _ => none
def Tg.putL : List Tg → List D → DL.Env → Option DL.Env
  | [], [], r => some r
  | t :: ts, d :: ds, r => match t.put d r with
    | some r1 => Tg.putL ts ds r1
    | none => none
  | _, _, _ => none
end
mutual
def Tg.slots : Tg → List Nat
  | .nm i => [i]
  | .tp ts => Tg.slotsL ts
  | .sb _ _ => []
def Tg.slotsL : List Tg → List Nat
  | [] => []
  | t :: ts => t.slots ++ Tg.slotsL ts
end
/-- alike but for some slots -/
def Off (l : List Nat) (σ σ' : L2.St) : Prop := σ'.length = σ.length ∧ ∀ j, j ∉ l → σ'[j]? = σ[j]?
theorem Off.trans {l m : List Nat} {σ σ1 σ2 : L2.St} (a : Off l σ σ1) (b : Off m σ1 σ2) : Off (l ++ m) σ σ2 :=
  ⟨b.1.trans a.1, fun j hj => (b.2 j fun z => hj (List.mem_append_right _ z)).trans (a.2 j fun z => hj (List.mem_append_left _ z))⟩
def tDG (C : Cfg) (G : List O) (t : Tg) : TG := fun v σ H Q => ∃ F P Lk r d r', EnvX C [] F P Lk G r σ H ∧ Rep C F v d ∧ t.put d r = some r' ∧ ∀ σ', Off t.slots σ σ' → ∀ F' H', Ext F F' → EnvX C [] F' P Lk G r' σ' H' → Q σ' H'
def tDGs (C : Cfg) (G : List O) (ts : List Tg) : TGs := fun vs σ H Q => ∃ F P Lk r ds r', EnvX C [] F P Lk G r σ H ∧ RepL C F vs ds ∧ Tg.putL ts ds r = some r' ∧ ∀ σ', Off (Tg.slotsL ts) σ σ' → ∀ F' H', Ext F F' → EnvX C [] F' P Lk G r' σ' H' → Q σ' H'
section
variable {X : Cx} {G : List O} {e tg : Expr} {es : List Expr} {pos : Pos}
theorem PG_weak {t t' : TG} (h : PG X tg t) (k : ∀ v σ H Q, t' v σ H Q → t v σ H Q) : PG X tg t' := ⟨fun pins s σ H v u Q I r h' => h.run pins s σ H v u Q I r (k _ _ _ _ h')⟩
theorem PGs_weak {t t' : TGs} (h : PGs X es t) (k : ∀ v σ H Q, t' v σ H Q → t v σ H Q) : PGs X es t' := ⟨fun pins s σ H v u Q I r h' => h.run pins s σ H v u Q I r (k _ _ _ _ h')⟩
theorem set_z {i : Nat} (h : G[i]? = some .z) : G.set i .z = G := by
  apply List.ext_getElem?
  intro j
  by_cases q : i = j
  · subst q
    rw [List.getElem?_set_self (List.getElem?_eq_some_iff.mp h).1, h]
  · rw [List.getElem?_set_ne q]
theorem dg_name {i : Nat} {x : Str} (hN : X.N.Nodup) (hi : X.N[i]? = some x) (hx : Loc X.env.scope x) (hG : G[i]? = some .z) (hf : X.fn x = true ∨ X.env.scope.names.lookup x = some .local := by first | exact .inl rfl | exact .inr rfl | assumption) : PG X (.Name x pos) (tDG C G (.nm i)) := by
  refine PG_weak (pg_name hN hi hx hf) fun v σ H Q q => ?_
  obtain ⟨F, P, Lk, r, d, r', E, R, e, k⟩ := q
  simp only [Tg.put] at e
  split at e
  · rename_i hl
    cases e
    refine k _ ⟨by simp, fun j hj => ?_⟩ F H (Ext.refl F) ?_
    · rw [List.getElem?_set_ne]
      rintro rfl
      exact hj (by simp [Tg.slots])
    · have z := (E.zcons R).put hl
      rw [set_z hG] at z
      exact z
  · cases e
theorem dgs_nil : PGs X [] (tDGs C G []) := by
  refine PGs_weak pgs_nil fun v σ H Q q => ?_
  obtain ⟨F, P, Lk, r, ds, r', E, R, e, k⟩ := q
  cases ds with
  | nil =>
    cases R
    simp [Tg.putL] at e
    subst e
    exact ⟨rfl, k σ ⟨rfl, fun _ _ => rfl⟩ F H (Ext.refl F) E⟩
  | cons d ds => simp [Tg.putL] at e
theorem dgs_cons {t : Tg} {ts : List Tg} (h1 : PG X e (tDG C G t)) (h2 : PGs X es (tDGs C G ts)) (hs : (assignEach (e :: es) X.env).map (·.2) = assign e X.env :: (assignEach es X.env).map (·.2) := by rfl) : PGs X (e :: es) (tDGs C G (t :: ts)) := by
  refine PGs_weak (pgs_cons h1 h2 hs) fun v σ H Q q => ?_
  obtain ⟨F, P, Lk, r, ds, r', E, R, e, k⟩ := q
  cases ds with
  | nil => simp [Tg.putL] at e
  | cons d ds =>
    cases R with
    | cons a rr =>
      cases ht : t.put d r with
      | none => simp [Tg.putL, ht] at e
      | some r1 =>
        simp [Tg.putL, ht] at e
        refine ⟨_, _, rfl, F, P, Lk, r, d, r1, E, a, ht, fun σ1 o1 F1 H1 x1 E1 => ⟨F1, P, Lk, r1, ds, r', E1, rr.mono x1, e, fun σ2 o2 F2 H2 x2 E2 => k σ2 ?_ F2 H2 (x1.trans x2) E2⟩⟩
        have z := o1.trans o2
        simpa [Tg.slotsL] using z
theorem dg_tup {ts : List Tg} {k : Nat} {n : Nat} (hK : X.K = C.K) (hc : X.calm = true) (h : PGs X es (tDGs C G ts)) (hl : ts.length = n) (hn : (assignEach es X.env).length = n := by rfl) (hst : (assignEach es X.env).findIdx? (·.1) = none := by rfl) :
    PG X (.Tuple es k pos) (tDG C G (.tp ts)) := by
  refine PG_weak (pg_tup hc h hn hst) fun v σ H Q q => ?_
  obtain ⟨F, P, Lk, r, d, r', E, R, e, k⟩ := q
  have len : ∀ {ts : List Tg} {ds : List D} {r r' : DL.Env}, Tg.putL ts ds r = some r' → ds.length = ts.length := by
    intro ts
    induction ts with
    | nil => intro ds r r' h; cases ds <;> simp [Tg.putL] at h ⊢
    | cons t ts ih =>
      intro ds r r' h
      cases ds with
      | nil => simp [Tg.putL] at h
      | cons d ds =>
        cases ht : t.put d r with
        | none => simp [Tg.putL, ht] at h
        | some r1 => simp [Tg.putL, ht] at h; simp [ih h]
  cases R with
  | @tup a vs ds h rr =>
    have e : Tg.putL ts ds r = some r' := by simpa [Tg.put] using e
    obtain ⟨L, E1, S1⟩ := E
    refine ⟨a, vs, rfl, SqT.of (S1.tup h), by rw [rr.length, len e, hl], F, P, Lk, r, ds, r', ⟨L, E1, S1⟩, rr, e, fun σ' o' F' H' x' E' => k σ' (by simpa [Tg.slots] using o') F' H' x' E'⟩
  | _ => simp [Tg.put] at e
end

/-! ### for -/
def forL (t : Tg) (body : SS) : List D → DL.Env → Fl
  | [], r => .nx r
  | d :: ds, r => match t.put d r with
    | some r1 => (body r1).seq (forL t body ds)
    | none => .stk
def sFor (it : SI) (t : Tg) (body : SS) : SS := fun r => (it r).fl fun items r1 => forL t body items r1
section
variable {X : Cx} {W : WX} {R : Rt} {G : List O} {e tg iter : Expr} {body : List Stmt} {pos : Pos}
theorem Off.keep {l pm : List Nat} {σ σ' : L2.St} (h : Off l σ σ') (d : (l.all fun i => !pm.contains i) = true) : Keep pm σ σ' := fun i hi => h.2 i fun z => by
  have := List.all_eq_true.mp d i z
  rw [List.contains_iff_mem.mpr hi] at this
  cases this
theorem d_for {it : SI} {t : Tg} {bs : SS} (hW : WK W R.pm) (hp : PassesOwn (model X.prog X.w) X.A X.env X.xe) (hc : X.calm = true) (hi : PI X tg iter (tDI C W G it)) (hg : PG X tg (tDG C G t)) (hb : PSs X body (tDS C W R G bs G)) (hd : (t.slots.all fun i => !R.pm.contains i) = true)
    (hs : ∀ x, foldedSetIterable iter X.env x = pure x := by intro _; rfl) : PS X (.For tg iter body [] pos) (tDS C W R G (sFor it t bs) G) := by
  refine PS_weak (ps_for hp hc hi hg hb hs) fun D σ H q => ?_
  obtain ⟨F, P, Lk, r, E, q⟩ := q
  refine ⟨F, P, Lk, r, E, (RF.fl q).mono fun items r1 q1 J F1 H1 x1 E1 Y => ?_⟩
  refine ⟨fun i m σ' H' => m = items.length - i ∧ i ≤ items.length ∧ Keep R.pm σ σ' ∧ ∃ F' r', Ext F1 F' ∧ EnvX C [] F' P Lk G r' σ' H' ∧ RF C W F' P Lk σ' (forL t bs (items.drop i) r')
      (fun r' => ∀ σ'' F'' H'', Ext F' F'' → Keep R.pm σ' σ'' → EnvX C [] F'' P Lk G r' σ'' H'' → D.nx σ'' H'')
      (fun d r' => ∀ v σ'' F'' H'', Ext F' F'' → Keep R.pm σ' σ'' → RetX C F'' P Lk R.m R.Gs R.o v d r' σ'' H'' → D.rt v H''),
    ⟨items.length, rfl, Nat.zero_le _, Keep.refl, F1, r1, Ext.refl _, E1, ?_⟩, ?_⟩
  · rw [List.drop_zero]
    exact (q1.ext hW x1 (Sub.refl P) Keep.refl).mono (fun r2 q2 σ2 F2 H2 x2 k2 E2 => q2 σ2 F2 H2 (x1.trans x2) k2 E2) fun d r2 q2 v σ2 F2 H2 x2 k2 E2 => q2 v σ2 F2 H2 (x1.trans x2) k2 E2
  · rintro i m σ3 H3 ⟨rfl, hi', k3, F3, r3, x3, E3, q3⟩
    obtain ⟨L3, E3', S3⟩ := id E3
    by_cases hlt : i < items.length
    · refine .inr ⟨Y.go i F3 P Lk L3 H3 x3 S3 hlt, fun σ' H' => Keep R.pm σ σ' ∧ ∃ F' r', Ext F1 F' ∧ EnvX C [] F' P Lk G r' σ' H' ∧ RF C W F' P Lk σ' (forL t bs (items.drop (i + 1)) r')
          (fun r' => ∀ σ'' F'' H'', Ext F' F'' → Keep R.pm σ' σ'' → EnvX C [] F'' P Lk G r' σ'' H'' → D.nx σ'' H'')
          (fun d r' => ∀ v σ'' F'' H'', Ext F' F'' → Keep R.pm σ' σ'' → RetX C F'' P Lk R.m R.Gs R.o v d r' σ'' H'' → D.rt v H''), fun σ' H' ⟨k', F', r', x', E', q'⟩ => ⟨items.length - (i + 1), by omega, rfl, hlt, k', F', r', x', E', q'⟩, fun x H' y => ?_⟩
      obtain ⟨F4, d, x4, hd4, R4, S4⟩ := Y.yld i F3 P Lk L3 H3 x H' x3 S3 hlt y
      have e1 : items.drop i = d :: items.drop (i + 1) := by
        rw [List.drop_eq_getElem_cons hlt]
        congr 1
        rw [List.getElem?_eq_getElem hlt] at hd4
        exact Option.some.inj hd4
      rw [e1] at q3
      unfold forL at q3
      cases hput : t.put d r3 with
      | none => rw [hput] at q3; exact q3.elim
      | some r4 =>
        rw [hput] at q3
        refine ⟨F4, P, Lk, r3, d, r4, ⟨L3, E3', S4⟩, R4, hput, fun σ5 o5 F5 H5 x5 E5 => ?_⟩
        have k5 := o5.keep hd
        have x4 := x4.trans x5
        refine ⟨F5, P, Lk, r4, E5, (RF.seq (q3.ext hW x4 (Sub.refl P) k5)).mono (fun r6 q6 σ6 F6 H6 x6 k6 E6 => ?_) fun d6 r6 q6 v σ6 F6 H6 x6 k6 E6 => ?_⟩
        · refine ⟨k3.trans (k5.trans k6), F6, r6, x3.trans (x4.trans x6), E6, ?_⟩
          exact (q6.ext hW x6 (Sub.refl P) k6).mono (fun r2 q2 σ2 F2 H2 x2 k2 E2 => q2 σ2 F2 H2 ((x4.trans x6).trans x2) ((k5.trans k6).trans k2) E2) fun d r2 q2 v σ2 F2 H2 x2 k2 E2 => q2 v σ2 F2 H2 ((x4.trans x6).trans x2) ((k5.trans k6).trans k2) E2
        · exact q6 v σ6 F6 H6 (x4.trans x6) (k5.trans k6) E6
    · have e : i = items.length := by omega
      subst e
      rw [List.drop_length] at q3
      exact .inl ⟨Y.stop F3 P Lk L3 H3 x3 S3, q3 σ3 F3 H3 (Ext.refl _) Keep.refl E3⟩
end
end DL
set_option Elab.async false
set_option linter.all false
set_option autoImplicit false
set_option maxHeartbeats 1000000
/-! the data layer, part 7: owned lists; moves, views; list comprehensions -/
namespace DL
open PySem PySem.Spec PyProof.Rows L2
variable {C : Cfg}

/-! ### holes: cells that are at hand, not yet held by the list of cells -/
structure SttH (C : Cfg) (F P : Hp) (Lk : Lock) (as : List Addr) (L : List Cell) (H : Hp) : Prop where
  le : ∀ a o, F a = some o → H a = some (lk Lk a o)
  pe : Sub P H
  dj : ∀ a o, P a = some o → F a = none
  ld : (∀ a, Lk a = none) ∧ ∀ a xs, P a ≠ some (.tup xs)
  ow : ∃ fp, Owns C F H L fp ∧ (as ++ fp).Nodup ∧ ∀ a ∈ as ++ fp, F a = none ∧ P a = none
def cellsOf (o : O) (vs : List V) (ds : List D) : List Cell := (vs.zip ds).map fun p => (o, p.1, p.2)
theorem OwnL.iff {F H : Hp} {o : O} : ∀ {vs : List V} {ds : List D} {fp : List Addr}, OwnL (Own C F H o) vs ds fp ↔ vs.length = ds.length ∧ Owns C F H (cellsOf o vs ds) fp
  | [], [], fp => by simp [OwnL, cellsOf, Owns]
  | v :: vs, d :: ds, fp => by
    constructor
    · rintro ⟨f1, f2, rfl, p, r⟩
      obtain ⟨l, q⟩ := OwnL.iff.mp r
      exact ⟨by simp [l], f1, f2, rfl, p, q⟩
    · rintro ⟨l, f1, f2, rfl, p, r⟩
      exact ⟨f1, f2, rfl, p, OwnL.iff.mpr ⟨by simpa using l, r⟩⟩
  | [], _ :: _, fp => by simp [OwnL]
  | _ :: _, [], fp => by simp [OwnL]
section
variable {F F' P H H' : Hp} {Lk : Lock} {L M : List Cell} {a : Addr} {as : List Addr} {o : O} {d : D} {ds : List D} {vs : List V} {v : V}
theorem Stt.toH (h : Stt C F P Lk L H) : SttH C F P Lk [] L H := ⟨h.le, h.pe, h.dj, h.ld, by simpa using h.ow⟩
theorem SttH.perm (h : SttH C F P Lk as L H) (p : L.Perm M) : SttH C F P Lk as M H := by
  obtain ⟨fp, o, n, d⟩ := h.ow
  obtain ⟨g, og, pg⟩ := o.perm p
  have pp := pg.append_left as
  exact ⟨h.le, h.pe, h.dj, h.ld, g, og, pp.nodup_iff.mp n, fun a ha => d a (pp.mem_iff.mpr ha)⟩
theorem SttH.tail {x : Cell} (h : SttH C F P Lk as (x :: L) H) : SttH C F P Lk as L H := by
  obtain ⟨fp, ⟨f1, f2, rfl, p, r⟩, n, d⟩ := h.ow
  have sub : (as ++ f2).Sublist (as ++ (f1 ++ f2)) := (List.Sublist.refl as).append (List.sublist_append_right f1 f2)
  exact ⟨h.le, h.pe, h.dj, h.ld, f2, r, n.sublist sub, fun a ha => d a (sub.subset ha)⟩
theorem SttH.drop (h : SttH C F P Lk as (M ++ L) H) : SttH C F P Lk as L H := by
  induction M with
  | nil => exact h
  | cons x xs ih => exact ih h.tail
theorem SttH.zcons (r : Rep C F v d) (h : SttH C F P Lk as L H) : SttH C F P Lk as ((.z, v, d) :: L) H := by
  obtain ⟨fp, o, n, q⟩ := h.ow
  exact ⟨h.le, h.pe, h.dj, h.ld, fp, ⟨[], fp, rfl, ⟨r, rfl⟩, o⟩, n, q⟩
theorem SttH.zcell (r : RepL C F vs ds) (h : SttH C F P Lk as L H) : SttH C F P Lk as (cellsOf .z vs ds ++ L) H := by
  induction vs generalizing ds with
  | nil => cases r; exact h
  | cons v vs ih =>
    cases r with
    | cons a b => exact (ih b).zcons a
/-- an owned list is opened -/
theorem Stt.openL (h : Stt C F P Lk ((.c o, v, .lst ds) :: L) H) : ∃ a vs, v = .ref a ∧ H a = some (.lst vs) ∧ vs.length = ds.length ∧ SttH C F P Lk [a] (cellsOf o vs ds ++ L) H := by
  obtain ⟨fp, ⟨f1, f2, rfl, p, r⟩, n, dd⟩ := h.ow
  obtain ⟨a, fps, rfl, rfl, p⟩ := p
  rcases p with ⟨vs, ds', h1, h2, h3⟩ | ⟨kvs, ds', h1, h2, h3⟩ | ⟨kvs, ds', h1, h2, h4, h3⟩
  · cases h2
    obtain ⟨l, q⟩ := OwnL.iff.mp h3
    exact ⟨a, vs, rfl, h1, l, h.le, h.pe, h.dj, h.ld, fps ++ f2, q.append r, n, dd⟩
  · cases h2
  · cases h2
theorem SttH.upd_ok {q : HO} (h : SttH C F P Lk (a :: as) L H) : SttH C F P Lk (a :: as) L (upd H a q) := by
  obtain ⟨fp, o, n, d⟩ := h.ow
  have fa := d a (by simp)
  have na : ∀ b ∈ fp, b ≠ a := fun b hb e => by
    subst e
    have := (List.nodup_cons.mp (show (b :: (as ++ fp)).Nodup from n)).1
    exact this (List.mem_append_right _ hb)
  refine ⟨fun b x e => ?_, fun b x e => ?_, h.dj, h.ld, fp, o.keep (Ext.refl _) (fun b hb => upd_ne (na b hb)), n, d⟩
  · rw [upd_ne (fun z => by rw [z, fa.1] at e; cases e)]; exact h.le b x e
  · rw [upd_ne (fun z => by rw [z, fa.2] at e; cases e)]; exact h.pe b x e
theorem SttH.closeL (h : SttH C F P Lk [a] (cellsOf o vs ds ++ L) H) (l : vs.length = ds.length) : Stt C F P Lk ((.c o, .ref a, .lst ds) :: L) (upd H a (.lst vs)) := by
  have h := h.upd_ok (q := .lst vs)
  obtain ⟨fp, ow, n, d⟩ := h.ow
  obtain ⟨f1, f2, rfl, o1, o2⟩ := ow.split
  refine ⟨h.le, h.pe, h.dj, h.ld, (a :: f1) ++ f2, ⟨a :: f1, f2, rfl, ⟨a, f1, rfl, rfl, .inl ⟨vs, ds, upd_same, rfl, OwnL.iff.mpr ⟨l, o1⟩⟩⟩, o2⟩, n, d⟩
theorem SttH.closeK {kvs : List (Key × V)} (h : SttH C F P Lk [a] (cellsOf o (kvs.map (·.2)) ds ++ L) H) (l : kvs.length = ds.length) : Stt C F P Lk ((.c o, .ref a, .dct false ((kvs.map fun p => keyD p.1).zip ds)) :: L) (upd H a (.dK kvs)) := by
  have h := h.upd_ok (q := .dK kvs)
  obtain ⟨fp, ow, n, d⟩ := h.ow
  obtain ⟨f1, f2, rfl, o1, o2⟩ := ow.split
  refine ⟨h.le, h.pe, h.dj, h.ld, (a :: f1) ++ f2, ⟨a :: f1, f2, rfl, ⟨a, f1, rfl, rfl, .inr (.inl ⟨kvs, ds, upd_same, rfl, OwnL.iff.mpr ⟨by simpa using l, o1⟩⟩)⟩, o2⟩, n, d⟩
theorem SttH.closeT {kvs : List (List Key × V)} (h : SttH C F P Lk [a] (cellsOf o (kvs.map (·.2)) ds ++ L) H) (l : kvs.length = ds.length) (hk : ∀ p ∈ kvs, ∃ b, F b = some (.tup (p.1.map kV))) : Stt C F P Lk ((.c o, .ref a, .dct true ((kvs.map fun p => tupD p.1).zip ds)) :: L) (upd H a (.dT kvs)) := by
  have h := h.upd_ok (q := .dT kvs)
  obtain ⟨fp, ow, n, d⟩ := h.ow
  obtain ⟨f1, f2, rfl, o1, o2⟩ := ow.split
  refine ⟨h.le, h.pe, h.dj, h.ld, (a :: f1) ++ f2, ⟨a :: f1, f2, rfl, ⟨a, f1, rfl, rfl, .inr (.inr ⟨kvs, ds, upd_same, rfl, hk, OwnL.iff.mpr ⟨by simpa using l, o1⟩⟩)⟩, o2⟩, n, d⟩
theorem Stt.openK {kds : List (D × D)} (h : Stt C F P Lk ((.c o, v, .dct false kds) :: L) H) : ∃ a kvs ds, v = .ref a ∧ H a = some (.dK kvs) ∧ kvs.length = ds.length ∧ kds = (kvs.map fun p => keyD p.1).zip ds ∧ SttH C F P Lk [a] (cellsOf o (kvs.map (·.2)) ds ++ L) H := by
  obtain ⟨fp, ⟨f1, f2, rfl, p, r⟩, n, dd⟩ := h.ow
  obtain ⟨a, fps, rfl, rfl, p⟩ := p
  rcases p with ⟨vs, ds', h1, h2, h3⟩ | ⟨kvs, ds', h1, h2, h3⟩ | ⟨kvs, ds', h1, h2, h4, h3⟩
  · cases h2
  · cases h2
    obtain ⟨l, q⟩ := OwnL.iff.mp h3
    exact ⟨a, kvs, ds', rfl, h1, by simpa using l, rfl, h.le, h.pe, h.dj, h.ld, fps ++ f2, q.append r, n, dd⟩
  · cases h2
theorem Stt.openT {kds : List (D × D)} (h : Stt C F P Lk ((.c o, v, .dct true kds) :: L) H) : ∃ a kvs ds, v = .ref a ∧ H a = some (.dT kvs) ∧ kvs.length = ds.length ∧ kds = (kvs.map fun p => tupD p.1).zip ds ∧ (∀ p ∈ kvs, ∃ b, F b = some (.tup (p.1.map kV))) ∧ SttH C F P Lk [a] (cellsOf o (kvs.map (·.2)) ds ++ L) H := by
  obtain ⟨fp, ⟨f1, f2, rfl, p, r⟩, n, dd⟩ := h.ow
  obtain ⟨a, fps, rfl, rfl, p⟩ := p
  rcases p with ⟨vs, ds', h1, h2, h3⟩ | ⟨kvs, ds', h1, h2, h3⟩ | ⟨kvs, ds', h1, h2, h4, h3⟩
  · cases h2
  · cases h2
  · cases h2
    obtain ⟨l, q⟩ := OwnL.iff.mp h3
    exact ⟨a, kvs, ds', rfl, h1, by simpa using l, rfl, h4, h.le, h.pe, h.dj, h.ld, fps ++ f2, q.append r, n, dd⟩
/-- a new place -/
theorem Stt.hole (h : Stt C F P Lk L H) (hp : H a = none) : SttH C F P Lk [a] L H := by
  obtain ⟨fp, ow, n, d⟩ := h.ow
  refine ⟨h.le, h.pe, h.dj, h.ld, fp, ow, List.nodup_cons.mpr ⟨fun z => ?_, n⟩, fun b hb => ?_⟩
  · obtain ⟨ob, hb⟩ := ow.live a z
    rw [hp] at hb; cases hb
  · rcases List.mem_cons.mp hb with rfl | hb
    · refine ⟨?_, ?_⟩
      · cases q : F b with
        | none => rfl
        | some ob => have := h.le b ob q; rw [hp] at this; cases this
      · cases q : P b with
        | none => rfl
        | some ob => have := h.pe b ob q; rw [hp] at this; cases this
    · exact d b hb
/-- a new owned list of cells at hand -/
theorem Stt.newL (h : Stt C F P Lk (cellsOf o vs ds ++ L) H) (l : vs.length = ds.length) (hp : H a = none) : Stt C F P Lk ((.c o, .ref a, .lst ds) :: L) (upd H a (.lst vs)) := (h.hole hp).closeL l
theorem Stt.newE (h : Stt C F P Lk L H) (hp : H a = none) : Stt C F P Lk ((.c o, .ref a, .lst []) :: L) (upd H a (.lst [])) := Stt.newL (vs := []) (ds := []) h rfl hp
theorem cellsOf_append {vs ws : List V} {ds es : List D} (l : vs.length = ds.length) : cellsOf o (vs ++ ws) (ds ++ es) = cellsOf o vs ds ++ cellsOf o ws es := by
  unfold cellsOf
  rw [List.zip_append l, List.map_append]
/-- an item goes to the end of an owned list -/
theorem Stt.appL {y : V} {e : D} (h : Stt C F P Lk ((o, y, e) :: (.c o, v, .lst ds) :: L) H) : ∃ a vs, v = .ref a ∧ H a = some (.lst vs) ∧ vs.length = ds.length ∧ Stt C F P Lk ((.c o, v, .lst (ds ++ [e])) :: L) (upd H a (.lst (vs ++ [y]))) := by
  obtain ⟨a, vs, rfl, h1, l, h2⟩ := (h.perm (List.Perm.swap _ _ _)).openL
  refine ⟨a, vs, rfl, h1, l, ?_⟩
  refine SttH.closeL ?_ (by simp [l])
  rw [cellsOf_append l]
  exact h2.perm (by simp [cellsOf])
end

/-! ### moves, freezing, views -/
def eMv (i : Nat) : SE := fun r => match r[i]? with
  | some (some d) => .ok d (r.set i none)
  | _ => .stk
def flat : D → Bool
  | .non => true
  | .bl _ => true
  | .int _ => true
  | .str _ => true
  | _ => false
/-- a plain value, read off slots that stay as they are -/
def eView (f : SE) : SE := fun r => match f r with
  | .ok d _ => if flat d = true then .ok d r else .stk
  | _ => .stk
def tView (f : ST) : ST := fun r => match f r with
  | .ok d _ => .ok d r
  | _ => .stk
def zG (G : List O) : List O := G.map fun _ => .z
section
variable {X : Cx} {W : WX} {G : List O} {e : Expr} {pos : Pos} {F P H : Hp} {Lk : Lock} {r : DL.Env} {σ : L2.St}
theorem de_mv {i : Nat} {x : Str} {o : O} (hG : G[i]? = some o) (hN : X.N[i]? = some x) (hv : Vis X.env.scope x) (hd : (x == ("__debug__" : Str)) = false := by decide) (hcd : (x == ("__classdict__" : Str)) = false := by decide) :
    PE X (.Name x pos) (tD C W G (eMv i) o) := by
  refine PE_weak (pe_var hN hv hd hcd) fun σ H Q h => ?_
  obtain ⟨F, P, Lk, r, E, h⟩ := h
  unfold eMv at h
  split at h
  · rename_i d hd
    obtain ⟨v, h1, E1⟩ := E.take hd hG
    exact ⟨v, h1, h v F H (Ext.refl F) E1⟩
  · exact h.elim
theorem de_frz {f : SE} {o : O} (h : PE X e (tD C W G f o)) : PE X e (tD C W G f .z) := by
  refine PE_weak h fun σ H Q q => ?_
  obtain ⟨F, P, Lk, r, E, q⟩ := q
  refine ⟨F, P, Lk, r, E, q.mono fun d r1 q1 v F1 H1 x1 E1 => ?_⟩
  obtain ⟨L, e, s⟩ := E1
  obtain ⟨F2, x2, s2⟩ := s.freeze1
  exact q1 v F2 H1 (x1.trans x2) ⟨L, e, s2⟩
theorem flat_rep {F F' : Hp} {v : V} {d : D} (h : Rep C F v d) (f : flat d = true) : Rep C F' v d := by
  cases h with
  | non => exact .non
  | bl b => exact .bl b
  | int i => exact .int i
  | str x => exact .str x
  | _ => simp [flat] at f
theorem EnvR.zed {L : List Cell} (h : EnvR G r σ L) : EnvR (zG G) r σ (L.map fun x => (O.z, x.2.1, x.2.2)) := by
  induction h with
  | nil => exact .nil
  | skip h ih => exact .skip ih
  | «have» h ih => exact .have ih
/-- some things of ours may have been locked -/
def Lkd (fp : List Addr) (H H2 : Hp) : Prop := ∀ a ∈ fp, ∃ u, H a = some u ∧ (H2 a = some u ∨ (isDc u = true ∧ ∃ ob, H2 a = some (.frz ob u)))
theorem mut_dc {u : HO} (h : isDc u = true) : Mut (some u) := by
  cases u <;> first | trivial | cases h
theorem unlock_all {pins : List (Addr × Obj)} {s s2 : Shared} {σ2 : L2.St} {H0 : Hp} (I : Inv X pins σ H s) : ∀ (fp : List Addr) (H2 : Hp), Inv X pins σ2 H2 s2 → Lkd fp H H2 → ∃ H3, Inv X pins σ2 H3 s2 ∧ (∀ a ∈ fp, H3 a = H a) ∧ ∀ a, a ∉ fp → H3 a = H2 a
  | [], H2, I2, _ => ⟨H2, I2, fun a ha => absurd ha (by simp), fun _ _ => rfl⟩
  | a :: fp, H2, I2, k => by
    obtain ⟨u, h1, h2⟩ := k a List.mem_cons_self
    have go : ∃ H4, Inv X pins σ2 H4 s2 ∧ H4 a = some u ∧ ∀ b, b ≠ a → H4 b = H2 b := by
      rcases h2 with h2 | ⟨d, ob, h2⟩
      · exact ⟨H2, I2, h2, fun _ _ => rfl⟩
      · exact ⟨upd H2 a u, I2.unlock h2 (I.nofrz h1 (mut_dc d)), upd_same, fun b hb => upd_ne hb⟩
    obtain ⟨H4, I4, e4, n4⟩ := go
    obtain ⟨H3, I3, e3, n3⟩ := unlock_all (H0 := H0) I fp H4 I4 fun b hb => by
      by_cases q : b = a
      · subst q
        exact ⟨u, h1, .inl e4⟩
      · rw [n4 b q]; exact k b (List.mem_cons_of_mem _ hb)
    refine ⟨H3, I3, fun b hb => ?_, fun b hb => ?_⟩
    · by_cases q : b ∈ fp
      · exact e3 b q
      · rcases List.mem_cons.mp hb with rfl | z
        · rw [n3 b q, e4, h1]
        · exact absurd z q
    · have h5 : b ≠ a := fun z => hb (by rw [z]; exact List.mem_cons_self)
      rw [n3 b fun z => hb (List.mem_cons_of_mem _ z), n4 b h5]
/-- all slots are frozen for a while -/
theorem EnvX.view (h : EnvX C [] F P Lk G r σ H) : ∃ F1 fp, Ext F F1 ∧ EnvX C [] F1 P Lk (zG G) r σ H ∧ ∀ F2 H2 G2 r2, Ext F1 F2 → EnvX C [] F2 P Lk G2 r2 σ H2 → Lkd fp H H2 ∧ ∀ H3, (∀ a ∈ fp, H3 a = H a) → (∀ a, a ∉ fp → H3 a = H2 a) → ∃ F', Ext F F' ∧ EnvX C [] F' P Lk G r σ H3 := by
  obtain ⟨L, e, s⟩ := h
  have s : Stt C F P Lk L H := s
  obtain ⟨fp, o, n, d⟩ := s.ow
  have live := o.live
  have s0 : Stt C F P Lk (L ++ []) H := by rw [List.append_nil]; exact s
  -- the freezing of all
  have ag : ∀ a ∈ fp, join F (only H fp) a = H a := fun a ha => by rw [join_r (d a ha).1, only_in ha]
  refine ⟨join F (only H fp), fp, join_ext, ⟨_, e.zed, ?_⟩, fun F2 H2 G2 r2 x2 ⟨L2, e2, s2⟩ => ⟨fun a ha => ?_, fun H3 h3 n3 => ⟨fun a => if F a = none then none else F2 a, fun a ob q => ?_, L, e, ?_⟩⟩⟩
  · have fz : Stt C (join F (only H fp)) P Lk [] H := by
      refine ⟨fun a ob e => ?_, s.pe, fun a ob e => ?_, s.ld, [], rfl, List.nodup_nil, fun a ha => by simp at ha⟩
      · by_cases hf : F a = none
        · rw [join_r hf] at e
          by_cases ha : a ∈ fp
          · rw [only_in ha] at e
            have hl : Lk a = none := s.ld.1 a
            rw [e]; unfold lk; rw [hl]
          · rw [only_out ha] at e; cases e
        · obtain ⟨o', ho⟩ := Option.ne_none_iff_exists'.mp hf
          rw [join_l ho] at e
          cases e
          exact s.le a _ ho
      · have hf := s.dj a ob e
        rw [join_r hf]
        by_cases ha : a ∈ fp
        · have z := (d a ha).2
          rw [e] at z; cases z
        · exact only_out ha
    have aux : ∀ (M : List Cell) (g : List Addr), (∀ a ∈ g, join F (only H fp) a = H a) → Owns C F H M g → Stt C (join F (only H fp)) P Lk (M.map fun x => (O.z, x.2.1, x.2.2)) H := by
      intro M
      induction M with
      | nil => intro g _ _; exact fz
      | cons y ys ih =>
        rintro g ag ⟨g1, g2, rfl, p, r⟩
        exact (ih g2 (fun a ha => ag a (List.mem_append_right _ ha)) r).zcons (p.rep join_ext fun a ha => ag a (List.mem_append_left _ ha))
    exact aux L fp ag o
  · obtain ⟨ob, hb⟩ := live a ha
    refine ⟨ob, hb, ?_⟩
    rcases x2 a ob (by rw [ag a ha]; exact hb) with z | ⟨z1, ob2, z⟩
    · exact .inl (s2.at z)
    · exact .inr ⟨z1, ob2, s2.at z⟩
  · have hf : F a ≠ none := by rw [q]; simp
    dsimp only
    rw [if_neg hf]
    exact x2 _ _ (join_l q)
  · have hout : ∀ a, F a ≠ none → a ∉ fp := fun a h1 h2 => h1 (d a h2).1
    have xt : Ext F (fun a => if F a = none then none else F2 a) := fun a ob q => by
      have hf : F a ≠ none := by rw [q]; simp
      dsimp only
      rw [if_neg hf]
      exact x2 _ _ (join_l q)
    refine ⟨fun a ob q => ?_, fun a ob q => ?_, fun a ob q => ?_, s.ld, fp, o.keep xt h3, n, fun a ha => ⟨?_, (d a ha).2⟩⟩
    · have q : (if F a = none then none else F2 a) = some ob := q
      by_cases hf : F a = none
      · rw [if_pos hf] at q; cases q
      · rw [if_neg hf] at q
        rw [n3 a (hout a hf)]
        exact s2.le a ob q
    · have ha : a ∉ fp := fun z => by have := (d a z).2; rw [q] at this; cases this
      rw [n3 a ha]
      exact s2.pe a ob q
    · exact if_pos (s.dj a ob q)
    · exact if_pos (d a ha).1
theorem de_view {f : SE} (h : PE X e (tD C W (zG G) f .z)) : PE X e (tD C W G (eView f) .z) := by
  refine ⟨fun pins s σ H Q I q => ?_⟩
  obtain ⟨F, P, Lk, r, E, q⟩ := q
  obtain ⟨F1, fp, x1, E1, back⟩ := E.view
  unfold eView at q
  cases hf : f r with
  | stk => rw [hf] at q; exact q.elim
  | exc c fs => rw [hf] at q; exact q.elim
  | ok d r1 =>
    rw [hf] at q
    dsimp only at q
    by_cases hd : flat d = true
    · rw [if_pos hd] at q
      refine thn (h.run pins s σ H (fun v H2 => Lkd fp H H2 ∧ ∀ H3, (∀ a ∈ fp, H3 a = H a) → (∀ a, a ∉ fp → H3 a = H2 a) → Q v H3) I ⟨F1, P, Lk, r, E1, ?_⟩) fun v s1 hv => ?_
      · rw [hf]
        refine fun v F2 H2 x2 E2 => ?_
        obtain ⟨R2, E2⟩ := E2.rep
        obtain ⟨l, b⟩ := back F2 H2 _ _ x2 E2
        refine ⟨l, fun H3 h3 n3 => ?_⟩
        obtain ⟨F', x', E'⟩ := b H3 h3 n3
        exact q v F' H3 x' (E'.zcons (flat_rep R2 hd))
      · obtain ⟨x, H2, I2, rx, l, b⟩ := hv
        obtain ⟨H3, I3, h3, n3⟩ := unlock_all (H0 := H) I fp H2 I2 l
        exact ⟨x, H3, I3, rx, b H3 h3 n3⟩
    · rw [if_neg hd] at q; exact q.elim
theorem dt_view {f : ST} (h : PT X e (tDT C W (zG G) f)) : PT X e (tDT C W G (tView f)) := by
  refine ⟨fun pins s σ H Q I q => ?_⟩
  obtain ⟨F, P, Lk, r, E, q⟩ := q
  obtain ⟨F1, fp, x1, E1, back⟩ := E.view
  unfold tView at q
  cases hf : f r with
  | stk => rw [hf] at q; exact q.elim
  | exc c fs => rw [hf] at q; exact q.elim
  | ok d r1 =>
    rw [hf] at q
    refine thn (h.run pins s σ H (fun v H2 => Lkd fp H H2 ∧ ∀ H3, (∀ a ∈ fp, H3 a = H a) → (∀ a, a ∉ fp → H3 a = H2 a) → Q v H3) I ⟨F1, P, Lk, r, E1, ?_⟩) fun v s1 hv => ?_
    · rw [hf]
      refine fun F2 H2 x2 E2 => ?_
      obtain ⟨l, b⟩ := back F2 H2 _ _ x2 E2
      refine ⟨l, fun H3 h3 n3 => ?_⟩
      obtain ⟨F', x', E'⟩ := b H3 h3 n3
      exact q F' H3 x' E'
    · obtain ⟨H2, I2, l, b⟩ := hv
      obtain ⟨H3, I3, h3, n3⟩ := unlock_all (H0 := H) I fp H2 I2 l
      exact ⟨H3, I3, b H3 h3 n3⟩
end

/-! ### list comprehensions -/
def bndN {α β : Type} (x : Res α) (k : α → DL.Env → Res β) : Res β := match x with
  | .ok a r => k a r
  | _ => .stk
def wipeE (r : DL.Env) : List Nat → DL.Env
  | [] => r
  | v :: vs => (wipeE r vs).set v none
/-- the block's own slots as they were -/
def restE (r : DL.Env) : List Nat → DL.Env → DL.Env
  | [], r' => r'
  | v :: vs, r' => restE r vs (r'.set v ((wipeE r vs)[v]?.getD none))
def lcL (t : Tg) (vs : List Nat) (ts : ST) (f : SE) : List D → DL.Env → Res (List D)
  | [], r => .ok [] r
  | d :: ds, r => match t.put d r with
    | some r1 => bndN (ts r1) fun b r2 => if b = true then bndN (f r2) fun x r3 => bndN (lcL t vs ts f ds (wipeE r3 vs)) fun xs r4 => .ok (x :: xs) r4 else lcL t vs ts f ds (wipeE r2 vs)
    | none => .stk
def eLc (it : SI) (vs : List Nat) (t : Tg) (ts : ST) (f : SE) : SE := fun r => (it r).bind fun items r1 => bndN (lcL t vs ts f items (wipeE r1 vs)) fun xs r2 => if xs.length ≤ sizeLine then .ok (.lst xs) (restE r1 vs r2) else .stk
def W0 : WX := fun _ _ _ _ => False
def tDTs (C : Cfg) (G : List O) (f : ST) : TT := tDT C W0 G f
section
variable {X : Cx} {W : WX} {G : List O} {e elt tg iter : Expr} {ifs : List Expr} {pos : Pos} {F F' P P' H H' : Hp} {Lk Lk' : Lock} {r r' : DL.Env} {σ : L2.St} {T T' : List Cell}
theorem EnvR.wipe1 {L : List Cell} (h : EnvR G r σ L) (i : Nat) : ∃ L' T, EnvR G (r.set i none) (σ.set i none) L' ∧ L.Perm (T ++ L') := by
  obtain ⟨L', T, a, p⟩ := h.clear i
  refine ⟨L', T, a.slots (by simp) fun j d e => ?_, p⟩
  by_cases hij : i = j
  · subst hij
    by_cases hl : i < r.length
    · rw [List.getElem?_set_self hl] at e; cases e
    · rw [List.getElem?_eq_none (by simpa using hl)] at e; cases e
  · rw [List.getElem?_set_ne hij]
theorem EnvX.wipe1 (h : EnvX C T F P Lk G r σ H) (i : Nat) : EnvX C T F P Lk G (r.set i none) (σ.set i none) H := by
  obtain ⟨L, a, s⟩ := h
  obtain ⟨L', T1, b, p⟩ := a.wipe1 i
  refine ⟨L', b, ?_⟩
  have s1 : Stt C F P Lk (T1 ++ (T ++ L')) H := s.perm ((p.append_left T).trans (by
    rw [← List.append_assoc, ← List.append_assoc]
    exact List.perm_append_comm.append_right L'))
  exact s1.drop
theorem EnvX.slotZ {i : Nat} {d : D} (h : EnvX C T F P Lk G r σ H) (e : r[i]? = some (some d)) (g : G[i]? = some .z) : ∃ v, σ[i]? = some (some v) ∧ Rep C F v d := by
  obtain ⟨v, h1, h2⟩ := h.take e g
  exact ⟨v, h1, h2.rep.1⟩
theorem EnvX.none_at {i : Nat} (h : EnvX C T F P Lk G r σ H) (e : ∀ v, σ[i]? ≠ some (some v)) (d : D) : r[i]? ≠ some (some d) := by
  intro q
  obtain ⟨L, a, s⟩ := h
  have hl := a.len
  have gi : i < G.length := by rw [hl.1]; exact (List.getElem?_eq_some_iff.mp q).1
  obtain ⟨v, h1, _⟩ := a.get q (List.getElem?_eq_getElem gi)
  exact e v h1
theorem EnvX.slots {σ' : L2.St} (h : EnvX C T F P Lk G r σ H) (hl : σ'.length = σ.length) (k : ∀ (i : Nat) (d : D), r[i]? = some (some d) → σ'[i]? = σ[i]?) : EnvX C T F P Lk G r σ' H := by
  obtain ⟨L, a, s⟩ := h
  exact ⟨L, a.slots hl k, s⟩
theorem EnvX.rest1 {i : Nat} (h : EnvX C T F P Lk G r σ H) (g : G[i]? = some .z) (x : Ext F F') (h' : EnvX C T' F' P' Lk' G r' (σ.set i none) H') : EnvX C T' F' P' Lk' G (r'.set i (r[i]?.getD none)) σ H' := by
  have ni : ∀ d, r'[i]? ≠ some (some d) := h'.none_at fun v q => by
    by_cases hl : i < σ.length
    · rw [List.getElem?_set_self hl] at q; cases q
    · rw [List.getElem?_eq_none (by simpa using hl)] at q; cases q
  have h2 : EnvX C T' F' P' Lk' G r' σ H' := h'.slots (by simp) fun j d e => by
    have : i ≠ j := fun z => by subst z; exact ni d e
    rw [List.getElem?_set_ne this]
  have hl := h.len
  have hl' := h2.len
  have il : i < r'.length := by
    have := (List.getElem?_eq_some_iff.mp g).1
    omega
  have r'i : r'[i]? = some none := by
    rw [List.getElem?_eq_getElem il]
    cases q : r'[i] with
    | none => rfl
    | some d => exact absurd (by rw [List.getElem?_eq_getElem il, q]) (ni d)
  have ir : i < r.length := by omega
  cases q : r[i] with
  | none =>
    rw [List.getElem?_eq_getElem ir, q]
    have : r'.set i (Option.getD (some (none : Option D)) none) = r' := by
      apply List.ext_getElem?
      intro j
      by_cases hij : i = j
      · subst hij; rw [List.getElem?_set_self il, r'i]; rfl
      · rw [List.getElem?_set_ne hij]
    rw [this]
    exact h2
  | some d =>
    have e : r[i]? = some (some d) := by rw [List.getElem?_eq_getElem ir, q]
    obtain ⟨v, hv, R⟩ := h.slotZ e g
    rw [e]
    exact EnvX.back (h2.zcons (R.mono x)) r'i g hv
theorem EnvX.wipe : ∀ {vs : List Nat} {σ : L2.St} {r : DL.Env}, (∀ i ∈ vs, G[i]? = some .z) → EnvX C T F P Lk G r σ H → EnvX C T F P Lk G (wipeE r vs) (wipe σ vs) H
  | [], _, _, _, h => h
  | v :: vs, _, _, g, h => (EnvX.wipe (vs := vs) (fun i hi => g i (List.mem_cons_of_mem _ hi)) h).wipe1 v
theorem EnvX.rest : ∀ {vs : List Nat} {r' : DL.Env}, (∀ i ∈ vs, G[i]? = some .z) → EnvX C T F P Lk G r σ H → Ext F F' → EnvX C T' F' P' Lk' G r' (L2.wipe σ vs) H' → EnvX C T' F' P' Lk' G (restE r vs r') σ H'
  | [], _, _, _, _, h' => h'
  | v :: vs, _, g, h, x, h' =>
    EnvX.rest (vs := vs) (fun i hi => g i (List.mem_cons_of_mem _ hi)) h x (EnvX.rest1 (EnvX.wipe (fun i hi => g i (List.mem_cons_of_mem _ hi)) h) (g v List.mem_cons_self) x h')
theorem wipe_twice {vs : List Nat} {σ σ2 : L2.St} (o : Off vs (wipe σ vs) σ2) : wipe σ2 vs = wipe σ vs := by
  have key : ∀ (σ : L2.St) (j : Nat), (L2.wipe σ vs)[j]? = if j ∈ vs then (if j < σ.length then some none else none) else σ[j]? := by
    intro σ j
    clear o
    induction vs with
    | nil => simp [L2.wipe]
    | cons v vs ih =>
      unfold L2.wipe
      by_cases hv : v = j
      · subst hv
        by_cases hl : v < σ.length
        · rw [List.getElem?_set_self (by rw [wipe_length]; exact hl)]; simp [hl]
        · rw [List.getElem?_eq_none (by simp [wipe_length]; omega)]; simp [hl]
      · rw [List.getElem?_set_ne hv, ih]
        have : (j ∈ v :: vs) ↔ j ∈ vs := by simp [Ne.symm hv]
        simp only [this]
  apply List.ext_getElem?
  intro j
  have hl : σ2.length = σ.length := by rw [o.1, wipe_length]
  rw [key, key, hl]
  by_cases h : j ∈ vs
  · simp [h]
  · have := o.2 j h
    rw [key] at this
    simp only [h, if_false] at this ⊢
    exact this
theorem lc_hyp {it : SI} {t : Tg} {ts : ST} {f : SE} {oe : O} {vs : List Nat} (hv : ∀ i ∈ vs, G[i]? = some .z) (ht : t.slots = vs) {σ : L2.St} {H : Hp} {Q : VK} (q : tD C W G (eLc it vs t ts f) (.c oe) σ H Q) :
    tLc (tDI C W G it) (tDG C G t) (tDTs C G ts) (tD C W0 G f oe) vs σ H Q := by
  obtain ⟨F, P, Lk, r, E, q⟩ := q
  refine ⟨F, P, Lk, r, E, (RD.bind q).mono fun items r1 q1 J F1 H1 x1 E1 Y Da hD => ?_⟩
  -- all that is made is known
  cases hl : lcL t vs ts f items (wipeE r1 vs) with
  | stk => rw [hl] at q1; exact q1.elim
  | exc c fs => rw [hl] at q1; exact q1.elim
  | ok all r9 =>
    rw [hl] at q1
    have q1 : RD C W F P Lk σ (if all.length ≤ sizeLine then Res.ok (D.lst all) (restE r1 vs r9) else .stk) _ := q1
    have hz : all.length ≤ sizeLine := by
      refine Decidable.byContradiction fun hz => ?_
      rw [if_neg hz] at q1; exact q1
    rw [if_pos hz] at q1
    refine ⟨fun i m H' => m = items.length - i ∧ i ≤ items.length ∧ ∃ F' r' acc xs, Ext F1 F' ∧ EnvX C [(.c oe, .ref Da, .lst acc)] F' P Lk G r' (wipe σ vs) H' ∧ lcL t vs ts f (items.drop i) r' = .ok xs r9 ∧ acc ++ xs = all,
      ⟨items.length, rfl, Nat.zero_le _, F1, _, [], all, Ext.refl _, ?_, by rw [List.drop_zero]; exact hl, rfl⟩, ?_⟩
    · obtain ⟨L, e, s⟩ := EnvX.wipe hv E1
      exact ⟨L, e, s.newE hD⟩
    · rintro i m H3 ⟨rfl, hi', F3, r3, acc, xs, x3, E3, h3, hall⟩
      obtain ⟨L3, e3, S3⟩ := id E3
      by_cases hlt : i < items.length
      · refine .inr ⟨Y.go i F3 P Lk _ H3 x3 S3 hlt, fun H' => ∃ F' r' acc xs, Ext F1 F' ∧ EnvX C [(.c oe, .ref Da, .lst acc)] F' P Lk G r' (wipe σ vs) H' ∧ lcL t vs ts f (items.drop (i + 1)) r' = .ok xs r9 ∧ acc ++ xs = all,
          fun H' ⟨F', r', acc', xs', z⟩ => ⟨items.length - (i + 1), by omega, rfl, hlt, F', r', acc', xs', z⟩, fun x H' y => ?_⟩
        obtain ⟨F4, d, x4, hd4, R4, S4⟩ := Y.yld i F3 P Lk _ H3 x H' x3 S3 hlt y
        have e1 : items.drop i = d :: items.drop (i + 1) := by
          rw [List.drop_eq_getElem_cons hlt]
          congr 1
          rw [List.getElem?_eq_getElem hlt] at hd4
          exact Option.some.inj hd4
        rw [e1] at h3
        unfold lcL at h3
        cases hput : t.put d r3 with
        | none => rw [hput] at h3; cases h3
        | some r4 =>
          rw [hput] at h3
          dsimp only at h3
          have E4 : EnvX C [(.c oe, .ref Da, .lst acc)] F4 P Lk G r3 (wipe σ vs) H' := ⟨L3, e3, S4⟩
          obtain ⟨P4, E4', eP4, unp4⟩ := E4.park
          refine ⟨F4, P4, Lk, r3, d, r4, E4', R4, hput, fun σ5 o5 F5 H5 x5 E5 => ?_⟩
          rw [ht] at o5
          have ws := wipe_twice o5
          refine ⟨ws, ?_⟩
          cases hts : ts r4 with
          | stk => rw [hts] at h3; cases h3
          | exc c fs => rw [hts] at h3; cases h3
          | ok b r5 =>
            rw [hts] at h3
            have h3 : (if b = true then bndN (f r5) fun x r3 => bndN (lcL t vs ts f (items.drop (i + 1)) (wipeE r3 vs)) fun xs r4 => .ok (x :: xs) r4 else lcL t vs ts f (items.drop (i + 1)) (wipeE r5 vs)) = .ok xs r9 := h3
            refine ⟨F5, P4, Lk, r4, E5, ?_⟩
            rw [hts]
            intro F6 H6 x6 E6
            have x6 := x5.trans x6
            cases b with
            | false =>
              rw [if_neg Bool.false_ne_true] at h3 ⊢
              have E7 := EnvX.wipe hv (unp4 _ _ _ _ _ _ _ x6 E6)
              rw [ws, List.append_nil] at E7
              exact ⟨F6, _, acc, xs, x3.trans (x4.trans x6), E7, h3, hall⟩
            | true =>
              rw [if_pos rfl] at h3 ⊢
              cases hf : f r5 with
              | stk => rw [hf] at h3; cases h3
              | exc c fs => rw [hf] at h3; cases h3
              | ok xd r7 =>
                rw [hf] at h3
                have h3 : (bndN (lcL t vs ts f (items.drop (i + 1)) (wipeE r7 vs)) fun xs r4 => .ok (xd :: xs) r4) = .ok xs r9 := h3
                cases hr : lcL t vs ts f (items.drop (i + 1)) (wipeE r7 vs) with
                | stk => rw [hr] at h3; cases h3
                | exc c fs => rw [hr] at h3; cases h3
                | ok xs' r8 =>
                  rw [hr] at h3
                  have h3 : Res.ok (xd :: xs') r8 = .ok xs r9 := h3
                  cases h3
                  refine ⟨F6, P4, Lk, r5, E6, ?_⟩
                  rw [hf]
                  intro yv F7 H7 x7 E7
                  have E8 := unp4 _ _ _ _ _ _ _ (x6.trans x7) E7
                  obtain ⟨L8, e8, s8⟩ := E8
                  obtain ⟨a, ws8, ea, hH, lw, s9⟩ := Stt.appL (s8.perm (List.Perm.swap _ _ _))
                  cases ea
                  refine ⟨ws8, hH, ?_, F7, _, acc ++ [xd], xs', x3.trans (x4.trans (x6.trans x7)), ?_, hr, ?_⟩
                  · rw [lw]
                    rw [← hall] at hz
                    simp at hz
                    omega
                  · have s9 : Stt C F7 P Lk ([(.c oe, .ref Da, .lst (acc ++ [xd]))] ++ L8) (upd H7 Da (.lst (ws8 ++ [yv]))) := s9
                    have E9 := EnvX.wipe hv ⟨L8, e8, s9⟩
                    rw [ws] at E9
                    exact E9
                  · rw [← hall]; simp
      · have e : i = items.length := by omega
        subst e
        rw [List.drop_length] at h3
        cases h3
        rw [List.append_nil] at hall
        subst hall
        refine .inl ⟨Y.stop F3 P Lk _ H3 x3 S3, q1 _ F3 H3 (x1.trans x3) ?_⟩
        exact EnvX.rest hv E1 x3 E3
theorem de_lc {it : SI} {t : Tg} {ts : ST} {f : SE} {oe : O} {scope : Scope} {own : List (Str × Nat)} {vs : List Nat} (hc : X.calm = true) (hN : X.N.Nodup) (hi : PI X tg iter (tDI C W G it)) (ok : BlkOk X.N X.env.scope scope own) (hvs : own.map (·.2) = vs) (hv : (vs.all fun i => decide (G[i]? = some .z)) = true) (ht : t.slots = vs)
    (hg : ∀ (s : Shared) (H : Hp) (C1 : Addr) (cl : List (Str × Addr)) (fp : List Addr), PG (X.blk s H scope (compEnvC scope cl C1 X.env) fp) tg (tDG C G t))
    (htt : ∀ (s : Shared) (H : Hp) (C1 : Addr) (cl : List (Str × Addr)) (fp : List Addr), PTs (X.blk s H scope (compEnvC scope cl C1 X.env) fp) ifs (tDTs C G ts))
    (he : ∀ (s : Shared) (H : Hp) (C1 : Addr) (cl : List (Str × Addr)) (fp : List Addr), PE (X.blk s H scope (compEnvC scope cl C1 X.env) fp) elt (tD C W0 G f oe)) (hs : ∀ x, foldedSetIterable iter X.env x = pure x := by intro _; rfl) :
    PE X (.ListComp elt [⟨tg, iter, ifs, 0⟩] scope pos) (tD C W G (eLc it vs t ts f) (.c oe)) := by
  subst hvs
  exact PE_weak (pe_lc hc hN hi ok hg htt he hs) fun σ H Q q => lc_hyp (fun i hi => by simpa using List.all_eq_true.mp hv i hi) ht q
theorem d_setLc {R : Rt} {i : Nat} {y : Str} {py : Pos} {it : SI} {t : Tg} {ts : ST} {f : SE} {oe : O} {scope : Scope} {own : List (Str × Nat)} {vs : List Nat} {spos : Pos} (hc : X.calm = true) (hN : X.N.Nodup) (hy : X.N[i]? = some y) (hyl : X.env.scope.names.lookup y = some .local)
    (hsw : swapsWith (.ListComp elt [⟨tg, iter, ifs, 0⟩] scope pos) (some (.Name y py)) spos.line X.env = pure true)
    (hi : PI X tg iter (tDI C W G it)) (ok : BlkOk X.N X.env.scope scope own) (hvs : own.map (·.2) = vs) (hv : (vs.all fun i => decide (G[i]? = some .z)) = true) (ht : t.slots = vs)
    (hg : ∀ (s : Shared) (H : Hp) (C1 : Addr) (cl : List (Str × Addr)) (fp : List Addr), PG (X.blk s H scope (compEnvC scope cl C1 X.env) fp) tg (tDG C G t))
    (htt : ∀ (s : Shared) (H : Hp) (C1 : Addr) (cl : List (Str × Addr)) (fp : List Addr), PTs (X.blk s H scope (compEnvC scope cl C1 X.env) fp) ifs (tDTs C G ts))
    (he : ∀ (s : Shared) (H : Hp) (C1 : Addr) (cl : List (Str × Addr)) (fp : List Addr), PE (X.blk s H scope (compEnvC scope cl C1 X.env) fp) elt (tD C W0 G f oe)) (hp : R.pm.contains i = false) (hG : i < G.length) (hs : ∀ x, foldedSetIterable iter X.env x = pure x := by intro _; rfl) :
    PS X (.Assign [.Name y py] (.ListComp elt [⟨tg, iter, ifs, 0⟩] scope pos) spos) (tDS C W R G (sAsg i (eLc it vs t ts f)) (G.set i (.c oe))) := by
  subst hvs
  refine PS_weak (ps_setLc hc hN hy hyl hsw hi ok hg htt he hs) fun D σ H q => ?_
  refine lc_hyp (fun i hi => by simpa using List.all_eq_true.mp hv i hi) ht ?_
  obtain ⟨F, P, Lk, r, E, q⟩ := q
  refine ⟨F, P, Lk, r, E, (RF.fl q).mono fun d r1 q1 v F1 H1 x1 E1 => ?_⟩
  have hl := E1.len
  exact q1 _ F1 H1 x1 (Keep.set (by simpa using hp)) (E1.put (by omega))
/-- tests of a clause -/
def tYesD : ST := fun r => .ok true r
theorem dts_nil : PTs X [] (tDTs C G tYesD) := ⟨fun pins s σ H Q I h => by
  obtain ⟨F, P, Lk, r, E, q⟩ := h
  exact pts_nil.run pins s σ H Q I (q F H (Ext.refl F) E)⟩
theorem dts_one {c : Expr} {t : ST} (h : PT X c (tDT C W0 G t)) : PTs X [c] (tDTs C G t) := pts_one h
end
end DL
set_option Elab.async false
set_option linter.all false
set_option autoImplicit false
set_option maxHeartbeats 1000000
/-! the data layer, part 8: what writes owned things -/
namespace DL
open PySem PySem.Spec PyProof.Rows L2
variable {C : Cfg}

/-! ### methods of an owned local -/
def rMe (C : Cfg) (oi oo : O) (os : List O) (g : D → List D → Option (D × D)) : V → List V → Hp → VK → Prop := fun x vs H Q => ∃ F P Lk L d ds d' dr La, EnvR os (ds.map some) (vs.map some) La ∧ Stt C F P Lk ((oi, x, d) :: (La ++ L)) H ∧ g d ds = some (dr, d') ∧
  ∀ w F' H', Ext F F' → Stt C F' P Lk ((oo, w, dr) :: (oi, x, d') :: L) H' → Q w H'
def isLst : D → Bool
  | .lst _ => true
  | _ => false
def isDct : D → Bool
  | .dct _ _ => true
  | _ => false
def eMeth (isT : D → Bool) (i : Nat) (g : D → List D → Option (D × D)) (k : SA) : SE := fun r => match r[i]? with
  | some (some d) => if isT d = true then (k r).bind fun ds r1 => match r1[i]? with
      | some (some d2) => match g d2 ds with
        | some (dr, d') => .ok dr (r1.set i (some d'))
        | none => .stk
      | _ => .stk
    else .stk
  | _ => .stk
section
variable {X : Cx} {W : WX} {G : List O} {e : Expr} {es : List Expr} {F P H : Hp} {Lk : Lock} {r : DL.Env} {σ : L2.St}
theorem own_tyL {v : V} {d : D} {o : O} {T : List Cell} (h : EnvX C ((.c o, v, d) :: T) F P Lk G r σ H) (ty : isLst d = true) : tyV X.K "list" v H := by
  obtain ⟨L, e, s⟩ := h
  cases d with
  | lst ds =>
    obtain ⟨a, vs, rfl, h1, _⟩ := Stt.openL (L := T ++ L) s
    exact .inl ⟨rfl, vs, SqL.of h1⟩
  | _ => cases ty
theorem own_tyD {v : V} {d : D} {o : O} {T : List Cell} (h : EnvX C ((.c o, v, d) :: T) F P Lk G r σ H) (ty : isDct d = true) : tyV X.K "dict" v H := by
  obtain ⟨L, e, s⟩ := h
  cases d with
  | dct t kvs =>
    cases t with
    | false =>
      obtain ⟨a, kvs, ds, rfl, h1, _⟩ := Stt.openK (L := T ++ L) s
      exact .inr (.inr (.inl ⟨rfl, .inl ⟨kvs, h1⟩⟩))
    | true =>
      obtain ⟨a, kvs, ds, rfl, h1, _⟩ := Stt.openT (L := T ++ L) s
      exact .inr (.inr (.inl ⟨rfl, .inr ⟨kvs, h1⟩⟩))
  | _ => cases ty
def tyOk (T : String) (isT : D → Bool) : Prop := (T = "list" ∧ isT = isLst) ∨ (T = "dict" ∧ isT = isDct)
theorem own_ty {T : String} {isT : D → Bool} {v : V} {d : D} {o : O} {T' : List Cell} (k : tyOk T isT) (h : EnvX C ((.c o, v, d) :: T') F P Lk G r σ H) (ty : isT d = true) : tyV X.K T v H := by
  rcases k with ⟨rfl, rfl⟩ | ⟨rfl, rfl⟩
  · exact own_tyL h ty
  · exact own_tyD h ty
theorem meth_hyp {i : Nat} {oi oo : O} {T : String} {isT : D → Bool} {os : List O} {mv : List (Option Nat)} {k : SA} {g : D → List D → Option (D × D)} {t : TA} (hk : tyOk T isT) (hG : G[i]? = some (.c oi)) (ka : ∀ σ H Q, tDM C W G k mv os σ H Q → t σ H Q)
    {σ : L2.St} {H : Hp} {Q : VK} (q : tD C W G (eMeth isT i g k) oo σ H Q) : tVar i σ H fun x H1 => tyV X.K T x H1 ∧ t σ H1 fun xs H2 => rMe C (.c oi) oo os g x xs H2 Q := by
  obtain ⟨F, P, Lk, r, E, q⟩ := q
  unfold eMeth at q
  split at q
  · rename_i d hd
    split at q
    · rename_i ht
      obtain ⟨v, h1, E1⟩ := E.take hd hG
      refine ⟨v, h1, own_ty hk E1 ht, ka _ _ _ ⟨F, P, Lk, r, E, (RD.bind q).mono fun ds r1 q1 vs F1 H1 La x1 R1 E2 m => ?_⟩⟩
      split at q1
      · rename_i d2 hd2
        split at q1
        · rename_i dr d' hg
          obtain ⟨v', h1', E3⟩ := E2.take hd2 hG
          rw [h1] at h1'
          cases h1'
          obtain ⟨L, e, s⟩ := E3
          refine ⟨F1, P, Lk, L, d2, ds, d', dr, La, R1, s, hg, fun w F' H' x' s' => q1 w F' H' (x1.trans x') ?_⟩
          have z1 : EnvX C [(.c oi, v, d'), (oo, w, dr)] F' P Lk G (r1.set i none) σ H' := EnvX.perm (T := [(oo, w, dr), (.c oi, v, d')]) ⟨L, e, s'⟩ (List.Perm.swap _ _ _)
          have z := z1.back (by rw [List.getElem?_set_self (List.getElem?_eq_some_iff.mp hd2).1]) hG h1
          rw [List.set_set] at z
          exact z
        · exact q1.elim
      · exact q1.elim
    · exact q.elim
  · exact q.elim
theorem de_meth {i : Nat} {x : Str} {p apos cpos : Pos} {name : Str} {T id : String} {oi oo : O} {os : List O} {mv : List (Option Nat)} {isT : D → Bool} {g : D → List D → Option (D × D)} {k : SA} (hk : tyOk T isT) (pa : PlainAttrs T) (slot : Slot T name id) (hty : typeOf (.builtin id) = pure (.type "method_descriptor")) (hm : MtR X id (rMe C (.c oi) oo os g))
    (hG : G[i]? = some (.c oi)) (hN : X.N[i]? = some x) (hv : Vis X.env.scope x) (ha : PA X (e :: es) (tDM C W G k mv os)) (hd : (x == ("__debug__" : Str)) = false := by decide) (hcd : (x == ("__classdict__" : Str)) = false := by decide)
    (hbase : attributeBase (.Name x p) name X.env (eval (.Name x p) X.env) = eval (.Name x p) X.env := by rfl)
    (hfew : ((backTo cpos (starEach (e :: es) X.env)).all (fun x => !x.1) && (backToKw cpos (keywordEach [] X.env)).all (fun x => x.1.isSome)
      && decide ((e :: es).length + ([] : List Keyword).length + (if ([] : List Keyword).isEmpty then 0 else 1) < 30)) = true := by rfl)
    (hline : (apos.endLine == cpos.line) = true := by rfl) (hs : starEach (e :: es) X.env = (false, eval e X.env) :: starEach es X.env := by rfl) (hplain : (backTo cpos (starEach es X.env)).any (·.1) = false := by rfl) :
    PE X (.Call (.Attribute (.Name x p) name apos) (e :: es) [] cpos) (tD C W G (eMeth isT i g k) oo) :=
  PE_weak (pe_bm pa slot hty hm (pe_var hN hv hd hcd) ha hbase hfew hline hs hplain) fun σ H Q q => meth_hyp hk hG (fun _ _ _ h => h) q
theorem de_meth0 {i : Nat} {x : Str} {p apos cpos : Pos} {name : Str} {T id : String} {oi oo : O} {isT : D → Bool} {g : D → List D → Option (D × D)} (hk : tyOk T isT) (pa : PlainAttrs T) (slot : Slot T name id) (hty : typeOf (.builtin id) = pure (.type "method_descriptor")) (hm : MtR X id (rMe C (.c oi) oo [] g))
    (hG : G[i]? = some (.c oi)) (hN : X.N[i]? = some x) (hv : Vis X.env.scope x) (hd : (x == ("__debug__" : Str)) = false := by decide) (hcd : (x == ("__classdict__" : Str)) = false := by decide)
    (hbase : attributeBase (.Name x p) name X.env (eval (.Name x p) X.env) = eval (.Name x p) X.env := by rfl) (hline : (apos.endLine == cpos.line) = true := by rfl) :
    PE X (.Call (.Attribute (.Name x p) name apos) [] [] cpos) (tD C W G (eMeth isT i g aNil) oo) := by
  refine PE_weak (pe_bm0 pa slot hty hm (pe_var hN hv hd hcd) hbase hline) fun σ H Q q => ?_
  have := meth_hyp (X := X) (t := fun σ H Q => Q [] H) (mv := []) (os := []) hk hG (fun σ H Q h => by
    obtain ⟨F, P, Lk, r, E, h⟩ := h
    exact h [] F H [] (Ext.refl F) .nil E (fun j i h => by simp at h)) q
  exact this
end
/-! list methods -/
def gAppend : D → List D → Option (D × D)
  | .lst xs, [e] => if xs.length < sizeLine then some (.non, .lst (xs ++ [e])) else none
  | _, _ => none
def gPop : D → List D → Option (D × D)
  | .lst xs, [] => match xs.getLast? with
    | some e => some (e, .lst xs.dropLast)
    | none => none
  | _, _ => none
def gPopAt : D → List D → Option (D × D)
  | .lst xs, [.int i] => match ixN xs.length i with
    | some j => match xs[j]? with
      | some e => some (e, .lst (xs.eraseIdx j))
      | none => none
    | none => none
  | _, _ => none
def gReverse : D → List D → Option (D × D)
  | .lst xs, [] => some (.non, .lst xs.reverse)
  | _, _ => none
def gClear : D → List D → Option (D × D)
  | .lst _, [] => some (.non, .lst [])
  | _, _ => none
def gInsert : D → List D → Option (D × D)
  | .lst xs, [.int i, e] => if xs.length < sizeLine ∧ 0 ≤ i ∧ i < 2 ^ 63 then some (.non, .lst (xs.take i.toNat ++ [e] ++ xs.drop i.toNat)) else none
  | _, _ => none
section
variable {X : Cx} {o : O}
theorem EnvR.none_nil {ds : List D} {vs : List V} {La : List Cell} (h : EnvR [] (ds.map some) (vs.map some) La) : ds = [] ∧ vs = [] ∧ La = [] := by
  cases ds with
  | nil => cases vs with
    | nil => cases h; exact ⟨rfl, rfl, rfl⟩
    | cons _ _ => cases h
  | cons _ _ => cases h
theorem EnvR.one {ds : List D} {vs : List V} {La : List Cell} (h : EnvR [o] (ds.map some) (vs.map some) La) : ∃ d v, ds = [d] ∧ vs = [v] ∧ La = [(o, v, d)] := by
  cases ds with
  | nil => cases h
  | cons d ds =>
    cases vs with
    | nil => cases h
    | cons v vs =>
      cases h with
      | «have» h =>
        obtain ⟨rfl, rfl, rfl⟩ := h.none_nil
        exact ⟨d, v, rfl, rfl, rfl⟩
theorem EnvR.two {o' : O} {ds : List D} {vs : List V} {La : List Cell} (h : EnvR [o, o'] (ds.map some) (vs.map some) La) : ∃ d v d' v', ds = [d, d'] ∧ vs = [v, v'] ∧ La = [(o, v, d), (o', v', d')] := by
  cases ds with
  | nil => cases h
  | cons d ds =>
    cases vs with
    | nil => cases h
    | cons v vs =>
      cases h with
      | «have» h =>
        obtain ⟨d', v', rfl, rfl, rfl⟩ := h.one
        exact ⟨d, v, d', v', rfl, rfl, rfl⟩
theorem me_append : MtR X "list.append" (rMe C (.c o) .z [o] gAppend) := fun pins s σ H x xs v us Q I rx rxs h => by
  obtain ⟨F, P, Lk, L, d, ds, d', dr, La, R, S, g, k⟩ := h
  obtain ⟨e, y, rfl, rfl, rfl⟩ := R.one
  cases d with
  | lst zs =>
    simp only [gAppend] at g
    split at g
    · rename_i hz
      cases g
      obtain ⟨a, vs, rfl, h1, l, S2⟩ := Stt.appL (L := L) (S.perm (List.Perm.swap _ _ _))
      exact mt_append pins s σ H _ _ v us Q I rx rxs ⟨a, vs, y, rfl, rfl, h1, by omega, k _ F _ (Ext.refl F) (S2.zcons .non)⟩
    · cases g
  | _ => cases g
theorem me_reverse : MtR X "list.reverse" (rMe C (.c o) .z [] gReverse) := fun pins s σ H x xs v us Q I rx rxs h => by
  obtain ⟨F, P, Lk, L, d, ds, d', dr, La, R, S, g, k⟩ := h
  obtain ⟨rfl, rfl, rfl⟩ := R.none_nil
  cases d with
  | lst zs =>
    cases g
    obtain ⟨a, vs, rfl, h1, l, S2⟩ := Stt.openL (L := L) S
    refine mt_reverse pins s σ H _ _ v us Q I rx rxs ⟨a, vs, rfl, rfl, h1, k _ F _ (Ext.refl F) (Stt.zcons .non (SttH.closeL (S2.perm (List.Perm.append_right L ?_)) (by simp [l])))⟩
    unfold cellsOf
    rw [List.zip_eq_zipWith, List.zip_eq_zipWith, ← List.reverse_zipWith l]
    exact ((List.reverse_perm _).map _).symm
  | _ => cases g
theorem me_clear : MtR X "list.clear" (rMe C (.c o) .z [] gClear) := fun pins s σ H x xs v us Q I rx rxs h => by
  obtain ⟨F, P, Lk, L, d, ds, d', dr, La, R, S, g, k⟩ := h
  obtain ⟨rfl, rfl, rfl⟩ := R.none_nil
  cases d with
  | lst zs =>
    cases g
    obtain ⟨a, vs, rfl, h1, l, S2⟩ := Stt.openL (L := L) S
    exact mt_clear pins s σ H _ _ v us Q I rx rxs ⟨a, vs, rfl, rfl, h1, k _ F _ (Ext.refl F) (Stt.zcons .non (SttH.closeL (vs := []) (ds := []) (o := o) S2.drop rfl))⟩
  | _ => cases g
theorem cells_take {vs : List V} {ds : List D} {j : Nat} {v : V} {d : D} (l : vs.length = ds.length) (hv : vs[j]? = some v) (hd : ds[j]? = some d) : (cellsOf o vs ds).Perm ((o, v, d) :: cellsOf o (vs.eraseIdx j) (ds.eraseIdx j)) := by
  induction vs generalizing ds j with
  | nil => simp at hv
  | cons w vs ih =>
    cases ds with
    | nil => simp at l
    | cons e ds =>
      cases j with
      | zero =>
        simp at hv hd
        subst hv hd
        exact .refl _
      | succ j =>
        have z := ih (ds := ds) (j := j) (by simpa using l) (by simpa using hv) (by simpa using hd)
        exact (z.cons _).trans (List.Perm.swap _ _ _)
theorem me_popAt : MtR X "list.pop" (rMe C (.c o) o [.z] gPopAt) := fun pins s σ H x xs v us Q I rx rxs h => by
  obtain ⟨F, P, Lk, L, d, ds, d', dr, La, R, S, g, k⟩ := h
  obtain ⟨e, y, rfl, rfl, rfl⟩ := R.one
  have Re : Rep C F y e := S.rep_mem (List.mem_cons_of_mem _ List.mem_cons_self)
  cases d with
  | lst zs =>
    cases e with
    | int i =>
      cases rep_int Re
      simp only [gPopAt] at g
      split at g
      · rename_i j hj
        split at g
        · rename_i e' he
          cases g
          obtain ⟨a, vs, rfl, h1, l, S2⟩ := Stt.openL S
          have hl : j < vs.length := by rw [l]; exact (List.getElem?_eq_some_iff.mp he).1
          have hv := List.getElem?_eq_getElem hl
          obtain ⟨h3, h4, h5, h6⟩ := ixN_seq hj
          have S3 : SttH C F P Lk [a] (cellsOf o vs zs ++ ((.z, .int i, .int i) :: L)) H := S2
          have S4 := S3.perm (List.perm_middle) |>.tail
          have S5 := S4.perm ((cells_take (o := o) l hv he).append_right L)
          have S6 := S5.perm (M := cellsOf o (vs.eraseIdx j) (zs.eraseIdx j) ++ ((o, vs[j], dr) :: L)) List.perm_middle.symm
          have S7 := S6.closeL (by rw [List.length_eraseIdx, List.length_eraseIdx, l])
          have hz := (I.lstM h1).1
          have h63 : sizeLine < 2 ^ 63 := by decide
          exact mt_popAt pins s σ H _ _ v us Q I rx rxs ⟨a, vs, i, j, vs[j], rfl, rfl, h1, by omega, by omega, by rw [l]; exact h3, hv, k _ F _ (Ext.refl F) (S7.perm (List.Perm.swap _ _ _))⟩
        · cases g
      · cases g
    | _ => cases g
  | _ => cases e <;> cases g
theorem me_pop : MtR X "list.pop" (rMe C (.c o) o [] gPop) := fun pins s σ H x xs v us Q I rx rxs h => by
  obtain ⟨F, P, Lk, L, d, ds, d', dr, La, R, S, g, k⟩ := h
  obtain ⟨rfl, rfl, rfl⟩ := R.none_nil
  cases d with
  | lst zs =>
    simp only [gPop] at g
    split at g
    · rename_i e' he
      cases g
      obtain ⟨a, vs, rfl, h1, l, S2⟩ := Stt.openL (L := L) S
      have hn : zs ≠ [] := fun z => by rw [z] at he; cases he
      have he2 : zs[zs.length - 1]? = some dr := by rw [← List.getLast?_eq_getElem?]; exact he
      have hl : zs.length - 1 < vs.length := by rw [l]; exact (List.getElem?_eq_some_iff.mp he2).1
      have hv := List.getElem?_eq_getElem hl
      have S5 := S2.perm ((cells_take (o := o) l hv he2).append_right L)
      have e1 : zs.eraseIdx (zs.length - 1) = zs.dropLast := List.eraseIdx_length_sub_one
      have e2 : vs.eraseIdx (zs.length - 1) = vs.dropLast := by rw [← l]; exact List.eraseIdx_length_sub_one
      rw [e1, e2] at S5
      have S6 := S5.perm (M := cellsOf o vs.dropLast zs.dropLast ++ ((o, vs[zs.length - 1], dr) :: L)) List.perm_middle.symm
      have S7 := S6.closeL (by rw [List.length_dropLast, List.length_dropLast, l])
      exact mt_pop pins s σ H _ _ v us Q I rx rxs ⟨a, vs, vs[zs.length - 1], rfl, rfl, h1, by rw [l]; exact hv, k _ F _ (Ext.refl F) (S7.perm (List.Perm.swap _ _ _))⟩
    · cases g
  | _ => cases g
theorem me_insert : MtR X "list.insert" (rMe C (.c o) .z [.z, o] gInsert) := fun pins s σ H x xs v us Q I rx rxs h => by
  obtain ⟨F, P, Lk, L, d, ds, d', dr, La, R, S, g, k⟩ := h
  obtain ⟨e, y, e', y', rfl, rfl, rfl⟩ := R.two
  have Re : Rep C F y e := S.rep_mem (List.mem_cons_of_mem _ List.mem_cons_self)
  cases d with
  | lst zs =>
    cases e with
    | int i =>
      cases rep_int Re
      simp only [gInsert] at g
      split at g
      · rename_i hz
        cases g
        obtain ⟨a, vs, rfl, h1, l, S2⟩ := Stt.openL S
        have S3 : SttH C F P Lk [a] (cellsOf o vs zs ++ ((.z, .int i, .int i) :: (o, y', e') :: L)) H := S2
        have S4 := S3.perm (List.perm_middle) |>.tail
        refine mt_insert pins s σ H _ _ v us Q I rx rxs ⟨a, vs, i, y', rfl, rfl, h1, by omega, hz.2.1, hz.2.2, k _ F _ (Ext.refl F) (Stt.zcons .non (SttH.closeL (S4.perm ?_) (by simp [l])))⟩
        have e3 : cellsOf o vs zs = cellsOf o (vs.take i.toNat) (zs.take i.toNat) ++ cellsOf o (vs.drop i.toNat) (zs.drop i.toNat) := by
          rw [← cellsOf_append (by simp [l]), List.take_append_drop, List.take_append_drop]
        rw [cellsOf_append (by simp [l]), cellsOf_append (by simp [l]), e3]
        have e4 : cellsOf o [y'] [e'] = [(o, y', e')] := rfl
        rw [e4, List.append_assoc, List.append_assoc, List.append_assoc]
        refine List.Perm.append_left _ ?_
        exact List.perm_middle
      · cases g
    | _ => cases g
  | _ => cases e <;> cases g
end

/-! ### dicts: putting -/
theorem put_rel {κ : Type} [DecidableEq κ] {F : Hp} (f : κ → D) (hf : ∀ a b, keyB (f a) (f b) = decide (a = b)) {kvs : List (κ × V)} {ds : List D} (r : RepL C F (kvs.map (·.2)) ds) {v : V} {d : D} (rv : Rep C F v d) (k : κ) :
    ∃ ds', RepL C F ((putK kvs k v).map (·.2)) ds' ∧ ((putK kvs k v).map fun p => f p.1).zip ds' = putD ((kvs.map fun p => f p.1).zip ds) (f k) d := by
  have hany : ∀ (kvs : List (κ × V)) (ds : List D), RepL C F (kvs.map (·.2)) ds → (((kvs.map fun p => f p.1).zip ds).any fun p => keyB p.1 (f k)) = kvs.any fun kv => decide (kv.1 = k) := by
    intro kvs
    induction kvs with
    | nil => intro ds r; rfl
    | cons p kvs ih =>
      intro ds r
      cases r with
      | cons a b => simp only [List.map_cons, List.zip_cons_cons, List.any_cons, hf, ih _ b]
  have hmap : ∀ (kvs : List (κ × V)) (ds : List D), RepL C F (kvs.map (·.2)) ds → ∃ ds', RepL C F ((kvs.map fun kv => if kv.1 = k then (kv.1, v) else kv).map (·.2)) ds' ∧
      ((kvs.map fun kv => if kv.1 = k then (kv.1, v) else kv).map fun p => f p.1).zip ds' = ((kvs.map fun p => f p.1).zip ds).map fun p => if keyB p.1 (f k) = true then (p.1, d) else p := by
    intro kvs
    induction kvs with
    | nil => intro ds r; exact ⟨[], .nil, rfl⟩
    | cons p kvs ih =>
      intro ds r
      cases r with
      | @cons _ e _ ds a b =>
        obtain ⟨ds', r', e'⟩ := ih _ b
        by_cases q : p.1 = k
        · refine ⟨d :: ds', ?_, ?_⟩
          · simp only [List.map_cons, if_pos q]
            exact .cons rv r'
          · simp only [List.map_cons, if_pos q, List.zip_cons_cons, hf, decide_eq_true q, if_true, e']
        · refine ⟨e :: ds', ?_, ?_⟩
          · simp only [List.map_cons, if_neg q]
            exact .cons a r'
          · simp only [List.map_cons, if_neg q, List.zip_cons_cons, hf, decide_eq_false q, e']
            simp
  unfold putK putD
  rw [hany _ _ r]
  split
  · exact hmap _ _ r
  · refine ⟨ds ++ [d], ?_, ?_⟩
    · rw [List.map_append]; exact r.append (.cons rv .nil)
    · rw [List.map_append, List.zip_append (by simpa using r.length)]
      rfl
theorem SttH.unz {F P H : Hp} {Lk : Lock} {as : List Addr} {L : List Cell} {vs : List V} {ds : List D} (h : SttH C F P Lk as (cellsOf .z vs ds ++ L) H) (l : vs.length = ds.length) : RepL C F vs ds ∧ SttH C F P Lk as L H := by
  refine ⟨?_, h.drop⟩
  obtain ⟨fp, o, n, d⟩ := h.ow
  obtain ⟨f1, f2, rfl, o1, o2⟩ := o.split
  exact OwnL.repL (F := F) (fun v d f _ p => p.1) (OwnL.iff.mpr ⟨l, o1⟩)
/-- a store into an owned list or dict of frozen things -/
def rSetO (C : Cfg) : TSet := fun o i v H Q => ∃ F P Lk L d di de d', Stt C F P Lk ((.c .z, o, d) :: L) H ∧ Rep C F i di ∧ Rep C F v de ∧ setIx d di de = some d' ∧ ∀ H', Stt C F P Lk ((.c .z, o, d') :: L) H' → Q H'
section
variable {X : Cx} {W : WX} {G : List O} {e : Expr} {es : List Expr} {pos : Pos}
theorem RepL.setO {F : Hp} {vs : List V} {ds : List D} {v : V} {d : D} (h : RepL C F vs ds) (r : Rep C F v d) (n : Nat) : RepL C F (vs.set n v) (ds.set n d) := h.set r n
theorem set_O (hu : X.A.units + 1 < cLine) : PSet X (rSetO C) := by
  intro pins s σ H o i v ov iv u Q I ro ri rv h
  obtain ⟨F, P, Lk, L, d, di, de, d', S, Ri, Rv, g, k⟩ := h
  cases d with
  | lst zs =>
    cases di with
    | int j =>
      cases rep_int Ri
      simp only [setIx] at g
      cases hj : ixN zs.length j with
      | none => rw [hj] at g; cases g
      | some n =>
        rw [hj] at g
        cases g
        obtain ⟨a, vs, rfl, h1, l, S2⟩ := Stt.openL S
        obtain ⟨r, S3⟩ := S2.unz l
        exact set_list pins s σ H _ _ v ov iv u Q I ro ri rv ⟨a, vs, j, n, rfl, rfl, h1, by rw [l]; exact hj, k _ (SttH.closeL (S3.zcell (r.setO Rv n)) (by simp [l]))⟩
    | _ => cases g
  | dct t kds =>
    cases t with
    | false =>
      have g : (if kds.length < sizeLine then (toKey di).map fun _ => D.dct false (putD kds di de) else none) = some d' := g
      split at g
      · rename_i hz
        cases hk : toKey di with
        | none => rw [hk] at g; cases g
        | some ky =>
          rw [hk] at g
          cases g
          have ek := toKey_some hk
          subst ek
          obtain ⟨a, kvs, ds, rfl, h1, l, rfl, S2⟩ := Stt.openK S
          obtain ⟨r, S3⟩ := S2.unz (by simpa using l)
          obtain ⟨ds', r', e'⟩ := put_rel keyD keyB_key r Rv ky
          have iv : i = kV ky := by cases ky <;> (cases Ri; rfl)
          subst iv
          refine set_dict hu pins s σ H _ _ v ov _ u Q I ro ri rv ⟨a, _, rfl, DPut.k h1 (by simpa [l] using hz), k _ ?_⟩
          rw [← e']
          exact SttH.closeK (S3.zcell r') (by simpa using r'.length)
      · cases g
    | true =>
      cases di with
      | tup ks =>
        have g : (if kds.length < sizeLine then (toKeys ks).map fun _ => D.dct true (putD kds (.tup ks) de) else none) = some d' := g
        split at g
        · rename_i hz
          cases hk : toKeys ks with
          | none => rw [hk] at g; cases g
          | some ky =>
            rw [hk] at g
            cases g
            have ek := toKeys_some hk
            subst ek
            obtain ⟨a, kvs, ds, rfl, h1, l, rfl, hb, S2⟩ := Stt.openT S
            obtain ⟨r, S3⟩ := S2.unz (by simpa using l)
            obtain ⟨ds', r', e'⟩ := put_rel tupD keyB_tup r Rv ky
            cases Ri with
            | @tup b ws _ ht rw' =>
              have ew := RepL.keys S rw'
              subst ew
              refine set_dict hu pins s σ H _ _ v ov _ u Q I ro ri rv ⟨a, _, rfl, DPut.t h1 (S.tup ht) (by simpa [l] using hz), k _ ?_⟩
              have e'' : ((putK kvs ky v).map fun p => tupD p.1).zip ds' = putD ((kvs.map fun p => tupD p.1).zip ds) (.tup (ky.map keyD)) de := e'
              rw [← e'']
              refine SttH.closeT (S3.zcell r') (by simpa using r'.length) fun p hp => ?_
              unfold putK at hp
              split at hp
              · obtain ⟨q, hq, e3⟩ := List.mem_map.mp hp
                by_cases h3 : q.1 = ky
                · rw [if_pos h3] at e3; subst e3; exact hb q hq
                · rw [if_neg h3] at e3; subst e3; exact hb q hq
              · rcases List.mem_append.mp hp with hp | hp
                · exact hb p hp
                · have : p = (ky, v) := by simpa using hp
                  subst this
                  exact ⟨b, ht⟩
        · cases g
      | _ => cases g
  | _ => cases g
/-- x[i] = .., x an owned local -/
theorem dg_sub {i : Nat} {x : Str} {p : Pos} {f : SE} (hu : X.A.units + 1 < cLine) (hG : G[i]? = some (.c .z)) (hN : X.N[i]? = some x) (hv : Vis X.env.scope x) (hi : PE X e (tD C W0 G f .z)) (hd : (x == ("__debug__" : Str)) = false := by decide) (hcd : (x == ("__classdict__" : Str)) = false := by decide)
    (ha : ∀ v, assign (.Subscript (.Name x p) e pos) X.env v = (do
      let ov ← holding [v] (eval (.Name x p) X.env)
      let iv ← holding [v, ov] (eval e X.env)
      standAt pos
      holding [v, ov, iv] (setItem ov iv v)
      release [v, ov, iv] []) := by intro _; rfl) : PG X (.Subscript (.Name x p) e pos) (tDG C G (.sb i f)) := by
  refine PG_weak (pg_sub (pe_var hN hv hd hcd) hi (set_O (C := C) hu) ha) fun v σ H Q q => ?_
  obtain ⟨F, P, Lk, r, d, r', E, R, hp, k⟩ := q
  simp only [Tg.put] at hp
  split at hp
  · rename_i d0 h0
    obtain ⟨w, hw, _⟩ := E.take h0 hG
    split at hp
    · rename_i ix r1 hf
      split at hp
      · rename_i c hc
        split at hp
        · rename_i c' hs
          cases hp
          refine ⟨w, hw, F, P, Lk, r, E, ?_⟩
          rw [hf]
          intro iv F1 H1 x1 E1
          obtain ⟨Ri, E1⟩ := E1.rep
          obtain ⟨w', hw', E2⟩ := E1.take hc hG
          rw [hw] at hw'
          cases hw'
          obtain ⟨L, e0, S0⟩ := E2
          have S0 : Stt C F1 P Lk ((.c .z, w, c) :: L) H1 := S0
          refine ⟨F1, P, Lk, L, c, ix, d, c', S0, Ri, R.mono x1, hs, fun H' S' => k σ ⟨rfl, fun _ _ => rfl⟩ F1 H' x1 ?_⟩
          have z := EnvX.back (T := []) (r := r1.set i none) (d := c') (o := .c .z) (v := w) ⟨L, e0, S'⟩ (by rw [List.getElem?_set_self (List.getElem?_eq_some_iff.mp hc).1]) hG hw
          rw [List.set_set] at z
          exact z
        · cases hp
      · cases hp
    · cases hp
  · cases hp
end
end DL
namespace DL
open PySem PySem.Spec PyProof.Rows L2
variable {C : Cfg}
/-! ### new owned lists; assignments -/
def sAsgT (t : Tg) (f : SE) : SS := fun r => (f r).fl fun d r1 => match t.put d r1 with
  | some r2 => .nx r2
  | none => .stk
section
variable {X : Cx} {W : WX} {R : Rt} {G : List O} {e tg : Expr} {es : List Expr} {pos : Pos} {o : O}
theorem de_lstO {k : SA} (h : PA X es (tDA C W G k)) : PE X (.List es pos) (tD C W G (eA mkLst k) (.c .z)) := by
  refine PE_weak (pe_lst h) fun σ H Q q => ?_
  obtain ⟨F, P, Lk, r, E, q⟩ := q
  refine ⟨F, P, Lk, r, E, (RD.bind q).mono fun ds r1 q1 xs F1 H1 x1 R1 E1 => ?_⟩
  obtain ⟨dz, e3, q3⟩ := RD_opt q1
  unfold mkLst at e3
  split at e3
  · rename_i hz
    cases e3
    refine ⟨by rw [R1.length]; exact hz, fun p hp => ?_⟩
    obtain ⟨L, E1, S1⟩ := E1
    exact q3 _ _ _ x1 ⟨L, E1, SttH.closeL ((Stt.hole S1 hp).zcell R1) R1.length⟩
  · cases e3
theorem de_nilO : PE X (.List [] pos) (tD C W G (eC (.lst [])) (.c o)) := by
  refine PE_weak (pe_lst pa_nil) fun σ H Q q => ?_
  obtain ⟨F, P, Lk, r, E, q⟩ := q
  refine ⟨Nat.zero_le _, fun p hp => ?_⟩
  obtain ⟨L, E1, S1⟩ := E
  exact q _ _ _ (Ext.refl F) ⟨L, E1, S1.newE hp⟩
theorem EnvR.cellsOf {o : O} : ∀ {ds : List D} {vs : List V} {La : List Cell}, EnvR (ds.map fun _ => o) (ds.map some) (vs.map some) La → vs.length = ds.length ∧ La = DL.cellsOf o vs ds
  | [], vs, La, h => by
    cases vs with
    | nil => cases h; exact ⟨rfl, rfl⟩
    | cons _ _ => cases h
  | d :: ds, vs, La, h => by
    cases vs with
    | nil => cases h
    | cons v vs =>
      cases h with
      | «have» h =>
        obtain ⟨l, e⟩ := EnvR.cellsOf h
        exact ⟨by simp [l], by rw [e]; rfl⟩
/-- a list of owned things -/
theorem de_lstOO {k : SA} {mv : List (Option Nat)} {os : List O} (h : PA X es (tDM C W G k mv os)) (ho : os = os.map fun _ => o) : PE X (.List es pos) (tD C W G (eA mkLst k) (.c o)) := by
  refine PE_weak (pe_lst h) fun σ H Q q => ?_
  obtain ⟨F, P, Lk, r, E, q⟩ := q
  refine ⟨F, P, Lk, r, E, (RD.bind q).mono fun ds r1 q1 xs F1 H1 La x1 R1 E1 m => ?_⟩
  obtain ⟨dz, e3, q3⟩ := RD_opt q1
  unfold mkLst at e3
  split at e3
  · rename_i hz
    cases e3
    have hl := R1.len
    have eo : os = ds.map fun _ => o := by
      rw [ho]
      apply List.ext_getElem
      · simpa using hl.1
      · intro i h1 h2; simp
    rw [eo] at R1
    obtain ⟨l, rfl⟩ := R1.cellsOf
    refine ⟨by rw [l]; exact hz, fun p hp => ?_⟩
    obtain ⟨L, E1, S1⟩ := E1
    exact q3 _ _ _ x1 ⟨L, E1, Stt.newL S1 l hp⟩
  · cases e3
theorem d_asg {t : Tg} {f : SE} (he : PE X e (tD C W G f .z)) (hg : PG X tg (tDG C G t)) (hd : (t.slots.all fun i => !R.pm.contains i) = true)
    (hs : swapsWithSole [tg] e pos.line X.env = pure false := by rfl) (hw : swappedStores [tg] e X.env = pure none := by rfl)
    (h1 : (assignEach [tg] X.env).map (·.2) = [assign tg X.env] := by rfl) : PS X (.Assign [tg] e pos) (tDS C W R G (sAsgT t f) G) := by
  refine PS_weak (ps_asg he hg hs hw h1) fun D σ H q => ?_
  obtain ⟨F, P, Lk, r, E, q⟩ := q
  refine ⟨F, P, Lk, r, E, (RF.fl q).mono fun d r1 q1 v F1 H1 x1 E1 => ?_⟩
  obtain ⟨R1, E1⟩ := E1.rep
  cases hp : t.put d r1 with
  | none => rw [hp] at q1; exact q1.elim
  | some r2 =>
    rw [hp] at q1
    exact ⟨F1, P, Lk, r1, d, r2, E1, R1, hp, fun σ' o' F2 H2 x2 E2 => q1 σ' F2 H2 (x1.trans x2) (o'.keep hd) E2⟩
/-- a, b = x, y with plain local names -/
def sPar (i j : Nat) (k : SA) : SS := fun r => (k r).fl fun ds r1 => match ds with
  | [x, y] => .nx ((r1.set i (some x)).set j (some y))
  | _ => .stk
theorem d_par {i j : Nat} {x y : Str} {a b : Expr} {k : SA} {oi oj : O} {mv : List (Option Nat)} {px py pt : Pos} {kt k2 pt2} (hc : X.calm = true) (hN : X.N.Nodup) (hi : X.N[i]? = some x) (hj : X.N[j]? = some y) (hij : i ≠ j)
    (hx : X.env.scope.names.lookup x = some .local) (hy : X.env.scope.names.lookup y = some .local) (ha : PA X [a, b] (tDM C W G k mv [oi, oj])) (hp : R.pm.contains i = false) (hp' : R.pm.contains j = false) (hl : i < G.length) (hl' : j < G.length)
    (hw : swappedStores [.Tuple [.Name x px, .Name y py] kt pt] (.Tuple [a, b] k2 pt2) X.env = pure (some [x, y]))
    (hs : swapsWithSole [.Tuple [.Name x px, .Name y py] kt pt] (.Tuple [a, b] k2 pt2) pos.line X.env = pure false := by rfl) :
    PS X (.Assign [.Tuple [.Name x px, .Name y py] kt pt] (.Tuple [a, b] k2 pt2) pos) (tDS C W R G (sPar i j k) ((G.set i oi).set j oj)) := by
  refine PS_weak (ps_par hc hN hi hj hij hx hy ha hw hs) fun D σ H q => ?_
  obtain ⟨F, P, Lk, r, E, q⟩ := q
  refine ⟨F, P, Lk, r, E, (RF.fl q).mono fun ds r1 q1 vs F1 H1 La x1 R1 E1 m => ?_⟩
  obtain ⟨d, v, d', v', rfl, rfl, rfl⟩ := R1.two
  refine ⟨v, v', rfl, q1 _ F1 H1 x1 ((Keep.set (by simpa using hp)).trans (Keep.set (by simpa using hp'))) ?_⟩
  have l := E1.len
  obtain ⟨L, e, s⟩ := E1
  obtain ⟨L1, T1, a1, p1⟩ := e.put (i := i) (by omega) oi v d
  obtain ⟨L2, T2, a2, p2⟩ := a1.put (i := j) (by simp; omega) oj v' d'
  refine ⟨L2, a2, Stt.drop (M := T1 ++ T2) (s.perm ?_)⟩
  have z1 : (((oi, v, d) :: (oj, v', d') :: L)).Perm ((oj, v', d') :: (oi, v, d) :: L) := List.Perm.swap _ _ _
  have z2 := z1.trans (p1.cons (oj, v', d'))
  have z3 : ((oj, v', d') :: (T1 ++ L1)).Perm (T1 ++ ((oj, v', d') :: L1)) := List.perm_middle.symm
  have z4 := (z2.trans z3).trans (p2.append_left T1)
  simpa [List.append_assoc] using z4
/-- a, b = x, y by a tuple in between: names -/
def Tg.putO : List Nat → List D → DL.Env → Option DL.Env
  | [], [], r => some r
  | i :: is, d :: ds, r => if i < r.length then Tg.putO is ds (r.set i (some d)) else none
  | _, _, _ => none
def setsG : List Nat → List O → List O → List O
  | i :: is, o :: os, G => setsG is os (G.set i o)
  | _, _, G => G
def sTup (is : List Nat) (k : SA) : SS := fun r => (k r).fl fun ds r1 => if ds.length ≤ sizeLine then match Tg.putO is ds r1 with
  | some r2 => .nx r2
  | none => .stk
  else .stk
def tNames (is : List Nat) : TGs := fun vs σ H Q => vs.length = is.length ∧ Q ((is.zip vs).foldl (fun σ p => σ.set p.1 (some p.2)) σ) H
theorem pgs_names {i : Nat} {is : List Nat} {x : Str} (hN : X.N.Nodup) (hi : X.N[i]? = some x) (hx : Loc X.env.scope x) (h : PGs X es (tNames is)) (hf : X.fn x = true ∨ X.env.scope.names.lookup x = some .local := by first | exact .inl rfl | exact .inr rfl | assumption)
    (hs : (assignEach (.Name x pos :: es) X.env).map (·.2) = assign (.Name x pos) X.env :: (assignEach es X.env).map (·.2) := by rfl) : PGs X (.Name x pos :: es) (tNames (i :: is)) := by
  refine PGs_weak (pgs_cons (pg_name hN hi hx hf) h hs) fun vs σ H Q q => ?_
  obtain ⟨l, q⟩ := q
  cases vs with
  | nil => simp at l
  | cons v vs => exact ⟨v, vs, rfl, by simpa using l, q⟩
theorem pgs_names0 : PGs X [] (tNames []) := by
  refine PGs_weak pgs_nil fun vs σ H Q q => ?_
  obtain ⟨l, q⟩ := q
  cases vs with
  | nil => exact ⟨rfl, q⟩
  | cons v vs => simp at l
theorem putO_ok {F P H : Hp} {Lk : Lock} : ∀ {is : List Nat} {os : List O} {ds : List D} {vs : List V} {La : List Cell} {G : List O} {r r' : DL.Env} {σ : L2.St}, Tg.putO is ds r = some r' → EnvR os (ds.map some) (vs.map some) La → EnvX C La F P Lk G r σ H →
    EnvX C [] F P Lk (setsG is os G) r' ((is.zip vs).foldl (fun σ p => σ.set p.1 (some p.2)) σ) H
  | [], os, [], vs, La, G, r, r', σ, hp, e, E => by
    cases hp
    cases vs with
    | nil => cases e; exact E
    | cons _ _ => cases e
  | i :: is, os, d :: ds, vs, La, G, r, r', σ, hp, e, E => by
    simp only [Tg.putO] at hp
    split at hp
    · rename_i hl
      cases vs with
      | nil => cases e
      | cons v vs =>
        cases e with
        | @«have» o _ _ os _ _ L e =>
          refine putO_ok (is := is) (os := os) (ds := ds) (vs := vs) (La := L) (G := G.set i o) hp e ?_
          obtain ⟨L0, e0, s0⟩ := E
          obtain ⟨L', T, a, p⟩ := e0.put hl o v d
          refine ⟨L', a, Stt.drop (M := T) (s0.perm ?_)⟩
          have z1 : (((o, v, d) :: L) ++ L0).Perm (L ++ ((o, v, d) :: L0)) := List.perm_middle.symm
          have z2 := z1.trans (p.append_left L)
          refine z2.trans ?_
          rw [← List.append_assoc, ← List.append_assoc]
          exact List.perm_append_comm.append_right L'
    · cases hp
  | [], os, _ :: _, vs, La, G, r, r', σ, hp, e, E => by cases hp
  | _ :: _, os, [], vs, La, G, r, r', σ, hp, e, E => by cases hp
theorem d_tup {is : List Nat} {os : List O} {mv : List (Option Nat)} {k : SA} {tgs : List Expr} {kt k2 : Nat} {pt p2 : Pos} {n : Nat} (hc : X.calm = true) (ha : PA X es (tDM C W G k mv os)) (hg : PGs X tgs (tNames is)) (hd : (is.all fun i => !R.pm.contains i) = true) (hl : is.length = n)
    (hs : swapsWithSole [.Tuple tgs kt pt] (.Tuple es k2 p2) pos.line X.env = pure false := by rfl) (hw : swappedStores [.Tuple tgs kt pt] (.Tuple es k2 p2) X.env = pure none := by rfl)
    (h1 : (assignEach [.Tuple tgs kt pt] X.env).map (·.2) = [assign (.Tuple tgs kt pt) X.env] := by rfl) (hn : (assignEach tgs X.env).length = n := by rfl) (hst : (assignEach tgs X.env).findIdx? (·.1) = none := by rfl) :
    PS X (.Assign [.Tuple tgs kt pt] (.Tuple es k2 p2) pos) (tDS C W R G (sTup is k) (setsG is os G)) := by
  refine PS_weak (ps_asg (pe_tup ha) (pg_tup hc hg hn hst) hs hw h1) fun D σ H q => ?_
  obtain ⟨F, P, Lk, r, E, q⟩ := q
  refine ⟨F, P, Lk, r, E, (RF.fl q).mono fun ds r1 q1 vs F1 H1 La x1 R1 E1 m => ?_⟩
  have len := R1.len
  split at q1
  · rename_i hz
    have lv : vs.length = ds.length := by
      have := len.2
      simpa using this
    refine ⟨by rw [lv]; exact hz, fun p hp => ?_⟩
    cases hq : Tg.putO is ds r1 with
    | none => rw [hq] at q1; exact q1.elim
    | some r2 =>
      rw [hq] at q1
      have li : ∀ (is : List Nat) (ds : List DL.D) (r r2 : DL.Env), Tg.putO is ds r = some r2 → ds.length = is.length := by
        intro is
        induction is with
        | nil => intro ds r r2 h; cases ds <;> simp [Tg.putO] at h ⊢
        | cons i is ih =>
          intro ds r r2 h
          cases ds with
          | nil => simp [Tg.putO] at h
          | cons d ds =>
            simp only [Tg.putO] at h
            split at h
            · simp [ih _ _ _ h]
            · cases h
      have hi := li _ _ _ _ hq
      refine ⟨p, vs, rfl, SqT.of upd_same, by omega, by omega, ?_⟩
      refine q1 _ F1 _ x1 (fun i hi => ?_) (putO_ok hq R1 ?_)
      · have key : ∀ (is : List Nat) (vs : List V) (σ : L2.St), (is.all fun i => !R.pm.contains i) = true → ((is.zip vs).foldl (fun σ p => σ.set p.1 (some p.2)) σ)[i]? = σ[i]? := by
          intro is
          induction is with
          | nil => intro vs σ _; rfl
          | cons j is ih =>
            intro vs σ h
            cases vs with
            | nil => rfl
            | cons v vs =>
              simp only [List.all_cons, Bool.and_eq_true] at h
              simp only [List.zip_cons_cons, List.foldl_cons]
              rw [ih vs _ h.2]
              rw [List.getElem?_set_ne]
              rintro rfl
              rw [List.contains_iff_mem.mpr hi] at h
              exact absurd h.1 (by decide)
        exact key is vs σ hd
      · obtain ⟨L0, e0, s0⟩ := E1
        exact ⟨L0, e0, s0.grow (Sub.new hp)⟩
  · exact q1.elim
theorem call_list_D (hK : X.K = C.K) : CallR X (.type "list") (rON C (g1 listD) (.c .z)) :=
  cr1 call_list_of fun F P Lk L H x dx dz Q S R e q => by
    unfold listD at e
    split at e
    · cases e
      cases R with
      | lst h r => exact ⟨_, _, rfl, .inl (.inl (S.rdL h)), fun p hp => q _ F _ (Ext.refl F) (SttH.closeL ((Stt.hole S hp).zcell r) r.length)⟩
    · cases e
      cases R with
      | tup h r => exact ⟨_, _, rfl, .inr (SqT.of (S.tup h)), fun p hp => q _ F _ (Ext.refl F) (SttH.closeL ((Stt.hole S hp).zcell r) r.length)⟩
    · cases e
      cases R with
      | ktup h r => exact ⟨_, _, rfl, .inr (by rw [hK]; exact sqT_k h), fun p hp => q _ F _ (Ext.refl F) (SttH.closeL ((Stt.hole S hp).zcell r) r.length)⟩
    · cases e
/-- x += e, ints -/
def sAugI (i : Nat) (g : Int → Int → Int) (f : SE) : SS := fun r => match r[i]? with
  | some (some (.int a)) => (f r).fl fun d r1 => match d with
    | .int b => .nx (r1.set i (some (.int (g a b))))
    | _ => .stk
  | _ => .stk
theorem d_augI {i : Nat} {x : Str} {f : SE} {op : Operator} {g : Int → Int → Int} {pos' : Pos} (hN : X.N.Nodup) (hi : X.N[i]? = some x) (hx : Loc X.env.scope x) (hG : G[i]? = some .z) (he : PE X e (tD C W G f .z)) (ho : PIp X op (ipI g)) (hp : R.pm.contains i = false) (hf : X.fn x = true ∨ X.env.scope.names.lookup x = some .local := by first | exact .inl rfl | exact .inr rfl | assumption) :
    PS X (.AugAssign (.Name x pos') op e pos) (tDS C W R G (sAugI i g f) G) := by
  refine PS_weak (ps_aug hN hi hx he ho hf) fun D σ H q => ?_
  obtain ⟨F, P, Lk, r, E, q⟩ := q
  unfold sAugI at q
  split at q
  · rename_i a ha
    obtain ⟨v, h1, R1⟩ := E.slotZ ha hG
    cases R1
    refine ⟨_, h1, F, P, Lk, r, E, (RF.fl q).mono fun d r1 q1 w F1 H1 x1 E1 => ?_⟩
    obtain ⟨R2, E1⟩ := E1.rep
    cases R2 with
    | int b =>
      refine ⟨a, b, rfl, rfl, q1 _ F1 H1 x1 (Keep.set (by simpa using hp)) ?_⟩
      have hl := E1.len
      have hl' : i < r1.length := by
        have := (List.getElem?_eq_some_iff.mp hG).1
        omega
      have z := (E1.drop.zcons (.int (g a b))).put hl'
      rw [set_z hG] at z
      exact z
    | _ => exact q1.elim
  · exact q.elim
end
end DL
set_option Elab.async false
set_option linter.all false
set_option autoImplicit false
set_option maxRecDepth 100000
set_option maxHeartbeats 1000000
/-! the data layer, part 9: enumerate, zip -/
namespace DL
open PySem PySem.Spec PyProof.Rows L2
variable {C : Cfg}

/-! ### enumerate over a list or a tuple, from any number -/
def SqB : Bool → PySem.W.Frag → Hp → Addr → List V → Prop
  | true => SqL
  | false => SqT
def IsIt : Bool → Heap → Addr → Addr → Nat → Prop
  | true => Heap.IsListIter
  | false => Heap.IsTupleIter
def SeqAt : Bool → Heap → Addr → Array Value → Prop
  | true => Heap.IsList
  | false => Heap.IsTuple
def itObjOf (b : Bool) (a : Addr) : Obj := { cls := .type (if b = true then "list_iterator" else "tuple_iterator"), data := .fields #[.ref a, .int 0 0] }
section
variable {X : Cx} {pins : List (Addr × Obj)} {σ : L2.St} {H : Hp} {s : Shared} {a it : Addr} {xs ys : List V} {b : Bool}
theorem seqB (I : Inv X pins σ H s) (h : SqB b X.K H a xs) : ∃ its : List Value, Vals xs its ∧ SeqAt b s.heap a its.toArray ∧ xs.length ≤ sizeLine := by
  cases b with
  | true => obtain ⟨its, r, p, z⟩ := I.list h; exact ⟨its, r, p.isList, z⟩
  | false => obtain ⟨its, r, p, z⟩ := I.tuple h; exact ⟨its, r, show s.heap.IsTuple a its.toArray from p, z⟩
theorem seqB_inj (I : Inv X pins σ H s) (h : SqB b X.K H a xs) (k : SqB b X.K H a ys) : xs = ys := by
  cases b with
  | true => exact I.list_inj h k
  | false => exact I.tuple_inj h k
theorem seqB_lt {items : Array Value} {h : Heap} (q : SeqAt b h a items) : a < h.objs.size := by
  cases b with
  | true => obtain ⟨o, e, _⟩ := q; exact Heap.lt_size e
  | false => obtain ⟨o, e, _⟩ := q; exact Heap.lt_size e
theorem drawsB {prog : Program} {w : World} {A : Around} (hh : A.handled = none) (hne : a ≠ it) (items : Array Value) :
    Draws prog w A it [it, a] items.size (fun i v => items[i]? = some v) (fun i h => IsIt b h it a i ∧ SeqAt b h a items) := by
  cases b with
  | true => exact Draws.list hh it a hne items
  | false => exact Draws.tuple hh it a hne items
theorem isIt_obj {h : Heap} {i : Nat} (q : IsIt b h it a i) : ∃ o, h.get? it = some o ∧ ∀ v, o.data ≠ .cell v := by
  cases b with
  | true => obtain ⟨o, e, c, d⟩ := q; exact ⟨o, e, fun v z => by rw [d] at z; cases z⟩
  | false => obtain ⟨o, e, c, d⟩ := q; exact ⟨o, e, fun v z => by rw [d] at z; cases z⟩
theorem isIt_at {h h' : Heap} {i : Nat} (q : IsIt b h it a i) (k : ∀ o, h.get? it = some o → h'.get? it = some o) : IsIt b h' it a i := by
  cases b with
  | true => exact Heap.IsListIter.at q k
  | false => exact Heap.IsTupleIter.at q k
theorem beginsB (items : Array Value) : Begins (.ref a) (itObjOf b a) fun h => SeqAt b h a items := by
  cases b with
  | true => exact begins_list a items
  | false => exact begins_tuple a items
theorem isIt_new {h : Heap} (e : h.get? it = some (itObjOf b a)) : IsIt b h it a 0 := by
  cases b with
  | true => exact ⟨_, e, rfl, rfl⟩
  | false => exact ⟨_, e, rfl, rfl⟩
end
def IteB (K : PySem.W.Frag) (b : Bool) (k : Int) (a : Addr) : It :=
  ⟨fun i H => ∃ (xs : List V) (x : V), SqB b K H a xs ∧ xs[i]? = some x,
    fun i H v H' => ∃ T x, v = .ref T ∧ H T = none ∧ H' = upd H T (.tup [.int (k + (i : Int)), x]) ∧ ∀ xs, SqB b K H a xs → xs[i]? = some x,
    fun i H => ∃ xs : List V, SqB b K H a xs ∧ xs.length = i⟩
theorem turn_enumB {P : Program} {w : World} {K : PySem.W.Frag} {elts : List Expr} {kk : Nat} {tpos : Pos} (b : Bool) (k : Int) (a e it : Addr) :
    Turn P w K (.Tuple elts kk tpos) (IteB K b k a) [e, it] e (fun i h => (∃ old, IsEnum h e it (k + (i : Int)) old) ∧ IsIt b h it a i ∧ e ≠ it ∧ e ≠ a ∧ a ≠ it) where
  mem := by simp
  obj := fun i h st c hc => by
    obtain ⟨⟨old, he⟩, hi, _⟩ := st
    have e' : c = e ∨ c = it := by simpa using hc
    rcases e' with rfl | rfl
    · exact ⟨_, he, fun v q => nomatch q⟩
    · exact isIt_obj hi
  keep := fun i h h' ⟨⟨old, he⟩, hi, hne⟩ kp => ⟨⟨old, kp e (by simp) _ he⟩, isIt_at hi fun o q => kp it (by simp) o q, hne⟩
  item := by
    rintro X rfl rfl rfl hc i pins s σ H E I hf ⟨⟨old, he⟩, hit, hne, hea, hai⟩ ⟨xs, x, hq, hx⟩
    obtain ⟨its, rv, p, hz⟩ := seqB I hq
    obtain ⟨u, hu, ru⟩ := rv.get hx
    have hel : e < s.heap.objs.size := Heap.lt_size he
    have hil : it < s.heap.objs.size := by obtain ⟨_, q, _⟩ := isIt_obj hit; exact Heap.lt_size q
    have hin : i < its.toArray.size := by rw [List.size_toArray]; exact (List.getElem?_eq_some_iff.mp hu).1
    refine wpAny_pyNext_enum_itemC (drawsB (b := b) (prog := X.prog) (w := X.w) (A := X.A.in1) (I.ok.hd hc) hai its.toArray) he ⟨hit, p⟩ hin hne (by simp; exact ⟨hne, hea⟩) fun y h' tk hy ho hst hT hsz hk => ?_
    have hyu : y = u := by
      have z : its.toArray[i]? = some y := hy
      rw [List.getElem?_toArray, hu] at z
      exact (Option.some.inj z).symm
    subst hyu
    refine ⟨_, rfl, wpAny_letOwnedTupleGo_enum (s := { s with heap := h', toks := tk + 1 }) ho fun h'' he' sb => ?_⟩
    have hT2 : h''.get? s.heap.objs.size = some { cls := .type "tuple", data := .seq #[.int (k + (i : Int)) tk, y] } := (sb.2 _ (Nat.ne_of_gt hel)).trans hT
    have new : ObjOk X.prog X.w (upd H s.heap.objs.size (.tup [.int (k + (i : Int)), x])) h'' s.heap.objs.size (.tup [.int (k + (i : Int)), x]) :=
      ⟨by show 2 ≤ sizeLine; decide, [.int (k + (i : Int)) tk, y], .cons ⟨_, rfl⟩ (.cons ru .nil), ⟨_, hT2, rfl, _, rfl⟩⟩
    have I1 : Inv X pins σ (upd H s.heap.objs.size (.tup [.int (k + (i : Int)), x])) { s with heap := h'', toks := tk + 1 } :=
      I.turnedNew (ch := [e, it]) (fun c o hb q => (sb.2 c (fun z => hb (by simp [z]))).trans (hk c o (fun z => hb (by simp [z])) (fun z => hb (by simp [z])) q)) hf (Nat.le_refl _) new
    refine ⟨.ref s.heap.objs.size, _, I1, rfl, ⟨_, x, rfl, I.hok.fresh (Nat.le_refl _), rfl, fun ys hy => by rw [seqB_inj I hy hq]; exact hx⟩, ⟨⟨y, ?_⟩, isIt_at hst.1 fun o q => (sb.2 it (Ne.symm hne)).trans q, hne, hea, hai⟩, fun c hcm => ?_⟩
    · have e1 : k + ((i + 1 : Nat) : Int) = k + (i : Int) + 1 := by omega
      rw [e1]; exact he'
    · have hlt : c < s.heap.objs.size := by
        have e' : c = e ∨ c = it := by simpa using hcm
        rcases e' with rfl | rfl <;> assumption
      rw [upd_ne (Nat.ne_of_lt hlt)]
      exact (hf c hcm).1
  done := by
    rintro X rfl rfl rfl hc i pins s σ H E I hf ⟨⟨old, he⟩, hit, hne, hea, hai⟩ ⟨xs, hq, hx⟩
    obtain ⟨its, rv, p, hz⟩ := seqB I hq
    obtain ⟨f0, f1, f2, f3, f4, f5⟩ := hf it (by simp)
    have hl : i = its.toArray.size := by rw [List.size_toArray, ← rv.length]; exact hx.symm
    refine wpAny_pyNext_enum_endD (drawsB (b := b) (prog := X.prog) (w := X.w) (A := X.A.in1) (I.ok.hd hc) hai its.toArray) he ⟨by rw [← hl]; exact hit, p⟩ fun h' eb => ⟨rfl, I.turned (t' := s.toks) (fun c o hb q => eb c o hb q) f0 f1 f3 f4 f5⟩
  self := fun A i s Q E ⟨⟨_, he⟩, _⟩ h => wpAny_pyIter_enum he h
section
variable {prog : Program} {w : World} {A : Around} {E : Value → Shared → Prop} {s : Shared}
theorem meets_enum1 {v : Value} {o : Obj} {H : Heap → Prop} (B : Begins v o H) :
    Meets (Builtin.«enumerate.__new__» ⟨[.type "enumerate", v], []⟩) (fun _ R s => H s.heap ∧
      R (.ok (.ret (.ref (s.heap.push o).objs.size))) { s with heap := (s.heap.push o).push { cls := .type "enumerate", data := .fields #[.none, .bool false, .ref s.heap.objs.size, rawInt 0, .none, .none] } }) :=
  .of_wp fun prog w A R s h => by
    obtain ⟨hp, g, d, tk, os⟩ := s; obtain ⟨hl, h⟩ := h
    have hsub := sub_enumerate
    have q1 : ∀ {A' : Around} {E : Value → Shared → Prop} {Q : Value → Shared → Prop}, Q (.ref hp.objs.size) ⟨hp.push o, g, d, tk, os⟩ → wpAny (model prog w) A' (pyIter v) Q E ⟨hp, g, d, tk, os⟩ :=
      fun q => B.iter prog w _ _ ⟨hp, g, d, tk, os⟩ _ hl q
    wp_walk using q1
    refine wpAny_stack_any fun st => wpAny_pure ?_
    split
    · rename_i c _ _ _ _ _
      cases (c == Value.type "enumerate") <;> (wp_walk using q1; exact ⟨_, rfl, h⟩)
    · wp_walk using q1
      exact ⟨_, rfl, h⟩
theorem enum_begins1 {v : Value} {o : Obj} {H : Heap → Prop} {Q : Value → Shared → Prop} (B : Begins v o H) (h1 : H s.heap)
    (h : ∀ h', IsEnum h' (s.heap.objs.size + 1) s.heap.objs.size 0 .none → h'.get? s.heap.objs.size = some o → (∀ b o, s.heap.get? b = some o → h'.get? b = some o) → Q (.ref (s.heap.objs.size + 1)) { s with heap := h' }) :
    wpAny (model prog w) A (call (.type "enumerate") [v]) Q E s := by
  refine callType_new F.called_enumerate (by decide) (F.typeCall_enumerate_1 _) (F.newCall_enumerate_1 _) (fun obj => F.args_object_init_2 obj _) F.entry_enumerate_new (meets_enum1 B) ⟨h1, ?_⟩
  have hz : (s.heap.push o).objs.size = s.heap.objs.size + 1 := Heap.size_push ..
  show _ ∧ _
  rw [hz]
  have he := Heap.get?_push_size (s.heap.push o) (o := { cls := .type "enumerate", data := .fields #[.none, .bool false, .ref s.heap.objs.size, rawInt 0, .none, .none] }) rfl
  rw [hz] at he
  exact ⟨⟨_, he, rfl⟩, h _ he (Heap.get?_push_of_some _ (Heap.get?_push_size _ B.free)) fun b o x => Heap.get?_push_of_some _ (Heap.get?_push_of_some _ x)⟩
end
def iEnB (K : PySem.W.Frag) (k : Int) (ta : TA) : TI := fun σ H R => ta σ H fun vs H1 => ∃ a xs b, vs = [.ref a] ∧ SqB b K H1 a xs ∧ R (IteB K b k a) H1
section
variable {X : Cx} {e : Expr} {ta : TA} {p pos tpos : Pos} {elts : List Expr} {kk : Nat}
theorem enum_end {pins : List (Addr × Obj)} {σ : L2.St} {H : Hp} {s : Shared} {R : It → Hp → Prop} {b : Bool} {a : Addr} {k : Int} {h' : Heap} {its : Array Value} (I : Inv X pins σ H s) (p : SeqAt b s.heap a its) (he : IsEnum h' (s.heap.objs.size + 1) s.heap.objs.size k .none) (hi : h'.get? s.heap.objs.size = some (itObjOf b a)) (hk : ∀ b o, s.heap.get? b = some o → h'.get? b = some o)
    (q : R (IteB X.K b k a) H) : PIE X pins σ (.Tuple elts kk tpos) R (.ref (s.heap.objs.size + 1)) { s with heap := h' } := by
  have I2 : Inv X pins σ H { s with heap := h' } := I.kept (t' := s.toks) hk
  have al : a < s.heap.objs.size := seqB_lt p
  refine ⟨s.heap.objs.size + 1, [s.heap.objs.size + 1, s.heap.objs.size], _, _, H, rfl, I2, turn_enumB b k a (s.heap.objs.size + 1) s.heap.objs.size, ⟨⟨.none, by simpa using he⟩, isIt_new hi, Nat.succ_ne_self _, Nat.ne_of_gt (Nat.lt_succ_of_lt al), Nat.ne_of_lt al⟩, fun c hcm => ?_, q⟩
  have hle : s.heap.objs.size ≤ c := by
    have e' : c = s.heap.objs.size + 1 ∨ c = s.heap.objs.size := by simpa using hcm
    rcases e' with z | z
    · rw [z]; exact Nat.le_add_right _ _
    · rw [z]; exact Nat.le_refl _
  exact I.fpOk hle (I.hok.fresh hle)
theorem pi_enumB (hg : Gl X "enumerate") (hm : X.mg "enumerate" = none) (ha : PA X [e] ta) (hs : starEach [e] X.env = [(false, eval e X.env)] := by rfl) :
    PI X (.Tuple elts kk tpos) (.Call (.Name "enumerate" p) [e] [] pos) (iEnB X.K 0 ta) := by
  refine ⟨fun pins s σ H R I h => ?_⟩
  refine Call_ (ld_blt I hg hm boot_enumerate (PyProof.Rows.callWith_type1 (thn (ha.run pos pins s σ H _ I h) fun us s1 ⟨vs, H1, I1, r1, q1⟩ => ?_) hs rfl))
  obtain ⟨a, xs, b, rfl, hq, q⟩ := q1
  obtain ⟨u, rfl, ru⟩ := Vals.one r1
  cases ru
  obtain ⟨its, rv, p', hz⟩ := seqB I1 hq
  exact enum_begins1 (beginsB its.toArray) p' fun h' he hi hk => wpAny_pyIter_enum he (enum_end I1 p' he hi hk q)
theorem call_typeK {M : Model} {A : Around} {E : Value → Shared → Prop} {s : Shared} {T : String} {args : List (Bool × Sem Value)} {kws : List (Option Str × Sem Value)} {Q : Value → Shared → Prop} (h1 : args.any (·.1) = false) (h2 : kws.any (·.1.isNone) = false)
    (h : wpAny M A (evalArgs (.type T) true args kws) (fun a s₁ => wpAny M A (call (.type T) ([] ++ a.pos) a.kw) Q E s₁) E s) : wpAny M A (callWith pos (.type T) [] args kws) Q E s := by
  unfold callWith
  refine wpAny_bind (wpAny_holding (wpAny_mono h (fun a s₁ g => wpAny_bind (wpAny_standAt ?_)) fun _ _ x => x))
  simp only [h1, h2, Bool.or_false]
  refine wpAny_bind (wpAny_pure (wpAny_bind (wpAny_mono g (fun r s₂ hr => wpAny_bind (wpAny_holding (wpAny_point (wpAny_pure hr)))) fun _ _ x => x)))
theorem pi_enumK {kp kp2 : Pos} {k : Int} (hk0 : -(2 ^ 63) ≤ k) (hk1 : k < 2 ^ 63) (hg : Gl X "enumerate") (hm : X.mg "enumerate" = none) (ha : PA X [e] ta) {nm : Nat} (hs : starEach [e] X.env = [(false, eval e X.env)] := by rfl) :
    PI X (.Tuple elts kk tpos) (.Call (.Name "enumerate" p) [e] [⟨some (Str.ofString "start"), .Constant (.int k) nm kp, kp2⟩] pos) (iEnB X.K k ta) := by
  refine ⟨fun pins s σ H R I h => ?_⟩
  refine wpAny_Call_Name_kw (ld_blt I hg hm boot_enumerate ?_)
  refine call_typeK (by rw [hs]; rfl) rfl ?_
  rw [hs]
  refine PyProof.Rows.evalArgs_kwB rfl ?_
  have hA := ha.run pos pins s σ H _ I h
  rw [hs] at hA
  refine thn hA fun us s1 ⟨vs, H1, I1, r1, q1⟩ => ?_
  refine PyProof.Rows.kws_cons ?_
  refine thn (pe_int.run pins s1 σ H1 (fun x H2 => x = .int k ∧ H2 = H1) I1 ⟨rfl, rfl⟩) fun kv s2 ⟨x, H2, I2, rk, e1, e2⟩ => ?_
  subst e1 e2
  obtain ⟨t, rfl⟩ := rk
  refine PyProof.Rows.kws_nil ?_
  obtain ⟨a, xs, b, rfl, hq, q⟩ := q1
  obtain ⟨u, rfl, ru⟩ := Vals.one r1
  cases ru
  obtain ⟨its, rv, p', hz⟩ := seqB I2 hq
  show wpAny _ _ (call (.type "enumerate") [.ref a] [(Str.ofString "start", .int k t)]) _ _ s2
  exact enum_begins_start (beginsB its.toArray) p' hk0 hk1 fun h' he hi _ hk => wpAny_pyIter_enum he (enum_end I2 p' he hi hk q)
end
/-! ### as data -/
def enD (k : Int) (xs : List D) : List D := xs.mapIdx fun i x => .tup [.int (k + (i : Int)), x]
def enA (k : Int) : List D → Option (List D)
  | [.lst xs] => some (enD k xs)
  | [.tup xs] => some (enD k xs)
  | [.ktup xs] => some (enD k xs)
  | _ => none
def iEn (k : Int) (f : SA) : SI := fun r => (f r).bind fun ds r1 => opt (enA k ds) r1
def zpA : List D → Option (List D)
  | [.lst xs, .lst ys] => some ((xs.zip ys).map fun p => .tup [p.1, p.2])
  | [.tup xs, .tup ys] => some ((xs.zip ys).map fun p => .tup [p.1, p.2])
  | [.ktup xs, .ktup ys] => some ((xs.zip ys).map fun p => .tup [p.1, p.2])
  | [.ktup xs, .tup ys] => some ((xs.zip ys).map fun p => .tup [p.1, p.2])
  | [.tup xs, .ktup ys] => some ((xs.zip ys).map fun p => .tup [p.1, p.2])
  | _ => none
def iZp (f : SA) : SI := fun r => (f r).bind fun ds r1 => opt (zpA ds) r1
theorem seqD {F : Hp} {v : V} {d : D} {xs : List D} (h : d = .lst xs ∨ d = .tup xs ∨ d = .ktup xs) (r : Rep C F v d) : ∃ a vs b, v = .ref a ∧ (b = true ↔ d = .lst xs) ∧ RepL C F vs xs ∧ ∀ F2 P Lk L H, Ext F F2 → Stt C F2 P Lk L H → SqB b C.K H a vs := by
  rcases h with rfl | rfl | rfl
  · cases r with
    | lst h rr => exact ⟨_, _, true, rfl, by simp, rr, fun F2 P Lk L H e S => .inl (S.rdL (e.rd h))⟩
  · cases r with
    | tup h rr => exact ⟨_, _, false, rfl, by simp, rr, fun F2 P Lk L H e S => SqT.of (S.tup (e.at h rfl))⟩
  · cases r with
    | ktup h rr => exact ⟨_, _, false, rfl, by simp, rr, fun F2 P Lk L H e S => sqT_k h⟩
theorem yld_en {F : Hp} {a : Addr} {b : Bool} {k : Int} {vs : List V} {xs : List D} (rr : RepL C F vs xs) (h : ∀ F2 P Lk L H, Ext F F2 → Stt C F2 P Lk L H → SqB b C.K H a vs) : Yld C (IteB C.K b k a) F (enD k xs) where
  go := fun i F2 P Lk L H e S hi => by
    have hi : i < xs.length := by simpa [enD] using hi
    obtain ⟨v, hv, _⟩ := rr.get (List.getElem?_eq_getElem hi)
    exact ⟨vs, v, h _ _ _ _ _ e S, hv⟩
  stop := fun F2 P Lk L H e S => ⟨vs, h _ _ _ _ _ e S, by rw [rr.length]; simp [enD]⟩
  yld := fun i F2 P Lk L H v H' e S hi y => by
    obtain ⟨T, x, rfl, hT, rfl, hx⟩ := y
    obtain ⟨d, hd, Rd⟩ := rr.get' (hx vs (h _ _ _ _ _ e S))
    obtain ⟨x2, S2⟩ := S.newZ (o := .tup [.int (k + (i : Int)), x]) hT
    exact ⟨_, .tup [.int (k + (i : Int)), d], x2, by simp [enD, hd], .tup upd_same (.cons (.int _) (.cons ((Rd.mono e).mono x2) .nil)), S2⟩
theorem enA_some {k : Int} {ds items : List D} (h : enA k ds = some items) : ∃ d xs, ds = [d] ∧ (d = .lst xs ∨ d = .tup xs ∨ d = .ktup xs) ∧ items = enD k xs := by
  unfold enA at h
  split at h
  · cases h; exact ⟨_, _, rfl, .inl rfl, rfl⟩
  · cases h; exact ⟨_, _, rfl, .inr (.inl rfl), rfl⟩
  · cases h; exact ⟨_, _, rfl, .inr (.inr rfl), rfl⟩
  · cases h
section
variable {X : Cx} {W : WX} {G : List O} {e e2 : Expr} {f : SA} {p pos tpos : Pos} {elts : List Expr} {kk : Nat}
theorem en_hyp (hK : X.K = C.K) {k : Int} {σ : L2.St} {H : Hp} {R : It → Hp → Prop} (q : tDI C W G (iEn k f) σ H R) : iEnB X.K k (tDA C W G f) σ H R := by
  obtain ⟨F, P, Lk, r, E, q⟩ := q
  refine ⟨F, P, Lk, r, E, (RD.bind q).mono fun ds r1 q1 vs F1 H1 x1 R1 E1 => ?_⟩
  obtain ⟨items, e3, q3⟩ := RD_opt q1
  obtain ⟨d, xs, rfl, hd, rfl⟩ := enA_some e3
  obtain ⟨v, rfl, Rv⟩ := repl1 R1
  obtain ⟨a, ws, b, rfl, _, rr, sq⟩ := seqD hd Rv
  obtain ⟨L, e0, S0⟩ := id E1
  rw [hK]
  exact ⟨a, ws, b, rfl, sq _ _ _ _ _ (Ext.refl _) S0, q3 _ F1 H1 x1 E1 (yld_en rr sq)⟩
theorem di_enum (hK : X.K = C.K) (hg : Gl X "enumerate") (hm : X.mg "enumerate" = none) (ha : PA X [e] (tDA C W G f)) (hs : starEach [e] X.env = [(false, eval e X.env)] := by rfl) :
    PI X (.Tuple elts kk tpos) (.Call (.Name "enumerate" p) [e] [] pos) (tDI C W G (iEn 0 f)) :=
  PI_weak (pi_enumB hg hm ha hs) fun _ _ _ q => en_hyp hK q
theorem di_enumK {kp kp2 : Pos} {k : Int} {nm : Nat} (hk0 : -(2 ^ 63) ≤ k) (hk1 : k < 2 ^ 63) (hK : X.K = C.K) (hg : Gl X "enumerate") (hm : X.mg "enumerate" = none) (ha : PA X [e] (tDA C W G f)) (hs : starEach [e] X.env = [(false, eval e X.env)] := by rfl) :
    PI X (.Tuple elts kk tpos) (.Call (.Name "enumerate" p) [e] [⟨some (Str.ofString "start"), .Constant (.int k) nm kp, kp2⟩] pos) (tDI C W G (iEn k f)) :=
  PI_weak (pi_enumK hk0 hk1 hg hm ha hs) fun _ _ _ q => en_hyp hK q
theorem yld_zp {F : Hp} {a b : Addr} {vs ws : List V} {xs ys : List D} (rx : RepL C F vs xs) (ry : RepL C F ws ys) (h : ∀ F2 P Lk L H, Ext F F2 → Stt C F2 P Lk L H → SqB true C.K H a vs ∧ SqB true C.K H b ws) : Yld C (Itz C.K a b) F ((xs.zip ys).map fun p => .tup [p.1, p.2]) where
  go := fun i F2 P Lk L H e S hi => by
    have hi : i < xs.length ∧ i < ys.length := by simp at hi; omega
    obtain ⟨v, hv, _⟩ := rx.get (List.getElem?_eq_getElem hi.1)
    obtain ⟨w, hw, _⟩ := ry.get (List.getElem?_eq_getElem hi.2)
    obtain ⟨h1, h2⟩ := h _ _ _ _ _ e S
    exact ⟨vs, ws, v, w, h1, h2, hv, hw⟩
  stop := fun F2 P Lk L H e S => by
    obtain ⟨h1, h2⟩ := h _ _ _ _ _ e S
    refine ⟨vs, ws, h1, h2, ?_⟩
    rw [rx.length, ry.length]
    simp; omega
  yld := fun i F2 P Lk L H v H' e S hi y => by
    obtain ⟨T, x, y, rfl, hT, rfl, hx, hy⟩ := y
    obtain ⟨h1, h2⟩ := h _ _ _ _ _ e S
    obtain ⟨d, hd, Rd⟩ := rx.get' (hx vs h1)
    obtain ⟨d', hd', Rd'⟩ := ry.get' (hy ws h2)
    obtain ⟨x2, S2⟩ := S.newZ (o := .tup [x, y]) hT
    have hz : (xs.zip ys)[i]? = some (d, d') := by rw [List.getElem?_zip_eq_some]; exact ⟨hd, hd'⟩
    exact ⟨_, .tup [d, d'], x2, by rw [List.getElem?_map, hz]; rfl, .tup upd_same (.cons ((Rd.mono e).mono x2) (.cons ((Rd'.mono e).mono x2) .nil)), S2⟩
theorem yld_zt {F : Hp} {a b : Addr} {vs ws : List V} {xs ys : List D} (rx : RepL C F vs xs) (ry : RepL C F ws ys) (h : ∀ F2 P Lk L H, Ext F F2 → Stt C F2 P Lk L H → SqB false C.K H a vs ∧ SqB false C.K H b ws) : Yld C (RZ.ItzT C.K a b) F ((xs.zip ys).map fun p => .tup [p.1, p.2]) where
  go := fun i F2 P Lk L H e S hi => by
    have hi : i < xs.length ∧ i < ys.length := by simp at hi; omega
    obtain ⟨v, hv, _⟩ := rx.get (List.getElem?_eq_getElem hi.1)
    obtain ⟨w, hw, _⟩ := ry.get (List.getElem?_eq_getElem hi.2)
    obtain ⟨h1, h2⟩ := h _ _ _ _ _ e S
    exact ⟨vs, ws, v, w, h1, h2, hv, hw⟩
  stop := fun F2 P Lk L H e S => by
    obtain ⟨h1, h2⟩ := h _ _ _ _ _ e S
    refine ⟨vs, ws, h1, h2, ?_⟩
    rw [rx.length, ry.length]
    simp; omega
  yld := fun i F2 P Lk L H v H' e S hi y => by
    obtain ⟨T, x, y, rfl, hT, rfl, hx, hy⟩ := y
    obtain ⟨h1, h2⟩ := h _ _ _ _ _ e S
    obtain ⟨d, hd, Rd⟩ := rx.get' (hx vs h1)
    obtain ⟨d', hd', Rd'⟩ := ry.get' (hy ws h2)
    obtain ⟨x2, S2⟩ := S.newZ (o := .tup [x, y]) hT
    have hz : (xs.zip ys)[i]? = some (d, d') := by rw [List.getElem?_zip_eq_some]; exact ⟨hd, hd'⟩
    exact ⟨_, .tup [d, d'], x2, by rw [List.getElem?_map, hz]; rfl, .tup upd_same (.cons ((Rd.mono e).mono x2) (.cons ((Rd'.mono e).mono x2) .nil)), S2⟩
theorem zpA_some {ds items : List D} (h : zpA ds = some items) : ∃ d d' xs ys, ds = [d, d'] ∧ ((d = .lst xs ∧ d' = .lst ys) ∨ ((d = .tup xs ∨ d = .ktup xs) ∧ (d' = .tup ys ∨ d' = .ktup ys))) ∧ items = (xs.zip ys).map fun p => .tup [p.1, p.2] := by
  unfold zpA at h
  split at h
  · cases h; exact ⟨_, _, _, _, rfl, .inl ⟨rfl, rfl⟩, rfl⟩
  · cases h; exact ⟨_, _, _, _, rfl, .inr ⟨.inl rfl, .inl rfl⟩, rfl⟩
  · cases h; exact ⟨_, _, _, _, rfl, .inr ⟨.inr rfl, .inr rfl⟩, rfl⟩
  · cases h; exact ⟨_, _, _, _, rfl, .inr ⟨.inr rfl, .inl rfl⟩, rfl⟩
  · cases h; exact ⟨_, _, _, _, rfl, .inr ⟨.inl rfl, .inr rfl⟩, rfl⟩
  · cases h
theorem di_zip (hK : X.K = C.K) (hg : Gl X "zip") (hm : X.mg "zip" = none) (ha : PA X [e, e2] (tDA C W G f))
    (hs : starEach [e, e2] X.env = (false, eval e X.env) :: starEach [e2] X.env := by rfl) (hpl : (backTo pos (starEach [e2] X.env)).any (·.1) = false := by rfl) :
    PI X (.Tuple elts kk tpos) (.Call (.Name "zip" p) [e, e2] [] pos) (tDI C W G (iZp f)) := by
  refine PI_weak (RZ.pi_zipA hg hm ha hs hpl) fun σ H R q => ?_
  obtain ⟨F, P, Lk, r, E, q⟩ := q
  refine ⟨F, P, Lk, r, E, (RD.bind q).mono fun ds r1 q1 vs F1 H1 x1 R1 E1 => ?_⟩
  obtain ⟨items, e3, q3⟩ := RD_opt q1
  obtain ⟨d, d', xs, ys, rfl, hd, rfl⟩ := zpA_some e3
  obtain ⟨v, w, rfl, Rv, Rw⟩ := repl2 R1
  obtain ⟨L, e0, S0⟩ := id E1
  rw [hK]
  rcases hd with ⟨h1, h2⟩ | ⟨h1, h2⟩
  · obtain ⟨a, ws, b, rfl, hb, rr, sq⟩ := seqD (.inl h1) Rv
    obtain ⟨a', ws', b', rfl, hb', rr', sq'⟩ := seqD (.inl h2) Rw
    cases hb.mpr h1
    cases hb'.mpr h2
    exact ⟨a, a', ws, ws', rfl, .inl ⟨sq _ _ _ _ _ (Ext.refl _) S0, sq' _ _ _ _ _ (Ext.refl _) S0, q3 _ F1 H1 x1 E1 (yld_zp rr rr' fun _ _ _ _ _ e S => ⟨sq _ _ _ _ _ e S, sq' _ _ _ _ _ e S⟩)⟩⟩
  · obtain ⟨a, ws, b, rfl, hb, rr, sq⟩ := seqD (.inr h1) Rv
    obtain ⟨a', ws', b', rfl, hb', rr', sq'⟩ := seqD (.inr h2) Rw
    have eb : b = false := by
      cases b with
      | false => rfl
      | true => rcases h1 with h1 | h1 <;> (have z := hb.mp rfl; rw [h1] at z; cases z)
    have eb' : b' = false := by
      cases b' with
      | false => rfl
      | true => rcases h2 with h2 | h2 <;> (have z := hb'.mp rfl; rw [h2] at z; cases z)
    subst eb eb'
    exact ⟨a, a', ws, ws', rfl, .inr ⟨sq _ _ _ _ _ (Ext.refl _) S0, sq' _ _ _ _ _ (Ext.refl _) S0, q3 _ F1 H1 x1 E1 (yld_zt rr rr' fun _ _ _ _ _ e S => ⟨sq _ _ _ _ _ e S, sq' _ _ _ _ _ e S⟩)⟩⟩
end
end DL
set_option Elab.async false
set_option linter.all false
set_option autoImplicit false
set_option maxRecDepth 100000
set_option maxHeartbeats 1000000
/-! the data layer, part 10: chains, isinstance, constants -/
namespace DL
open PySem PySem.Spec PyProof.Rows L2
variable {C : Cfg}
def eCh2 (g g' : D → D → Option D) (fa fb fc : SE) : SE := fun r => (fa r).bind fun x r1 => (fb r1).bind fun y r2 => match g x y with
  | some (.bl true) => (fc r2).bind fun z r3 => opt (g' y z) r3
  | some (.bl false) => .ok (.bl false) r2
  | _ => .stk
def eCh3 (g g' g'' : D → D → Option D) (fa fb fc fd : SE) : SE := fun r => (fa r).bind fun x r1 => (fb r1).bind fun y r2 => match g x y with
  | some (.bl true) => (fc r2).bind fun z r3 => match g' y z with
    | some (.bl true) => (fd r3).bind fun u r4 => opt (g'' z u) r4
    | some (.bl false) => .ok (.bl false) r3
    | _ => .stk
  | some (.bl false) => .ok (.bl false) r2
  | _ => .stk
section
variable {X : Cx} {W : WX} {G : List O} {a b c d e : Expr} {pos : Pos}
theorem ch_hyp {g g' : D → D → Option D} {fa fb fc : SE} {σ : L2.St} {H : Hp} {Q : VK} (q : tD C W G (eCh2 g g' fa fb fc) .z σ H Q) : tChain (rO2 C g .z) (rO2 C g' .z) (tD C W G fa .z) (tD C W G fb .z) (tD C W G fc .z) σ H Q := by
  obtain ⟨F, P, Lk, r, E, q⟩ := q
  refine ⟨F, P, Lk, r, E, (RD.bind q).mono fun dx r1 q1 x F1 H1 x1 E0 => ?_⟩
  obtain ⟨R1, E1⟩ := E0.rep
  clear E0
  refine ⟨F1, P, Lk, r1, E1, (RD.bind (q1.ext x1 (Sub.refl P))).mono fun dy r2 q2 y F2 H2 x2 E2 => ?_⟩
  obtain ⟨R2, L, e2, S2⟩ := E2.rep
  have S2 : Stt C F2 P Lk L H2 := S2
  have go : ∀ (k : Bool), g dx dy = some (.bl k) → _ := fun k hk => (⟨F2, P, Lk, L, dx, dy, .bl k, S2, R1.mono x2, R2, hk, fun w F' H' x' S' => by
    cases S'.rep
    have E3 : EnvX C [] F' P Lk G r2 σ H' := ⟨L, e2, S'.tail⟩
    refine ⟨k, rfl, ?_⟩
    have q3 := q2.ext (x2.trans x') (Sub.refl P)
    rw [hk] at q3
    cases k with
    | true =>
      rw [if_pos rfl]
      refine ⟨F', P, Lk, r2, E3, (RD.bind (q3 : RD C W F' P Lk σ ((fc r2).bind fun z r3 => opt (g' dy z) r3) _)).mono fun dz r3 q4 z F4 H4 x4 E4 => ?_⟩
      obtain ⟨d5, e5, q5⟩ := RD_opt q4
      obtain ⟨R4, L4, e4, S4⟩ := E4.rep
      exact ⟨F4, P, Lk, L4, dy, dz, d5, S4, (R2.mono x').mono x4, R4, e5, fun w' F6 H6 x6 S6 => q5 w' F6 H6 ((x1.trans x2).trans (x'.trans (x4.trans x6))) ⟨L4, e4, S6⟩⟩
    | false =>
      rw [if_neg Bool.false_ne_true]
      exact q3 _ F' H' ((x1.trans x2).trans x') (E3.zcons (.bl false))⟩ : rO2 C g .z x y H2 fun z H3 => ∃ k, z = .bl k ∧ (if k = true then tD C W G fc .z σ H3 fun w' H4 => rO2 C g' .z y w' H4 Q else Q (.bl false) H3))
  cases hg : g dx dy with
  | none => rw [hg] at q2; exact q2.elim
  | some dz =>
    cases dz with
    | bl k => exact go k hg
    | _ => rw [hg] at q2; exact q2.elim
theorem de_ch2 {op op' : CmpOp} {g g' : D → D → Option D} {fa fb fc : SE} (ho : OpR X (compareOp op) (rO2 C g .z)) (ho' : OpR X (compareOp op') (rO2 C g' .z)) (ha : PE X a (tD C W G fa .z)) (hb : PE X b (tD C W G fb .z)) (hc : PE X c (tD C W G fc .z))
    (hm : lastMarks [op, op'] [b, c] = false := by with_unfolding_all rfl) : PE X (.Compare a [op, op'] [b, c] pos) (tD C W G (eCh2 g g' fa fb fc) .z) :=
  PE_weak (pe_chain ho ho' ha hb hc hm) fun _ _ _ q => ch_hyp q
theorem dt_ch2 {op op' : CmpOp} {g g' : D → D → Option D} {fa fb fc : SE} (ho : OpR X (compareOp op) (rO2 C g .z)) (ho' : OpR X (compareOp op') (rO2 C g' .z)) (ha : PE X a (tD C W G fa .z)) (hb : PE X b (tD C W G fb .z)) (hc : PE X c (tD C W G fc .z))
    (hm : lastMarks [op, op'] [b, c] = false := by with_unfolding_all rfl) : PT X (.Compare a [op, op'] [b, c] pos) (tDT C W G (boolT (eCh2 g g' fa fb fc))) := by
  refine PT_weak (pt_chain ho ho' ha hb hc hm) fun σ H Q q => ?_
  refine ch_hyp (Q := fun x H' => ∃ k, x = .bl k ∧ Q k H') ?_
  obtain ⟨F, P, Lk, r, E, q⟩ := q
  refine ⟨F, P, Lk, r, E, (RD.bind q).mono fun d r1 q1 x F1 H1 x1 E0 => ?_⟩
  obtain ⟨k, e3, q3⟩ := RD_opt q1
  obtain ⟨R1, E1⟩ := E0.rep
  clear E0
  cases R1 with
  | bl b => cases e3; exact ⟨_, rfl, q3 F1 H1 x1 E1⟩
  | _ => cases e3
def tChain3 (r r' r'' : R2) (ta tb tc td : TE) : TE := fun σ H Q => ta σ H fun x H1 => tb σ H1 fun y H2 => r x y H2 fun z H3 => ∃ k, z = .bl k ∧
  (if k = true then tc σ H3 fun w' H4 => r' y w' H4 fun z' H5 => ∃ k', z' = .bl k' ∧ (if k' = true then td σ H5 fun u H6 => r'' w' u H6 Q else Q (.bl false) H5) else Q (.bl false) H3)
theorem pe_ch3 {op op' op'' : CmpOp} {r r' r'' : R2} {ta tb tc td : TE} (ho : OpR X (compareOp op) r) (ho' : OpR X (compareOp op') r') (ho'' : OpR X (compareOp op'') r'') (ha : PE X a ta) (hb : PE X b tb) (hc : PE X c tc) (hd : PE X d td)
    (hm : lastMarks [op, op', op''] [b, c, d] = false := by with_unfolding_all rfl) : PE X (.Compare a [op, op', op''] [b, c, d] pos) (tChain3 r r' r'' ta tb tc td) := by
  refine ⟨fun pins s σ H Q I h => ?_⟩
  refine Compare_chain (thn (ha.run pins s σ H _ I h) fun v s1 ⟨x, H1, I1, r1, q1⟩ => chain_link (thn (hb.run pins s1 σ H1 _ I1 q1) fun u s2 ⟨y, H2, I2, r2, q2⟩ => thn (ho pins s2 σ H2 x y v u _ I2 r1 r2 q2) fun d s3 ⟨z, H3, I3, r3, k, e, q3⟩ => ?_)) hm
  subst e
  cases r3
  refine wpAny_truthy_bool ?_
  cases k with
  | false => exact ite_ff ⟨.bl false, H3, I3, rfl, q3⟩
  | true =>
    refine ite_tt (chain_link (thn (hc.run pins s3 σ H3 _ I3 q3) fun w' s4 ⟨z', H4, I4, r4, q4⟩ => thn (ho' pins s4 σ H4 y z' u w' _ I4 r2 r4 q4) fun d' s5 ⟨z5, H5, I5, r5, k', e', q5⟩ => ?_))
    subst e'
    cases r5
    refine wpAny_truthy_bool ?_
    cases k' with
    | false => exact ite_ff ⟨.bl false, H5, I5, rfl, q5⟩
    | true => exact ite_tt (chain_last (thn (hd.run pins s5 σ H5 _ I5 q5) fun u' s6 ⟨z6, H6, I6, r6, q6⟩ => ho'' pins s6 σ H6 z' z6 w' u' Q I6 r4 r6 q6))
theorem de_ch3 {op op' op'' : CmpOp} {g g' g'' : D → D → Option D} {fa fb fc fd : SE} (ho : OpR X (compareOp op) (rO2 C g .z)) (ho' : OpR X (compareOp op') (rO2 C g' .z)) (ho'' : OpR X (compareOp op'') (rO2 C g'' .z)) (ha : PE X a (tD C W G fa .z)) (hb : PE X b (tD C W G fb .z)) (hc : PE X c (tD C W G fc .z)) (hd : PE X d (tD C W G fd .z))
    (hm : lastMarks [op, op', op''] [b, c, d] = false := by with_unfolding_all rfl) : PE X (.Compare a [op, op', op''] [b, c, d] pos) (tD C W G (eCh3 g g' g'' fa fb fc fd) .z) := by
  refine PE_weak (pe_ch3 ho ho' ho'' ha hb hc hd hm) fun σ H Q q => ?_
  obtain ⟨F, P, Lk, r, E, q⟩ := q
  refine ⟨F, P, Lk, r, E, (RD.bind q).mono fun dx r1 q1 x F1 H1 x1 E0 => ?_⟩
  obtain ⟨R1, E1⟩ := E0.rep
  clear E0
  refine ⟨F1, P, Lk, r1, E1, (RD.bind (q1.ext x1 (Sub.refl P))).mono fun dy r2 q2 y F2 H2 x2 E2 => ?_⟩
  obtain ⟨R2, L, e2, S2⟩ := E2.rep
  have S2 : Stt C F2 P Lk L H2 := S2
  have hg : ∃ k, g dx dy = some (.bl k) := by
    cases hg : g dx dy with
    | none => rw [hg] at q2; exact q2.elim
    | some dz => cases dz with
      | bl k => exact ⟨k, rfl⟩
      | _ => rw [hg] at q2; exact q2.elim
  obtain ⟨k, hk⟩ := hg
  rw [hk] at q2
  refine ⟨F2, P, Lk, L, dx, dy, .bl k, S2, R1.mono x2, R2, hk, fun w F3 H3 x3 S3 => ?_⟩
  cases S3.rep
  have E3 : EnvX C [] F3 P Lk G r2 σ H3 := ⟨L, e2, S3.tail⟩
  refine ⟨k, rfl, ?_⟩
  cases k with
  | false =>
    rw [if_neg Bool.false_ne_true]
    exact q2 _ F3 H3 ((x1.trans x2).trans x3) (E3.zcons (.bl false))
  | true =>
    rw [if_pos rfl]
    refine ⟨F3, P, Lk, r2, E3, (RD.bind ((show RD C W F1 P Lk σ ((fc r2).bind fun z r3 => match g' dy z with
      | some (.bl true) => (fd r3).bind fun u r4 => opt (g'' z u) r4
      | some (.bl false) => .ok (.bl false) r3
      | _ => .stk) _ from q2).ext (x2.trans x3) (Sub.refl P))).mono fun dz r3 q4 z F4 H4 x4 E4 => ?_⟩
    obtain ⟨R4, L4, e4, S4⟩ := E4.rep
    have S4 : Stt C F4 P Lk L4 H4 := S4
    have hg : ∃ k, g' dy dz = some (.bl k) := by
      cases hg : g' dy dz with
      | none => rw [hg] at q4; exact q4.elim
      | some dz => cases dz with
        | bl k => exact ⟨k, rfl⟩
        | _ => rw [hg] at q4; exact q4.elim
    obtain ⟨k', hk'⟩ := hg
    rw [hk'] at q4
    refine ⟨F4, P, Lk, L4, dy, dz, .bl k', S4, (R2.mono x3).mono x4, R4, hk', fun w5 F5 H5 x5 S5 => ?_⟩
    cases S5.rep
    have E5 : EnvX C [] F5 P Lk G r3 σ H5 := ⟨L4, e4, S5.tail⟩
    refine ⟨k', rfl, ?_⟩
    have xx := (x1.trans x2).trans (x3.trans (x4.trans x5))
    cases k' with
    | false =>
      rw [if_neg Bool.false_ne_true]
      exact q4 _ F5 H5 xx (E5.zcons (.bl false))
    | true =>
      rw [if_pos rfl]
      refine ⟨F5, P, Lk, r3, E5, (RD.bind ((show RD C W F3 P Lk σ ((fd r3).bind fun u r4 => opt (g'' dz u) r4) _ from q4).ext (x4.trans x5) (Sub.refl P))).mono fun du r4 q6 z6 F6 H6 x6 E6 => ?_⟩
      obtain ⟨d7, e7, q7⟩ := RD_opt q6
      obtain ⟨R6, L6, e6, S6⟩ := E6.rep
      exact ⟨F6, P, Lk, L6, dz, du, d7, S6, (R4.mono x5).mono x6, R6, e7, fun w' F8 H8 x8 S8 => q7 w' F8 H8 (xx.trans (x6.trans x8)) ⟨L6, e6, S8⟩⟩
end

/-! ### kinds -/
def tyD : D → Option String
  | .non => some "NoneType"
  | .bl _ => some "bool"
  | .int _ => some "int"
  | .str _ => some "str"
  | .lst _ => some "list"
  | .tup _ => some "tuple"
  | .ktup _ => some "tuple"
  | _ => none
theorem tyD_X {F P H : Hp} {Lk : Lock} {L : List Cell} {v : V} {d : D} {t : String} (S : Stt C F P Lk L H) (R : Rep C F v d) (h : tyD d = some t) : TyX C.K H v (.type t) := by
  cases R with
  | non => cases h; exact .base .non
  | bl b => cases h; exact .base (.bl b)
  | int i => cases h; exact .base (.int i)
  | str x => cases h; exact .base (.str x)
  | lst hh r =>
    cases h
    rcases S.rdL hh with q | ⟨o, q⟩
    · exact .base (.lst q)
    · exact .base (.frz q)
  | tup hh r => cases h; exact .base (.tup (S.tup hh))
  | ktup hh r =>
    cases h
    rcases sqT_k (H := H) hh with (q | ⟨o, q⟩) | ⟨o, _, _, hk, hc, _⟩
    · exact .base (.tup q)
    · exact .fTuple q
    · exact .kTuple hk hc
  | _ => cases h
def isiD (t : String) (d : D) : Option D := (tyD d).bind fun a => (kitB a t).map .bl
def isiTD (ts : List String) (d : D) : Option D := (tyD d).bind fun a => if (ts.map (kitB a)).all (·.isSome) = true then some (.bl (ts.any fun t => kitB a t == some true)) else none
def eIsi (t : String) (f : SE) : SE := e1 (isiD t) f
def eIsiT (ts : List String) (f : SE) : SE := e1 (isiTD ts) f
theorem kitAnyB {K : PySem.W.Frag} {a : String} : ∀ {ts : List String}, (ts.map (kitB a)).all (·.isSome) = true → PySem.W.kitAny K (.type a) (ts.map Value.type) = some (ts.any fun t => kitB a t == some true)
  | [], _ => rfl
  | t :: ts, h => by
    simp only [List.map_cons, List.all_cons, Bool.and_eq_true] at h
    obtain ⟨b, hb⟩ := Option.isSome_iff_exists.mp h.1
    refine kitAny_cons (b := b) (kit_ty hb) (fun e => ?_) (fun e => ?_)
    · subst e
      rw [kitAnyB h.2]
      simp [hb]
    · subst e
      simp [hb]
section
variable {X : Cx} {W : WX} {G : List O} {e e1 e2 : Expr} {es : List Expr} {f : SE} {pos p p1 : Pos}
/-- isinstance(x, T) -/
theorem de_isi {t : String} {x : Str} (hK : X.K = C.K) (hg : Gl X "isinstance") (hm : X.mg "isinstance" = none) (hv : bootBuiltins "isinstance" = some (.builtin "isinstance")) (hgt : Gl X x) (hmt : X.mg x = none) (hvt : bootBuiltins x = some (.type t)) (ha : PE X e (tD C W G f .z))
    (hnt : x ≠ "__name__" := by decide) (hdt : (x == ("__debug__" : Str)) = false := by decide)
    (hs1 : starEach [.Name x p1] X.env = (false, eval (.Name x p1) X.env) :: starEach [] X.env := by rfl)
    (he : starEach [e, .Name x p1] X.env = (false, eval e X.env) :: starEach [.Name x p1] X.env := by rfl) (hpl : (backTo pos (starEach [.Name x p1] X.env)).any (·.1) = false := by rfl) :
    PE X (.Call (.Name "isinstance" p) [e, .Name x p1] [] pos) (tD C W G (eIsi t f) .z) := by
  refine PE_weak (pe_callB call_isi hg hm hv (pa_cons ha (pa_cons (pe_bltn (v := .ty t) hgt hmt hvt rfl hnt hdt) pa_nil hs1) he) (by decide) (by decide) he hpl) fun σ H Q q => ?_
  obtain ⟨F, P, Lk, r, E, q⟩ := q
  refine ⟨F, P, Lk, r, E, (RD.bind q).mono fun d r1 q1 v F1 H1 x1 E1 => ?_⟩
  obtain ⟨R1, L, e0, S⟩ := E1.rep
  obtain ⟨dz, e3, q3⟩ := RD_opt q1
  unfold isiD at e3
  cases ht : tyD d with
  | none => rw [ht] at e3; cases e3
  | some ty =>
    rw [ht] at e3
    have e3 : (kitB ty t).map D.bl = some dz := e3
    cases hb : kitB ty t with
    | none => rw [hb] at e3; cases e3
    | some b =>
      rw [hb] at e3
      cases e3
      exact ⟨v, .ty t, .type ty, .type t, b, rfl, .ty t, hK ▸ tyD_X S R1 ht, kit_ty hb, q3 _ F1 H1 x1 ⟨L, e0, S.zcons (.bl b)⟩⟩
/-- the types' names -/
structure TyN (X : Cx) (e : Expr) (t : String) : Prop where
  pe : PE X e (tC (.ty t))
theorem tyN {x : Str} {t : String} (hgt : Gl X x) (hmt : X.mg x = none) (hvt : bootBuiltins x = some (.type t)) (hnt : x ≠ "__name__" := by decide) (hdt : (x == ("__debug__" : Str)) = false := by decide) : TyN X (.Name x p1) t := ⟨pe_bltn hgt hmt hvt rfl hnt hdt⟩
theorem de_isi2 {t t' : String} {k : Nat} {tp : Pos} (hK : X.K = C.K) (hg : Gl X "isinstance") (hm : X.mg "isinstance" = none) (hv : bootBuiltins "isinstance" = some (.builtin "isinstance")) (h1 : TyN X e1 t) (h2 : TyN X e2 t') (ha : PE X e (tD C W G f .z))
    (hs2 : starEach [e2] X.env = (false, eval e2 X.env) :: starEach [] X.env := by rfl) (hs1 : starEach [e1, e2] X.env = (false, eval e1 X.env) :: starEach [e2] X.env := by rfl)
    (hs : starEach [.Tuple [e1, e2] k tp] X.env = (false, eval (.Tuple [e1, e2] k tp) X.env) :: starEach [] X.env := by rfl)
    (he : starEach [e, .Tuple [e1, e2] k tp] X.env = (false, eval e X.env) :: starEach [.Tuple [e1, e2] k tp] X.env := by rfl) (hpl : (backTo pos (starEach [.Tuple [e1, e2] k tp] X.env)).any (·.1) = false := by rfl) :
    PE X (.Call (.Name "isinstance" p) [e, .Tuple [e1, e2] k tp] [] pos) (tD C W G (eIsiT [t, t'] f) .z) := by
  refine PE_weak (pe_callB call_isiT hg hm hv (pa_cons ha (pa_cons (pe_tup (pa_cons h1.pe (pa_cons h2.pe pa_nil hs2) hs1)) pa_nil hs) he) (by decide) (by decide) he hpl) fun σ H Q q => ?_
  obtain ⟨F, P, Lk, r, E, q⟩ := q
  refine ⟨F, P, Lk, r, E, (RD.bind q).mono fun d r1 q1 v F1 H1 x1 E1 => ?_⟩
  obtain ⟨R1, L, e0, S⟩ := E1.rep
  obtain ⟨dz, e3, q3⟩ := RD_opt q1
  unfold isiTD at e3
  cases ht : tyD d with
  | none => rw [ht] at e3; cases e3
  | some ty =>
    rw [ht] at e3
    have e3 : (if ([t, t'].map (kitB ty)).all (·.isSome) = true then some (D.bl ([t, t'].any fun t => kitB ty t == some true)) else none) = some dz := e3
    split at e3
    · rename_i hh
      cases e3
      refine ⟨by show 2 ≤ sizeLine; decide, fun l hl => ?_⟩
      have S2 := S.grow (Sub.new (o := .tup [.ty t, .ty t']) hl)
      exact ⟨v, l, [.ty t, .ty t'], .type ty, [.type t, .type t'], _, rfl, upd_same, .cons (.ty t) (.cons (.ty t') .nil), hK ▸ tyD_X S2 R1 ht, kitAnyB (ts := [t, t']) hh, q3 _ F1 _ x1 ⟨L, e0, S2.zcons (.bl _)⟩⟩
    · cases e3
/-- a module's constant -/
theorem de_glob {x : Str} {v : V} {u : Value} {d : D} (hg : Gl X x) (hm : X.mg x = some u) (r : RelV v u) (hr : ∀ F, Rep C F v d) (hd : (x == ("__debug__" : Str)) = false := by decide) : PE X (.Name x pos) (tD C W G (eC d) .z) :=
  de_c (pe_glob hg hm r hd) hr
end
end DL
set_option Elab.async false
set_option linter.all false
set_option autoImplicit false
set_option maxRecDepth 100000
set_option maxHeartbeats 1000000
/-! the data layer, part 11: instances of own classes -/
namespace DL
open PySem PySem.Spec PyProof.Rows L2
variable {C : Cfg}

/-! ### a promise at frozen values -/
def mirOk (mir : List D → Out) (ds : List D) (r : DL.Env) : Res D := match mir ds with
  | .ok d _ => .ok d r
  | .exc c fs => .exc c fs
  | .stk => .stk
theorem zEnv {F : Hp} : ∀ {ds : List D} {vs : List V}, RepL C F vs ds → ∀ {P H : Hp} {Lk : Lock} {L : List Cell}, Stt C F P Lk L H → ∃ L', EnvR (ds.map fun _ => O.z) (ds.map some) (vs.map some) L' ∧ Stt C F P Lk (L' ++ L) H
  | [], vs, r, _, _, _, L, S => by cases r; exact ⟨[], .nil, S⟩
  | d :: ds, vs, r, _, _, _, L, S => by
    cases r with
    | cons a b =>
      obtain ⟨L', e, s⟩ := zEnv b S
      exact ⟨_, .have e, s.zcons a⟩
theorem spZ {S : Sig} {mir : List D → Out} {W : WX} {E : XK} {G : List O} {F P H : Hp} {Lk : Lock} {r : DL.Env} {σ : L2.St} {vs : List V} {ds : List D} {Q : VK} (hW : ∀ c d σ H, W c d σ H → E c d H) (E0 : EnvX C [] F P Lk G r σ H) (R : RepL C F vs ds) (hz : S.Gi = ds.map fun _ => O.z)
    (q : RD C W F P Lk σ (mirOk mir ds r) fun d r' => ∀ v F' H', Ext F F' → EnvX C [(S.o, v, d)] F' P Lk G r' σ H' → Q v H') : spD C S mir vs H Q E := by
  obtain ⟨Le, e0, s0⟩ := E0
  have s0 : Stt C F P Lk (Le ++ []) H := by rw [List.append_nil]; exact s0
  obtain ⟨P', s1, eP, unp⟩ := s0.park
  obtain ⟨L', e1, s2⟩ := zEnv R s1
  refine ⟨by rw [hz, List.length_map, R.length], F, P', Lk, ds, L', by rw [hz]; exact e1, by simpa using s2, ?_⟩
  unfold mirOk at q
  cases hm : mir ds with
  | stk => rw [hm] at q; exact q.elim
  | exc c fs =>
    rw [hm] at q
    exact fun cls dct F' H' x' s' xo => hW _ _ σ _ (q cls dct F' H' x' (s'.subP eP) xo)
  | ok d ds' =>
    rw [hm] at q
    rintro v F' H' x' ⟨L2, e2, s3⟩
    refine q v F' H' x' ⟨Le, e0, ?_⟩
    have s4 : Stt C F' P' Lk ([(S.o, v, d)] ++ L2) H' := s3
    have s5 := unp F' H' Lk _ x' s4
    have s6 : Stt C F' P Lk (L2 ++ ([(S.o, v, d)] ++ Le)) H' := s5.perm (by
      have p1 : (Le ++ ([(S.o, v, d)] ++ L2)).Perm (([(S.o, v, d)] ++ L2) ++ Le) := List.perm_append_comm
      have p2 : ([(S.o, v, d)] ++ L2).Perm (L2 ++ [(S.o, v, d)]) := List.perm_append_comm
      have p3 := p1.trans (p2.append_right Le)
      rwa [List.append_assoc] at p3)
    exact s6.drop

/-! ### owned instances -/
theorem SttH.closeI {F P H : Hp} {Lk : Lock} {a Ca dx : Addr} {L : List Cell} {c : Str} {fs : List (Str × V)} {ds : List D} (h : SttH C F P Lk [a] L H) (hc : C.cl c = some Ca) (r : RepL C F (fs.map (·.2)) ds) : Stt C F P Lk ((.i, .ref a, .ins c ((fs.map (·.1)).zip ds)) :: L) (upd H a (.ins Ca dx fs)) := by
  have h := h.upd_ok (q := .ins Ca dx fs)
  obtain ⟨fp, ow, n, d⟩ := h.ow
  exact ⟨h.le, h.pe, h.dj, h.ld, [a] ++ fp, ⟨[a], fp, rfl, ⟨a, c, Ca, dx, fs, ds, rfl, rfl, upd_same, hc, rfl, r⟩, ow⟩, n, d⟩
theorem Stt.openI {F P H : Hp} {Lk : Lock} {v : V} {d : D} {L : List Cell} (h : Stt C F P Lk ((.i, v, d) :: L) H) : ∃ a c Ca dx fs ds, v = .ref a ∧ H a = some (.ins Ca dx fs) ∧ C.cl c = some Ca ∧ d = .ins c ((fs.map (·.1)).zip ds) ∧ RepL C F (fs.map (·.2)) ds ∧ SttH C F P Lk [a] L H := by
  obtain ⟨fp, ⟨f1, f2, rfl, p, r⟩, n, dd⟩ := h.ow
  obtain ⟨a, c, Ca, dx, fs, ds, rfl, rfl, h1, h2, h3, h4⟩ := p
  exact ⟨a, c, Ca, dx, fs, ds, rfl, h1, h2, h3, h4, h.le, h.pe, h.dj, h.ld, f2, r, n, dd⟩
def lkF (f : Str) : List (Str × D) → Option D
  | [] => none
  | p :: fs => if f == p.1 then some p.2 else lkF f fs
def putFD (f : Str) (d : D) : List (Str × D) → List (Str × D)
  | [] => [(f, d)]
  | p :: fs => if p.1 = f then (p.1, d) :: fs else p :: putFD f d fs
theorem lkF_rel {F : Hp} {f : Str} : ∀ {fs : List (Str × V)} {ds : List D}, RepL C F (fs.map (·.2)) ds → (∀ d, lkF f ((fs.map (·.1)).zip ds) = some d → ∃ v, fs.lookup f = some v ∧ Rep C F v d) ∧ (lkF f ((fs.map (·.1)).zip ds) = none → fs.lookup f = none)
  | [], ds, r => by cases r; exact ⟨fun d h => by simp [lkF] at h, fun _ => rfl⟩
  | p :: fs, _, .cons a r => by
    have ih := lkF_rel (f := f) r
    obtain ⟨n, v⟩ := p
    simp only [List.map_cons, List.zip_cons_cons, lkF, List.lookup_cons]
    cases hb : f == n with
    | true => exact ⟨fun d h => by cases h; exact ⟨_, rfl, a⟩, fun h => by cases h⟩
    | false => exact ih
theorem putF_rel {F : Hp} {f : Str} {v : V} {d : D} (rv : Rep C F v d) : ∀ {fs : List (Str × V)} {ds : List D}, RepL C F (fs.map (·.2)) ds → ∃ ds', RepL C F ((putF f v fs).map (·.2)) ds' ∧ ((putF f v fs).map (·.1)).zip ds' = putFD f d ((fs.map (·.1)).zip ds) := by
  intro fs
  induction fs with
  | nil => intro ds r; cases r; exact ⟨[d], .cons rv .nil, rfl⟩
  | cons p fs ih =>
    intro ds r
    cases r with
    | @cons _ e _ ds a b =>
      obtain ⟨ds', r', e'⟩ := ih b
      obtain ⟨n, w⟩ := p
      simp only [putF, putFD, List.map_cons, List.zip_cons_cons]
      by_cases hb : n = f
      · rw [if_pos hb, if_pos hb]; exact ⟨d :: ds, .cons rv b, rfl⟩
      · rw [if_neg hb, if_neg hb]; exact ⟨e :: ds', .cons a r', by simp only [List.map_cons, List.zip_cons_cons, e']⟩

section
variable {X : Cx} {W : WX} {R : Rt} {G : List O} {a b e o : Expr} {es : List Expr} {pos pos' : Pos} {cn : Str} {Ca : Addr}
/-! ### attributes -/
def fldD (cn f : Str) : D → Option D
  | .ins c fs => if c = cn then lkF f fs else none
  | _ => none
theorem de_fld {f : Str} {fe : SE} (hK : X.K = C.K) (hcl : C.cl cn = some Ca) (hc : Cls X.K Ca) (hn : NoAttr X.K Ca f) (he : PE X e (tD C W G fe .z)) (hb : attributeBase e f X.env (eval e X.env) = eval e X.env := by rfl) : PE X (.Attribute e f pos) (tD C W G (e1 (fldD cn f) fe) .z) := by
  refine PE_weak (pe_fld he hb) fun σ H Q q => ?_
  obtain ⟨F, P, Lk, r, E, q⟩ := q
  refine ⟨F, P, Lk, r, E, (RD.bind q).mono fun d r1 q1 v F1 H1 x1 E1 => ?_⟩
  obtain ⟨R1, L, e0, S⟩ := E1.rep
  obtain ⟨dz, e3, q3⟩ := RD_opt q1
  cases R1 with
  | @ins a c Ca' dx fs ds h hcl' rr =>
    simp only [fldD] at e3
    split at e3
    · rename_i hcn
      subst hcn
      rw [hcl] at hcl'
      cases hcl'
      obtain ⟨w, hw, Rw⟩ := (lkF_rel rr).1 _ e3
      exact ⟨a, Ca, dx, fs, w, rfl, S.plain h (fun _ z => nomatch z) (fun _ z => nomatch z), hc, hn, hw, q3 _ F1 H1 x1 ⟨L, e0, S.zcons Rw⟩⟩
    · cases e3
  | _ => cases e3
/-- a constant of the class -/
def conD (cn f : Str) (d : D) : D → Option D
  | .ins c fs => if c = cn then (match lkF f fs with | none => some d | some _ => none) else none
  | _ => none
/-- self.f = e in an owned instance -/
def sFldI (i : Nat) (f : Str) (fe : SE) : SS := fun r => (fe r).fl fun d r1 => match r1[i]? with
  | some (some (.ins c fs)) => if fs.length < 1000 then .nx (r1.set i (some (.ins c (putFD f d fs)))) else .stk
  | _ => .stk
theorem d_fld {i : Nat} {x f : Str} {p : Pos} {fe : SE} (hK : X.K = C.K) (hcl : ∀ c Ca, C.cl c = some Ca → Cls X.K Ca ∧ NoAttr X.K Ca f) (hG : G[i]? = some .i) (hN : X.N[i]? = some x) (hv : Vis X.env.scope x) (he : PE X e (tD C W G fe .z)) (hd : (x == ("__debug__" : Str)) = false := by decide) (hcd : (x == ("__classdict__" : Str)) = false := by decide)
    (hs : swapsWith e (some (.Attribute (.Name x p) f pos')) pos.line X.env = pure false := by rfl) : PS X (.Assign [.Attribute (.Name x p) f pos'] e pos) (tDS C W R G (sFldI i f fe) G) := by
  refine PS_weak (ps_fld (pe_var hN hv hd hcd) he hs) fun D σ H q => ?_
  obtain ⟨F, P, Lk, r, E, q⟩ := q
  refine ⟨F, P, Lk, r, E, (RF.fl q).mono fun d r1 q1 v F1 H1 x1 E1 => ?_⟩
  obtain ⟨R1, E1⟩ := E1.rep
  split at q1
  · rename_i c fs hi
    split at q1
    · rename_i hl
      obtain ⟨w, hw, E2⟩ := E1.take hi hG
      obtain ⟨L, e0, S0⟩ := E2
      obtain ⟨a, c', Ca, dx, fs', ds', rfl, h1, h2, h3, h4, S1⟩ := Stt.openI (L := [] ++ L) S0
      cases h3
      obtain ⟨hc1, hc2⟩ := hcl _ _ h2
      have hlen : fs'.length < 1000 := by
        have z := h4.length
        rw [List.length_map] at z
        simp at hl
        omega
      obtain ⟨ds2, r2, e2⟩ := putF_rel (f := f) R1 h4
      refine ⟨_, hw, a, Ca, dx, fs', rfl, h1, hc1, hc2, hlen, q1 σ F1 _ x1 Keep.refl ?_⟩
      have S2 := S1.closeI (dx := dx) h2 r2
      rw [e2] at S2
      have z := EnvX.back (T := []) (r := r1.set i none) (o := .i) ⟨L, e0, S2⟩ (by rw [List.getElem?_set_self (List.getElem?_eq_some_iff.mp hi).1]) hG hw
      rw [List.set_set] at z
      exact z
    · exact q1.elim
  · exact q1.elim
/-! ### calls of methods; making -/
def mirN (n : Nat) (mir : List D → Out) (ds : List D) (r : DL.Env) : Res D := if ds.length = n then mirOk mir ds r else .stk
theorem spN {S : Sig} {mir : List D → Out} {E : XK} {F P H : Hp} {Lk : Lock} {r : DL.Env} {σ : L2.St} {vs : List V} {ds : List D} {Q : VK} {n : Nat} (hW : W = fun c d _ H => E c d H) (E0 : EnvX C [] F P Lk G r σ H) (R : RepL C F vs ds) (hz : S.Gi = List.replicate n O.z)
    (q : RD C W F P Lk σ (mirN n mir ds r) fun d r' => ∀ v F' H', Ext F F' → EnvX C [(S.o, v, d)] F' P Lk G r' σ H' → Q v H') : spD C S mir vs H Q E := by
  unfold mirN at q
  split at q
  · rename_i hl
    exact spZ (fun c d σ H h => by rw [hW] at h; exact h) E0 R (by rw [hz, ← hl]; exact (List.map_const' ..).symm) q
  · exact q.elim
def eMethI (cn m : Str) (n : Nat) (mir : List D → Out) (fo : SE) (k : SA) : SE := fun r => (fo r).bind fun d r1 => match d with
  | .ins c fs => if c = cn then (match lkF m fs with
      | none => (k r1).bind fun ds r2 => mirN n mir (d :: ds) r2
      | some _ => .stk) else .stk
  | _ => .stk
theorem methI_hyp {m : Str} {n : Nat} {S : Sig} {mir : List D → Out} {fo : SE} {k : SA} {E : XK} {t : TA} (hcl : C.cl cn = some Ca) (hW : W = fun c d _ H => E c d H) (hz : S.Gi = List.replicate n O.z) (ka : ∀ σ H Q, tDA C W G k σ H Q → t σ H Q) {σ : L2.St} {H : Hp} {Q : VK}
    (q : tD C W G (eMethI cn m n mir fo k) S.o σ H Q) : tMeth Ca m (spD C S mir) [] E (tD C W G fo .z) t σ H Q := by
  obtain ⟨F, P, Lk, r, En, q⟩ := q
  refine ⟨F, P, Lk, r, En, (RD.bind q).mono fun d r1 q1 v F1 H1 x1 E0 => ?_⟩
  obtain ⟨R1, E1⟩ := E0.rep
  clear E0
  obtain ⟨L, e0, S0⟩ := id E1
  cases R1 with
  | @ins a c Ca' dx fs ds h hcl' rr =>
    dsimp only at q1
    split at q1
    · rename_i hcn
      subst hcn
      rw [hcl] at hcl'
      cases hcl'
      split at q1
      · rename_i hl
        refine ⟨a, dx, fs, rfl, S0.plain h (fun _ z => nomatch z) (fun _ z => nomatch z), (lkF_rel rr).2 hl, ka _ _ _ ⟨F1, P, Lk, r1, E1, (RD.bind (q1.ext x1 (Sub.refl P))).mono fun as r2 q2 vs F2 H2 x2 R2 E2 => ?_⟩⟩
        show spD C S mir (V.ref a :: (vs ++ [])) H2 Q E
        rw [List.append_nil]
        exact spN hW E2 (.cons (Rep.mono x2 (.ins h hcl rr)) R2) hz ((q2.ext x2 (Sub.refl P)).mono fun d r' q3 v F' H' x' E' => q3 v F' H' ((x1.trans x2).trans x') E')
      · exact q1.elim
    · exact q1.elim
  | _ => exact q1.elim
section
variable {n k kk : Nat} {S : Sig} {mir : List D → Out} {fo : SE} {ks : SA} {E : XK} {f : Addr} {fd : FuncData} {ps : List Str} {m x : Str} {apos p : Pos}
theorem de_methI {pl : Sem Bool} (hcl : C.cl cn = some Ca) (hW : W = fun c d _ H => E c d H) (tk : Takes X W) (hz : S.Gi = List.replicate n O.z) (ho : PE X o (tD C W G fo .z)) (c : Cls X.K Ca) (hm : Meth X.K Ca m f) (Fn : FnOk X.prog X.w X.K X.mg X.base (L2.CX X.prog X.w) k f fd ps (spD C S mir)) (hr : Room kk X.A) (hj : k ≤ kk) (hb : Binds X.K fd ps []) (ha : PA X (e :: es) (tDA C W G ks))
    (hst : starEach (e :: es) X.env = (false, eval e X.env) :: starEach es X.env := by rfl) (hpl : (backTo pos (starEach es X.env)).any (·.1) = false := by rfl)
    (ht : eval (.Call (.Attribute o m apos) (e :: es) [] pos) X.env = (do
      let ov ← eval o X.env
      standAt apos.atName
      let (f, first) ← holding [ov] (getMethod ov m pl)
      callWith pos f first (backTo pos (starEach (e :: es) X.env)) (backToKw pos (keywordEach [] X.env))) := by rfl) :
    PE X (.Call (.Attribute o m apos) (e :: es) [] pos) (tD C W G (eMethI cn m n mir fo ks) S.o) := by
  have hx := passes_call (X := X) (E := E) (W := W) tk fun c d σ H h => by rw [hW]; exact h
  exact PE_weak (pe_meth (pl := pl) ho c hm Fn (hr.mono hj) hb .nil hx ha hst hpl ht) fun σ H Q q => methI_hyp hcl hW hz (fun _ _ _ h => h) q
theorem de_methI0 {pl : Sem Bool} (hcl : C.cl cn = some Ca) (hW : W = fun c d _ H => E c d H) (tk : Takes X W) (hz : S.Gi = List.replicate n O.z) (ho : PE X o (tD C W G fo .z)) (c : Cls X.K Ca) (hm : Meth X.K Ca m f) (Fn : FnOk X.prog X.w X.K X.mg X.base (L2.CX X.prog X.w) k f fd ps (spD C S mir)) (hr : Room kk X.A) (hj : k ≤ kk) (hb : Binds X.K fd ps [])
    (ht : eval (.Call (.Attribute o m apos) [] [] pos) X.env = (do
      let ov ← eval o X.env
      standAt apos.atName
      let (f, first) ← holding [ov] (getMethod ov m pl)
      callWith pos f first (backTo pos (starEach [] X.env)) (backToKw pos (keywordEach [] X.env))) := by rfl) :
    PE X (.Call (.Attribute o m apos) [] [] pos) (tD C W G (eMethI cn m n mir fo aNil) S.o) := by
  have hx := passes_call (X := X) (E := E) (W := W) tk fun c d σ H h => by rw [hW]; exact h
  refine PE_weak (pe_meth0 (pl := pl) ho c hm Fn (hr.mono hj) hb .nil hx ht) fun σ H Q q => methI_hyp hcl hW hz (fun σ H Q h => ?_) q
  obtain ⟨F, P, Lk, r, E0, h⟩ := h
  exact h [] F H (Ext.refl F) .nil E0
/-- C(..) -/
def eMake (cn : Str) (n : Nat) (mir : List D → Out) (k : SA) : SE := fun r => (k r).bind fun ds r1 => if ds.length = n then (match mir (.ins cn [] :: ds) with
  | .ok .non (some d :: _) => .ok d r1
  | .exc c fs => .exc c fs
  | _ => .stk) else .stk
theorem make_hyp {mm : List Bool} {t : TA} (hcl : C.cl cn = some Ca) (hW : W = fun c d _ H => E c d H) (ka : ∀ σ H Q, tDA C W G ks σ H Q → t σ H Q) {σ : L2.St} {H : Hp} {Q : VK} (q : tD C W G (eMake cn n mir ks) .i σ H Q) : tMake Ca (spD C ⟨.i :: List.replicate n .z, mm, .z⟩ mir) [] E t σ H Q := by
  obtain ⟨F, P, Lk, r, En, q⟩ := q
  refine ka _ _ _ ⟨F, P, Lk, r, En, (RD.bind q).mono fun ds r1 q1 vs F1 H1 x1 R1 E1 y dx hy hdx hne => ?_⟩
  show spD C ⟨.i :: List.replicate n .z, mm, .z⟩ mir (V.ref y :: (vs ++ [])) _ _ _
  rw [List.append_nil]
  split at q1
  · rename_i hlen
    obtain ⟨Le, e0, s0⟩ := E1
    have s0 : Stt C F1 P Lk (Le ++ []) H1 := by rw [List.append_nil]; exact s0
    obtain ⟨P', s1, eP, unp⟩ := s0.park
    have hnd : (upd H1 dx (.own y)) y = none := by rw [upd_ne (Ne.symm hne)]; exact hy
    obtain ⟨L', e1, s2⟩ := zEnv R1 (s1.grow (Sub.new (o := .own y) hdx))
    have s2 : Stt C F1 P' Lk (L' ++ []) (upd H1 dx (.own y)) := s2
    have s3 := (s2.hole hnd).closeI (dx := dx) (fs := []) (ds := []) hcl .nil
    rw [List.append_nil] at s3
    refine ⟨by simp [R1.length, hlen], F1, P', Lk, .ins cn [] :: ds, (.i, .ref y, .ins cn []) :: L', ?_, s3, ?_⟩
    · have ez : List.replicate n O.z = ds.map fun _ => O.z := by rw [← hlen]; exact (List.map_const' ..).symm
      show EnvR (.i :: List.replicate n .z) _ _ _
      rw [ez]
      exact .have e1
    · split at q1
      · rename_i d rest hm
        rw [hm]
        rintro v F' H' x' ⟨L2, e2, s4⟩
        cases e2 with
        | @«have» _ _ _ _ _ _ L3 e2 =>
          cases s4.rep
          refine ⟨rfl, q1 _ F' H' (x1.trans x') ⟨Le, e0, ?_⟩⟩
          have s5 := unp F' H' Lk _ x' s4.tail
          have s6 : Stt C F' P Lk (L3 ++ ([(O.i, V.ref y, d)] ++ Le)) H' := s5.perm (by
            have p1 : (Le ++ ([(O.i, V.ref y, d)] ++ L3)).Perm (([(O.i, V.ref y, d)] ++ L3) ++ Le) := List.perm_append_comm
            have p2 : ([(O.i, V.ref y, d)] ++ L3).Perm (L3 ++ [(O.i, V.ref y, d)]) := List.perm_append_comm
            have p3 := p1.trans (p2.append_right Le)
            rwa [List.append_assoc] at p3)
          exact s6.drop
      · rename_i c fs hm
        rw [hm]
        intro cls dct F' H' x' s' xo
        have z := q1 cls dct F' H' (x1.trans x') (s'.subP eP) xo
        rw [hW] at z
        exact z
      · exact q1.elim
  · exact q1.elim
theorem de_make {mm : List Bool} (hcl : C.cl cn = some Ca) (hW : W = fun c d _ H => E c d H) (tk : Takes X W) (M : Mk X.K Ca f) (Fn : FnOk X.prog X.w X.K X.mg X.base (L2.CX X.prog X.w) k f fd ps (spD C ⟨.i :: List.replicate n .z, mm, .z⟩ mir)) (hr : Room kk X.A) (hj : k + 1 ≤ kk) (hg : Gl X x) (hm : X.mg x = some (.ref Ca)) (hb : Binds X.K fd ps [])
    (ha : PA X (e :: es) (tDA C W G ks)) (hdb : (x == ("__debug__" : Str)) = false := by decide) (he : starEach (e :: es) X.env = (false, eval e X.env) :: starEach es X.env := by rfl) (hpl : (backTo pos (starEach es X.env)).any (·.1) = false := by rfl) :
    PE X (.Call (.Name x p) (e :: es) [] pos) (tD C W G (eMake cn n mir ks) .i) := by
  have hx := passes_call (X := X) (E := E) (W := W) tk fun c d σ H h => by rw [hW]; exact h
  exact PE_weak (pe_make M Fn (hr.mono hj) hg hm hb .nil hx ha hdb he hpl) fun σ H Q q => make_hyp hcl hW (fun _ _ _ h => h) q
end
end
end DL
set_option Elab.async false
set_option linter.all false
set_option autoImplicit false
set_option maxRecDepth 100000
set_option maxHeartbeats 1000000
/-! the data layer, part 12: operators of own classes; properties; kinds of instances -/
namespace DL
open PySem PySem.Spec PyProof.Rows L2
variable {C : Cfg}
/-- a method that stands for an operator -/
structure Dun (K : PySem.W.Frag) (Ca : Addr) (n : Str) (f : Addr) : Prop where
  at_ : PySem.W.findIn K (.ref Ca) n = some (some (.ref f))
  fn : PySem.W.isFn K (.ref f) = true
section
variable {X : Cx} {W : WX} {R : Rt} {G : List O} {a b e o : Expr} {es : List Expr} {pos pos' p : Pos} {cn : Str} {Ca : Addr}
variable {n k kk : Nat} {S : Sig} {mir : List D → Out} {fo fa fb : SE} {ks : SA} {E : XK} {f : Addr} {fd : FuncData} {ps : List Str} {sp : Sp}
/-- x in c, c an instance -/
theorem op_inI {CX : CXT} (Fn : FnOk X.prog X.w X.K X.mg X.base CX k f fd ps sp) (hr : Room k X.A) (hb : Binds X.K fd ps []) (hx : Passes CX X E) (hd : Dun X.K Ca "__contains__" f) :
    OpR X (compareOp .In) (fun x y H Q => (∃ a dx fs, y = .ref a ∧ H a = some (.ins Ca dx fs)) ∧ sp [y, x] H (fun z H' => ∃ b, z = .bl b ∧ Q (.bl b) H') E) := by
  intro pins s σ H x y v u Q I rx ry ⟨⟨a, dx, fs, ey, ea⟩, h⟩
  subst ey
  cases ry
  obtain ⟨mA, J, _⟩ := ins_get I.hok ea
  obtain ⟨od, J, _⟩ := J.look
  obtain ⟨m, hF⟩ := I.fr
  refine PySem.W.in_K hF I.ok.mod.kin J hd.at_ hd.fn ?_
  refine thn (run_fn (us := [.ref a, v]) (vs := [.ref a, x]) (dxs := []) Fn hr hb .nil hx I (.cons rfl (.cons rx .nil)) h) fun w s1 ⟨z, H1, I1, r1, b, e1, q1⟩ => ?_
  subst e1
  cases r1
  exact wpAny_truthy_bool ⟨.bl b, H1, I1, rfl, q1⟩
theorem op_ninI {CX : CXT} (Fn : FnOk X.prog X.w X.K X.mg X.base CX k f fd ps sp) (hr : Room k X.A) (hb : Binds X.K fd ps []) (hx : Passes CX X E) (hd : Dun X.K Ca "__contains__" f) :
    OpR X (compareOp .NotIn) (fun x y H Q => (∃ a dx fs, y = .ref a ∧ H a = some (.ins Ca dx fs)) ∧ sp [y, x] H (fun z H' => ∃ b, z = .bl b ∧ Q (.bl (!b)) H') E) := by
  intro pins s σ H x y v u Q I rx ry ⟨⟨a, dx, fs, ey, ea⟩, h⟩
  subst ey
  cases ry
  obtain ⟨mA, J, _⟩ := ins_get I.hok ea
  obtain ⟨od, J, _⟩ := J.look
  obtain ⟨m, hF⟩ := I.fr
  refine PySem.W.notIn_K hF I.ok.mod.kin J hd.at_ hd.fn ?_
  refine thn (run_fn (us := [.ref a, v]) (vs := [.ref a, x]) (dxs := []) Fn hr hb .nil hx I (.cons rfl (.cons rx .nil)) h) fun w s1 ⟨z, H1, I1, r1, b, e1, q1⟩ => ?_
  subst e1
  cases r1
  exact wpAny_truthy_bool ⟨.bl (!b), H1, I1, rfl, q1⟩
/-- an operator's method called on an instance d with another value -/
def callI (cn : Str) (mir : List D → Out) (d x : D) (r : DL.Env) : Res D := match d with
  | .ins c _ => if c = cn then mirOk mir [d, x] r else .stk
  | _ => .stk
def eInI (neg : Bool) (cn : Str) (mir : List D → Out) (fa fb : SE) : SE := fun r => (fa r).bind fun x r1 => (fb r1).bind fun y r2 => (callI cn mir y x r2).bind fun z r3 => match z with
  | .bl b => .ok (.bl (if neg = true then !b else b)) r3
  | _ => .stk
theorem insAt {F P H : Hp} {Lk : Lock} {L : List Cell} {v : V} {c : Str} {fs : List (Str × D)} (S : Stt C F P Lk L H) (R : Rep C F v (.ins c fs)) (hcl : C.cl c = some Ca) : ∃ a dx fs, v = .ref a ∧ H a = some (.ins Ca dx fs) := by
  cases R with
  | @ins a c' Ca' dx fs ds h hcl' rr =>
    rw [hcl] at hcl'
    cases hcl'
    exact ⟨a, dx, fs, rfl, S.plain h (fun _ z => nomatch z) (fun _ z => nomatch z)⟩
theorem inI_hyp {neg : Bool} (hcl : C.cl cn = some Ca) (hW : W = fun c d _ H => E c d H) (hz : S.Gi = [.z, .z]) (ho : S.o = .z) {σ : L2.St} {H : Hp} {Q : VK} (q : tD C W G (eInI neg cn mir fa fb) .z σ H Q) :
    tOp (fun x y H Q => (∃ a dx fs, y = V.ref a ∧ H a = some (.ins Ca dx fs)) ∧ spD C S mir [y, x] H (fun z H' => ∃ b, z = .bl b ∧ Q (.bl (if neg = true then !b else b)) H') E) (tD C W G fa .z) (tD C W G fb .z) σ H Q := by
  obtain ⟨F, P, Lk, r, En, q⟩ := q
  refine ⟨F, P, Lk, r, En, (RD.bind q).mono fun dx r1 q1 x F1 H1 x1 E0 => ?_⟩
  obtain ⟨R1, E1⟩ := E0.rep
  clear E0
  refine ⟨F1, P, Lk, r1, E1, (RD.bind (q1.ext x1 (Sub.refl P))).mono fun dy r2 q2 y F2 H2 x2 E0 => ?_⟩
  obtain ⟨R2, E2⟩ := E0.rep
  clear E0
  obtain ⟨L, e0, S0⟩ := id E2
  replace q2 := (RD.bind q2).ext x2 (Sub.refl P)
  cases dy with
  | ins c fs =>
    have ec : callI cn mir (D.ins c fs) dx r2 = if c = cn then mirOk mir [D.ins c fs, dx] r2 else .stk := rfl
    rw [ec] at q2
    split at q2
    · rename_i hcn
      subst hcn
      refine ⟨insAt S0 R2 hcl, spN (n := 2) hW E2 (.cons R2 (.cons (R1.mono x2) .nil)) hz ?_⟩
      refine RD.mono (x := mirN 2 mir [D.ins c fs, dx] r2) q2 fun d r3 q3 v F3 H3 x3 E3 => ?_
      rw [ho] at E3
      obtain ⟨R3, E3⟩ := E3.rep
      cases d with
      | bl b =>
        cases R3
        exact ⟨b, rfl, q3 _ F3 H3 ((x1.trans x2).trans x3) (E3.drop.zcons (.bl _))⟩
      | _ => exact q3.elim
    · exact q2.elim
  | _ => exact q2.elim
theorem de_inI (hcl : C.cl cn = some Ca) (hW : W = fun c d _ H => E c d H) (tk : Takes X W) (hz : S.Gi = [.z, .z]) (hoo : S.o = .z) (hd : Dun X.K Ca "__contains__" f) (Fn : FnOk X.prog X.w X.K X.mg X.base (L2.CX X.prog X.w) k f fd ps (spD C S mir)) (hr : Room kk X.A) (hj : k ≤ kk) (hb : Binds X.K fd ps [])
    (ha : PE X a (tD C W G fa .z)) (hbb : PE X b (tD C W G fb .z)) (hm : behindInMarks .In b = false) : PE X (.Compare a [.In] [b] pos) (tD C W G (eInI false cn mir fa fb) .z) := by
  have hx := passes_call (X := X) (E := E) (W := W) tk fun c d σ H h => by rw [hW]; exact h
  exact PE_weak (pe_cmpR (op_inI Fn (hr.mono hj) hb hx hd) ha hbb hm) fun σ H Q q => inI_hyp (neg := false) hcl hW hz hoo q
theorem de_ninI (hcl : C.cl cn = some Ca) (hW : W = fun c d _ H => E c d H) (tk : Takes X W) (hz : S.Gi = [.z, .z]) (hoo : S.o = .z) (hd : Dun X.K Ca "__contains__" f) (Fn : FnOk X.prog X.w X.K X.mg X.base (L2.CX X.prog X.w) k f fd ps (spD C S mir)) (hr : Room kk X.A) (hj : k ≤ kk) (hb : Binds X.K fd ps [])
    (ha : PE X a (tD C W G fa .z)) (hbb : PE X b (tD C W G fb .z)) (hm : behindInMarks .NotIn b = false) : PE X (.Compare a [.NotIn] [b] pos) (tD C W G (eInI true cn mir fa fb) .z) := by
  have hx := passes_call (X := X) (E := E) (W := W) tk fun c d σ H h => by rw [hW]; exact h
  exact PE_weak (pe_cmpR (op_ninI Fn (hr.mono hj) hb hx hd) ha hbb hm) fun σ H Q q => inI_hyp (neg := true) hcl hW hz hoo q
/-- the test forms -/
theorem bool_hyp {f : SE} {σ : L2.St} {H : Hp} {Q : Bool → Hp → Prop} (q : tDT C W G (boolT f) σ H Q) : tD C W G f .z σ H fun x H' => ∃ k, x = .bl k ∧ Q k H' := by
  obtain ⟨F, P, Lk, r, E, q⟩ := q
  refine ⟨F, P, Lk, r, E, (RD.bind q).mono fun d r1 q1 x F1 H1 x1 E0 => ?_⟩
  obtain ⟨k, e3, q3⟩ := RD_opt q1
  obtain ⟨R1, E1⟩ := E0.rep
  clear E0
  cases R1 with
  | bl b => cases e3; exact ⟨_, rfl, q3 F1 H1 x1 E1⟩
  | _ => cases e3
theorem dt_inI (hcl : C.cl cn = some Ca) (hW : W = fun c d _ H => E c d H) (tk : Takes X W) (hz : S.Gi = [.z, .z]) (hoo : S.o = .z) (hd : Dun X.K Ca "__contains__" f) (Fn : FnOk X.prog X.w X.K X.mg X.base (L2.CX X.prog X.w) k f fd ps (spD C S mir)) (hr : Room kk X.A) (hj : k ≤ kk) (hb : Binds X.K fd ps [])
    (ha : PE X a (tD C W G fa .z)) (hbb : PE X b (tD C W G fb .z)) (hm : behindInMarks .In b = false) : PT X (.Compare a [.In] [b] pos) (tDT C W G (boolT (eInI false cn mir fa fb))) := by
  have hx := passes_call (X := X) (E := E) (W := W) tk fun c d σ H h => by rw [hW]; exact h
  exact PT_weak (pt_cmpR (op_inI Fn (hr.mono hj) hb hx hd) ha hbb hm) fun σ H Q q => inI_hyp (neg := false) hcl hW hz hoo (bool_hyp q)
theorem dt_ninI (hcl : C.cl cn = some Ca) (hW : W = fun c d _ H => E c d H) (tk : Takes X W) (hz : S.Gi = [.z, .z]) (hoo : S.o = .z) (hd : Dun X.K Ca "__contains__" f) (Fn : FnOk X.prog X.w X.K X.mg X.base (L2.CX X.prog X.w) k f fd ps (spD C S mir)) (hr : Room kk X.A) (hj : k ≤ kk) (hb : Binds X.K fd ps [])
    (ha : PE X a (tD C W G fa .z)) (hbb : PE X b (tD C W G fb .z)) (hm : behindInMarks .NotIn b = false) : PT X (.Compare a [.NotIn] [b] pos) (tDT C W G (boolT (eInI true cn mir fa fb))) := by
  have hx := passes_call (X := X) (E := E) (W := W) tk fun c d σ H h => by rw [hW]; exact h
  exact PT_weak (pt_cmpR (op_ninI Fn (hr.mono hj) hb hx hd) ha hbb hm) fun σ H Q q => inI_hyp (neg := true) hcl hW hz hoo (bool_hyp q)

/-! len(o) -/
theorem call_lenI {CX : CXT} (Fn : FnOk X.prog X.w X.K X.mg X.base CX k f fd ps sp) (hr : Room (k + 1) X.A) (hb : Binds X.K fd ps []) (hx : Passes CX X E) (hd : Dun X.K Ca "__len__" f) :
    CallR X (.builtin "len") (fun xs H Q => ∃ a dx fs, xs = [.ref a] ∧ H a = some (.ins Ca dx fs) ∧ sp [.ref a] H (fun z H' => ∃ i : Int, z = .int i ∧ 0 ≤ i ∧ i < 2 ^ 63 ∧ Q (.int i) H') E) := by
  intro pins s σ H xs us Q I r ⟨a, dx, fs, ex, ea, h⟩
  subst ex
  obtain rfl := Vals.ref1 r
  obtain ⟨mA, J, _⟩ := ins_get I.hok ea
  obtain ⟨od, J, _⟩ := J.look
  obtain ⟨m, hF⟩ := I.fr
  refine PySem.W.len_K hF I.ok.mod.kin J hd.at_ hd.fn ?_
  have hl : ([Value.ref a] ++ []).length = ps.length := by
    rw [← Fn.len _ _ _ _ h]; rfl
  refine wpAny_call (codeAny_mono (Fn.run X.A.in1 X.stack s H ⟨[.ref a], []⟩ [.ref a] [.ref a] _ E hr.in1 I.env0.in1 (hb _ [.ref a] I.kIn hl) (.cons rfl .nil) h) fun r s' hq => ?_)
  cases r with
  | error er => exact hx pins σ H s er s' I hq
  | ok fl =>
    cases fl with
    | ret u =>
      obtain ⟨z, H', I', rz, i, ez, h0, h1, q⟩ := I.after hq
      subst ez
      obtain ⟨t, rfl⟩ := rz
      exact ⟨⟨h0, h1⟩, .int i, H', I'.tok _, ⟨_, rfl⟩, q⟩
    | next => exact False.elim hq
    | brk => exact False.elim hq
    | cont => exact False.elim hq
def eLenI (cn : Str) (mir : List D → Out) (fo : SE) : SE := fun r => (fo r).bind fun d r1 => match d with
  | .ins c _ => if c = cn then (mirOk mir [d] r1).bind fun z r2 => match z with
      | .int i => if 0 ≤ i ∧ i < 2 ^ 63 then .ok (.int i) r2 else .stk
      | _ => .stk else .stk
  | _ => .stk
theorem de_lenI (hcl : C.cl cn = some Ca) (hW : W = fun c d _ H => E c d H) (tk : Takes X W) (hz : S.Gi = [.z]) (hoo : S.o = .z) (hd : Dun X.K Ca "__len__" f) (Fn : FnOk X.prog X.w X.K X.mg X.base (L2.CX X.prog X.w) k f fd ps (spD C S mir)) (hr : Room kk X.A) (hj : k + 1 ≤ kk) (hb : Binds X.K fd ps [])
    (hg : Gl X "len") (hm : X.mg "len" = none) (ha : PE X a (tD C W G fa .z)) (he : starEach [a] X.env = (false, eval a X.env) :: starEach [] X.env := by rfl) (hpl : (backTo pos (starEach [] X.env)).any (·.1) = false := by rfl) :
    PE X (.Call (.Name "len" p) [a] [] pos) (tD C W G (eLenI cn mir fa) .z) := by
  have hx := passes_call (X := X) (E := E) (W := W) tk fun c d σ H h => by rw [hW]; exact h
  refine PE_weak (pe_callB (call_lenI Fn (hr.mono hj) hb hx hd) hg hm PySem.boot_len (pa_cons ha pa_nil he) (by decide) (by decide) he hpl) fun σ H Q q => ?_
  obtain ⟨F, P, Lk, r, En, q⟩ := q
  refine ⟨F, P, Lk, r, En, (RD.bind q).mono fun d r1 q1 v F1 H1 x1 E0 => ?_⟩
  obtain ⟨R1, E1⟩ := E0.rep
  clear E0
  obtain ⟨L, e0, S0⟩ := id E1
  cases d with
  | ins c fs =>
    dsimp only at q1
    split at q1
    · rename_i hcn
      subst hcn
      obtain ⟨a', dx, fs', rfl, ha'⟩ := insAt S0 R1 hcl
      refine ⟨a', dx, fs', rfl, ha', spN (n := 1) hW E1 (.cons R1 .nil) hz ?_⟩
      refine RD.mono (x := mirN 1 mir [D.ins c fs] r1) ((RD.bind q1).ext x1 (Sub.refl P)) fun d r3 q3 v F3 H3 x3 E3 => ?_
      rw [hoo] at E3
      obtain ⟨R3, E3⟩ := E3.rep
      cases d with
      | int i =>
        cases R3
        have q3 : RD C W F P Lk σ (if 0 ≤ i ∧ i < 2 ^ 63 then Res.ok (D.int i) r3 else .stk) _ := q3
        split at q3
        · rename_i hi
          exact ⟨i, rfl, hi.1, hi.2, q3 _ F3 H3 (x1.trans x3) (E3.drop.zcons (.int _))⟩
        · exact q3.elim
      | _ => exact q3.elim
    · exact q1.elim
  | _ => exact q1.elim
end
end DL
namespace DL
open PySem PySem.Spec PyProof.Rows L2
variable {C : Cfg}
section
variable {X : Cx} {W : WX} {R : Rt} {G : List O} {a b e o : Expr} {es : List Expr} {pos pos' p : Pos} {cn : Str} {Ca pa : Addr}
variable {n k kk : Nat} {S : Sig} {mir : List D → Out} {fo fa fb : SE} {ks : SA} {E : XK} {f : Addr} {fd : FuncData} {ps : List Str} {sp : Sp}
/-! properties -/
def eProp (cn : Str) (mir : List D → Out) (fo : SE) : SE := fun r => (fo r).bind fun d r1 => match d with
  | .ins c _ => if c = cn then (match mir [d] with
      | .ok z _ => .ok z r1
      | _ => .stk) else .stk
  | _ => .stk
theorem de_prop {m : Str} (hcl : C.cl cn = some Ca) (hz : S.Gi = [.z]) (ho : PE X o (tD C W G fo .z)) (c : Cls X.K Ca) (hp : PropOf X.K Ca m pa f) (Fn : FnOk X.prog X.w X.K X.mg X.base (L2.CX X.prog X.w) k f fd ps (spD C S mir)) (hr : Room kk X.A) (hj : k + 1 ≤ kk) (hb : Binds X.K fd ps []) (tk : Takes X.nox (fun _ _ _ _ => False))
    (hab : attributeBase o m X.env (eval o X.env) = eval o X.env := by rfl) : PE X (.Attribute o m pos) (tD C W G (eProp cn mir fo) S.o) := by
  have hx := passes_call (X := X.nox) (E := fun _ _ _ => False) (W := fun _ _ _ _ => False) tk fun c d σ H h => h
  refine PE_weak (pe_prop ho c hp Fn (hr.mono hj) hb .nil hx hab) fun σ H Q q => ?_
  obtain ⟨F, P, Lk, r, En, q⟩ := q
  refine ⟨F, P, Lk, r, En, (RD.bind q).mono fun d r1 q1 v F1 H1 x1 E0 => ?_⟩
  obtain ⟨R1, E1⟩ := E0.rep
  clear E0
  obtain ⟨L, e0, S0⟩ := id E1
  cases d with
  | ins c fs =>
    dsimp only at q1
    split at q1
    · rename_i hcn
      subst hcn
      obtain ⟨a', dx, fs', rfl, ha'⟩ := insAt S0 R1 hcl
      refine ⟨a', dx, fs', rfl, ha', spN (W := fun _ _ _ _ => False) (σ := σ) (n := 1) (vs := [V.ref a']) rfl E1 (.cons R1 .nil) hz ?_⟩
      unfold mirN mirOk
      rw [if_pos (show [D.ins c fs].length = 1 from rfl)]
      cases hm : mir [D.ins c fs] with
      | ok z zs =>
        rw [hm] at q1
        exact fun v F3 H3 x3 E3 => q1 v F3 H3 (x1.trans x3) E3
      | exc c fs => rw [hm] at q1; exact q1.elim
      | stk => rw [hm] at q1; exact q1.elim
    · exact q1.elim
  | _ => exact q1.elim
/-! two-place operators -/
theorem type_looks {M : Model} {h : Heap} {y : Addr} {ob : Obj} {t : Value} (ho : h.get? y = some ob) (hc : ob.cls = t) : PySem.W.Looks M h (typeOf (.ref y)) t := (PySem.W.Looks.ld ho).andThen (by rw [hc]; exact .now)
theorem tyD_looks {M : Model} {pins : List (Addr × Obj)} {σ : L2.St} {H F P : Hp} {Lk : Lock} {L : List Cell} {s : Shared} {v : V} {u : Value} {d : D} {t : String} (hK : X.K = C.K) (I : Inv X pins σ H s) (rv : RelV v u) (S0 : Stt C F P Lk L H) (R0 : Rep C F v d) (h : tyD d = some t) : PySem.W.Looks M s.heap (typeOf u) (.type t) := by
  cases R0 with
  | non => cases h; cases (show u = Value.none from rv); exact PySem.W.Looks.of_pure rfl
  | bl b => cases h; cases (show u = Value.bool b from rv); exact PySem.W.Looks.of_pure rfl
  | int i => cases h; obtain ⟨t, rfl⟩ := (show ∃ t, u = Value.int i t from rv); exact PySem.W.Looks.of_pure rfl
  | str x => cases h; obtain ⟨t, rfl⟩ := (show ∃ t, u = Value.str x t from rv); exact PySem.W.Looks.of_pure rfl
  | lst hh r =>
    cases h
    cases rv
    obtain ⟨its, _, ⟨ob, n, e, c, _⟩, _⟩ := I.list (.inl (S0.rdL hh))
    exact type_looks e c
  | tup hh r =>
    cases h
    cases rv
    obtain ⟨its, _, ⟨ob, e, c, _⟩, _⟩ := I.tuple (SqT.of (S0.tup hh))
    exact type_looks e c
  | ktup hh r =>
    cases h
    cases rv
    obtain ⟨its, _, ⟨ob, e, c, _⟩, _⟩ := I.tuple (by rw [hK]; exact sqT_k hh)
    exact type_looks e c
  | _ => cases h
/-- what the class and the other value's type have of the operator's names -/
structure BinF (K : PySem.W.Frag) (Ca f : Addr) (nm T : String) : Prop where
  first : PySem.W.selfFirst K Ca = true
  at_ : PySem.W.findIn K (.ref Ca) (PySem.dunder nm) = some (some (.ref f))
  fn : PySem.W.isFn K (.ref f) = true
  rev : ∃ rc, PySem.W.findIn K (.ref Ca) (dunderR nm) = some rc ∧ (rc = none ∨ ∃ g : Addr, rc = some (.ref g))
  ot : ∃ fo, PySem.W.findIn K (.type T) (PySem.dunder nm) = some fo
  otR : ∃ ro, PySem.W.findIn K (.type T) (dunderR nm) = some ro
  sub : PySem.W.subIn K (.type T) (.ref Ca) = some false
theorem own_bin {A : Around} {Er : Value → Shared → Prop} {prog : Program} {w : World} {s : Shared} {K : PySem.W.Frag} {x L : Addr} {h₀ : Heap} {m : Str → Option Value} {ox : Obj} {od : Option Obj} {op : Operator} {u : Value} {T sym nm : String} {Q : Value → Shared → Prop} (hi : op.info = (sym, nm)) (Fr0 : PyProof.Rows.Fr h₀ L s.heap m) (X₀ : K.In h₀) (I : PySem.W.InstAt s.heap x ox Ca od) (hB : BinF K Ca f nm T) (L2 : PySem.W.Looks (model prog w) s.heap (typeOf u) (.type T))
    (h : wpAny (model prog w) A (call (.ref f) [.ref x, u]) (PySem.W.CmpBack Q) Er s) : wpAny (model prog w) A (binaryOp op (.ref x) u) Q Er s := by
  have Xk := X₀.keeps Fr0.keep
  obtain ⟨cd, rest, hcd, hm⟩ := PySem.W.ksp_first hB.first
  obtain ⟨rc, hrc, hp⟩ := hB.rev
  obtain ⟨fo, h1⟩ := hB.ot
  obtain ⟨ro, h2⟩ := hB.otR
  have one := PySem.W.ksp_try Xk I hB.at_ hB.fn h
  obtain ⟨hh, g, d, tt, os⟩ := s
  have J1 : PySem.W.Looks (model prog w) hh (typeOf (.ref x)) (.ref Ca) := I.type
  have J3 : PySem.W.Looks (model prog w) hh (fillsNumberSlot (.ref Ca) nm) true := PySem.W.fills_K Xk hcd hm hB.at_
  have J4 := PySem.W.ksp_fillsT (M := model prog w) Xk h1 h2
  have J5 : PySem.W.Looks (model prog w) hh (isSubtype (.type T) (.ref Ca)) false := PySem.W.looks_subIn Xk hB.sub
  have J6 : PySem.W.Looks (model prog w) hh (numberSlotInPython (.ref Ca) nm) true := PySem.W.ksp_inPy Xk hB.at_ hrc hp
  have J7 : PySem.W.Looks (model prog w) hh (numberSlotInPython (.type T) nm) false := PySem.W.Looks.of_pure rfl
  have J8 : PySem.W.Looks (model prog w) hh (typeLookup (.type T) (dunderR nm)) ro := PySem.W.looks_findIn Xk h2
  generalize ((fo.isSome && !isSeqSlot fo) || (ro.isSome && !isSeqSlot ro)) = right at J4
  have hne : (Value.ref Ca == Value.type T) = false := by
    cases hq : (Value.ref Ca == Value.type T) with
    | false => rfl
    | true => cases beq_iff_eq.mp hq
  simp only [binaryOp, hi]
  refine wpAny_holding (wpAny_bind ?_)
  unfold binaryOp1
  refine wpAny_bind (J1.at (wpAny_bind (L2.at (wpAny_bind (J3.at ?_)))))
  simp only [hne, Bool.false_eq_true, if_false]
  cases right <;> (ksp_lk; refine wpAny_mono one (fun r s' hr' => ?_) fun _ _ e => e; obtain ⟨v, rfl, hq⟩ := hr'; ksp_lk; exact hq)
end
end DL
namespace DL
open PySem PySem.Spec PyProof.Rows L2
variable {C : Cfg}
section
variable {X : Cx} {W : WX} {R : Rt} {G : List O} {a b e o : Expr} {es : List Expr} {pos pos' p : Pos} {cn : Str} {Ca pa : Addr}
variable {n k kk : Nat} {S : Sig} {mir : List D → Out} {fo fa fb : SE} {ks : SA} {E : XK} {f : Addr} {fd : FuncData} {ps : List Str} {sp : Sp}
theorem back_of {Q : VK} {z : V} {u : Value} {σ : L2.St} {H : Hp} {s : Shared} {pins : List (Addr × Obj)} (I : Inv X pins σ H s) (r : RelV z u) (q : Q z H) : PySem.W.CmpBack (EP X pins σ Q) u s := by
  have go : ∀ u, RelV z u → u ≠ .notImplemented → PySem.W.CmpBack (EP X pins σ Q) u s := fun u r h => by
    cases u <;> first | exact absurd rfl h | exact ⟨z, H, I, r, q⟩
  refine go u r fun e => ?_
  subst e
  cases z with
  | non => cases r
  | bl b => cases r
  | int i => obtain ⟨t, h⟩ := r; cases h
  | str i => obtain ⟨t, h⟩ := r; cases h
  | byt i => obtain ⟨t, h⟩ := r; cases h
  | flt i => obtain ⟨t, h⟩ := r; cases h
  | ref i => cases r
  | ty i => cases r
theorem op_binO {CX : CXT} {op : Operator} {T sym nm : String} (hi : op.info = (sym, nm)) (Fn : FnOk X.prog X.w X.K X.mg X.base CX k f fd ps sp) (hr : Room k X.A) (hb : Binds X.K fd ps []) (hx : Passes CX X E) (hB : BinF X.K Ca f nm T) :
    OpR X (binaryOp op) (fun x y H Q => (∃ a dx fs, x = .ref a ∧ H a = some (.ins Ca dx fs)) ∧ (∀ pins σ s u, Inv X pins σ H s → RelV y u → PySem.W.Looks (model X.prog X.w) s.heap (typeOf u) (.type T)) ∧ sp [x, y] H Q E) := by
  intro pins s σ H x y v u Q I rx ry ⟨⟨a, dx, fs, ey, ea⟩, hty, h⟩
  subst ey
  cases rx
  obtain ⟨mA, J, _⟩ := ins_get I.hok ea
  obtain ⟨od, J, _⟩ := J.look
  obtain ⟨m, hF⟩ := I.fr
  refine own_bin hi hF I.ok.mod.kin J hB (hty pins σ s u I ry) ?_
  exact thn (run_fn (us := [.ref a, u]) (vs := [.ref a, y]) (dxs := []) Fn hr hb .nil hx I (.cons rfl (.cons ry .nil)) h) fun w s1 ⟨z, H1, I1, r1, q1⟩ => back_of I1 r1 q1
def eBinI (cn T : String) (mir : List D → Out) (fa fb : SE) : SE := fun r => (fa r).bind fun x r1 => (fb r1).bind fun y r2 => if tyD y = some T then callI cn mir x y r2 else .stk
theorem de_binO {op : Operator} {cn T sym nm : String} (hi : op.info = (sym, nm)) (hK : X.K = C.K) (hcl : C.cl cn = some Ca) (hW : W = fun c d _ H => E c d H) (tk : Takes X W) (hz : S.Gi = [.z, .z]) (hB : BinF X.K Ca f nm T) (Fn : FnOk X.prog X.w X.K X.mg X.base (L2.CX X.prog X.w) k f fd ps (spD C S mir)) (hr : Room kk X.A) (hj : k ≤ kk) (hb : Binds X.K fd ps [])
    (ha : PE X a (tD C W G fa .z)) (hbb : PE X b (tD C W G fb .z)) : PE X (.BinOp a op b pos) (tD C W G (eBinI cn T mir fa fb) S.o) := by
  have hx := passes_call (X := X) (E := E) (W := W) tk fun c d σ H h => by rw [hW]; exact h
  refine PE_weak (pe_op (op_binO hi Fn (hr.mono hj) hb hx hB) ha hbb) fun σ H Q q => ?_
  obtain ⟨F, P, Lk, r, En, q⟩ := q
  refine ⟨F, P, Lk, r, En, (RD.bind q).mono fun dx r1 q1 x F1 H1 x1 E0 => ?_⟩
  obtain ⟨R1, E1⟩ := E0.rep
  clear E0
  refine ⟨F1, P, Lk, r1, E1, (RD.bind (q1.ext x1 (Sub.refl P))).mono fun dy r2 q2 y F2 H2 x2 E0 => ?_⟩
  obtain ⟨R2, E2⟩ := E0.rep
  clear E0
  obtain ⟨L, e0, S0⟩ := id E2
  split at q2
  · rename_i hT
    cases dx with
    | ins c fs =>
      have ec : callI cn mir (D.ins c fs) dy r2 = if c = cn then mirOk mir [D.ins c fs, dy] r2 else .stk := rfl
      rw [ec] at q2
      split at q2
      · rename_i hcn
        subst hcn
        refine ⟨insAt S0 (R1.mono x2) hcl, fun pins σ' s u I ru => tyD_looks hK I ru S0 R2 hT, spN (n := 2) hW E2 (.cons (R1.mono x2) (.cons R2 .nil)) hz ?_⟩
        exact RD.mono (x := mirN 2 mir [D.ins cn fs, dy] r2) (q2.ext x2 (Sub.refl P)) fun d r3 q3 v F3 H3 x3 E3 => q3 v F3 H3 ((x1.trans x2).trans x3) E3
      · exact q2.elim
    | _ => exact q2.elim
  · exact q2.elim
/-! o == y -/
def isTyN (T : String) : Bool := T == "NoneType" || T == "bool" || T == "int" || T == "str" || T == "list" || T == "tuple"
structure EqF (K : PySem.W.Frag) (Ca f : Addr) : Prop where
  at_ : PySem.W.findIn K (.ref Ca) "__eq__" = some (some (.ref f))
  fn : PySem.W.isFn K (.ref f) = true
  sub : ∀ T, isTyN T = true → PySem.W.subIn K (.type T) (.ref Ca) = some false
theorem tyD_n {d : D} {T : String} (h : tyD d = some T) : isTyN T = true := by
  cases d <;> cases h <;> rfl
theorem op_eqI {CX : CXT} (Fn : FnOk X.prog X.w X.K X.mg X.base CX k f fd ps sp) (hr : Room k X.A) (hb : Binds X.K fd ps []) (hx : Passes CX X E) (hE : EqF X.K Ca f) :
    OpR X (compareOp .Eq) (fun x y H Q => (∃ a dx fs, x = .ref a ∧ H a = some (.ins Ca dx fs)) ∧ ((∃ a dx fs, y = .ref a ∧ H a = some (.ins Ca dx fs)) ∨ ∃ T, isTyN T = true ∧ ∀ pins σ s u, Inv X pins σ H s → RelV y u → PySem.W.Looks (model X.prog X.w) s.heap (typeOf u) (.type T)) ∧ sp [x, y] H Q E) := by
  intro pins s σ H x y v u Q I rx ry ⟨⟨a, dx, fs, ey, ea⟩, hty, h⟩
  subst ey
  cases rx
  obtain ⟨mA, J, _⟩ := ins_get I.hok ea
  obtain ⟨od, J, _⟩ := J.look
  obtain ⟨m, hF⟩ := I.fr
  have fin := thn (run_fn (us := [.ref a, u]) (vs := [.ref a, y]) (dxs := []) Fn hr hb .nil hx I (.cons rfl (.cons ry .nil)) h) fun w s1 ⟨z, H1, I1, r1, q1⟩ => back_of I1 r1 q1
  show wpAny (model X.prog X.w) X.A (richCompare .Eq (.ref a) u) (EP X pins σ Q) X.xe s
  rcases hty with ⟨a', dx', fs', rfl, ea'⟩ | ⟨T, hT, hty⟩
  · cases ry
    obtain ⟨mA', J', _⟩ := ins_get I.hok ea'
    obtain ⟨od', J', _⟩ := J'.look
    exact PySem.W.cmp_K (op := .Eq) (tb := .ref Ca) hr.units0 hF I.ok.mod.kin J J'.type (by simp [PySem.W.notFirst]) hE.at_ hE.fn fin
  · exact PySem.W.cmp_K (op := .Eq) (tb := .type T) hr.units0 hF I.ok.mod.kin J (hty pins σ s u I ry) (by simp [PySem.W.notFirst, hE.sub T hT]) hE.at_ hE.fn fin
def okEq (cn : Str) (y : D) : Bool := match y with
  | .ins c _ => c == cn
  | d => (tyD d).isSome
def eEqI (cn : Str) (mir : List D → Out) (fa fb : SE) : SE := fun r => (fa r).bind fun x r1 => (fb r1).bind fun y r2 => if okEq cn y = true then callI cn mir x y r2 else .stk
theorem eqI_hyp (hK : X.K = C.K) (hcl : C.cl cn = some Ca) (hW : W = fun c d _ H => E c d H) (hz : S.Gi = [.z, .z]) {σ : L2.St} {H : Hp} {Q : VK} (q : tD C W G (eEqI cn mir fa fb) S.o σ H Q) :
    tOp (fun x y H Q => (∃ a dx fs, x = V.ref a ∧ H a = some (.ins Ca dx fs)) ∧ ((∃ a dx fs, y = V.ref a ∧ H a = some (.ins Ca dx fs)) ∨ ∃ T, isTyN T = true ∧ ∀ pins σ s u, Inv X pins σ H s → RelV y u → PySem.W.Looks (model X.prog X.w) s.heap (typeOf u) (.type T)) ∧ spD C S mir [x, y] H Q E) (tD C W G fa .z) (tD C W G fb .z) σ H Q := by
  obtain ⟨F, P, Lk, r, En, q⟩ := q
  refine ⟨F, P, Lk, r, En, (RD.bind q).mono fun dx r1 q1 x F1 H1 x1 E0 => ?_⟩
  obtain ⟨R1, E1⟩ := E0.rep
  clear E0
  refine ⟨F1, P, Lk, r1, E1, (RD.bind (q1.ext x1 (Sub.refl P))).mono fun dy r2 q2 y F2 H2 x2 E0 => ?_⟩
  obtain ⟨R2, E2⟩ := E0.rep
  clear E0
  obtain ⟨L, e0, S0⟩ := id E2
  split at q2
  · rename_i hT
    cases dx with
    | ins c fs =>
      have ec : callI cn mir (D.ins c fs) dy r2 = if c = cn then mirOk mir [D.ins c fs, dy] r2 else .stk := rfl
      rw [ec] at q2
      split at q2
      · rename_i hcn
        subst hcn
        refine ⟨insAt S0 (R1.mono x2) hcl, ?_, spN (n := 2) hW E2 (.cons (R1.mono x2) (.cons R2 .nil)) hz ?_⟩
        · have tyc : ∀ {d : D} {T : String}, tyD d = some T → Rep C F2 y d → _ := fun {d T} h Rd => (Or.inr ⟨T, tyD_n h, fun pins σ' s u I ru => tyD_looks hK I ru S0 Rd h⟩ : (∃ a dx fs, y = V.ref a ∧ H2 a = some (.ins Ca dx fs)) ∨ ∃ T, isTyN T = true ∧ ∀ pins σ s u, Inv X pins σ H2 s → RelV y u → PySem.W.Looks (model X.prog X.w) s.heap (typeOf u) (.type T))
          cases dy with
          | ins c' fs' =>
            have e : c' = c := by simpa [okEq] using hT
            subst e
            exact .inl (insAt S0 R2 hcl)
          | dct t kvs => simp [okEq, tyD] at hT
          | klst t => simp [okEq, tyD] at hT
          | opq w => simp [okEq, tyD] at hT
          | non => exact tyc rfl R2
          | bl b => exact tyc rfl R2
          | int i => exact tyc rfl R2
          | str i => exact tyc rfl R2
          | lst i => exact tyc rfl R2
          | tup i => exact tyc rfl R2
          | ktup i => exact tyc rfl R2
        · exact RD.mono (x := mirN 2 mir [D.ins c fs, dy] r2) (q2.ext x2 (Sub.refl P)) fun d r3 q3 v F3 H3 x3 E3 => q3 v F3 H3 ((x1.trans x2).trans x3) E3
      · exact q2.elim
    | _ => exact q2.elim
  · exact q2.elim
theorem de_eqI (hK : X.K = C.K) (hcl : C.cl cn = some Ca) (hW : W = fun c d _ H => E c d H) (tk : Takes X W) (hz : S.Gi = [.z, .z]) (hoo : S.o = .z) (hE : EqF X.K Ca f) (Fn : FnOk X.prog X.w X.K X.mg X.base (L2.CX X.prog X.w) k f fd ps (spD C S mir)) (hr : Room kk X.A) (hj : k ≤ kk) (hb : Binds X.K fd ps [])
    (ha : PE X a (tD C W G fa .z)) (hbb : PE X b (tD C W G fb .z)) (hm : behindInMarks .Eq b = false) : PE X (.Compare a [.Eq] [b] pos) (tD C W G (eEqI cn mir fa fb) .z) := by
  have hx := passes_call (X := X) (E := E) (W := W) tk fun c d σ H h => by rw [hW]; exact h
  exact PE_weak (pe_cmpR (op_eqI Fn (hr.mono hj) hb hx hE) ha hbb hm) fun σ H Q q => eqI_hyp hK hcl hW hz (by rw [hoo]; exact q)
theorem dt_eqI (hK : X.K = C.K) (hcl : C.cl cn = some Ca) (hW : W = fun c d _ H => E c d H) (tk : Takes X W) (hz : S.Gi = [.z, .z]) (hoo : S.o = .z) (hE : EqF X.K Ca f) (Fn : FnOk X.prog X.w X.K X.mg X.base (L2.CX X.prog X.w) k f fd ps (spD C S mir)) (hr : Room kk X.A) (hj : k ≤ kk) (hb : Binds X.K fd ps [])
    (ha : PE X a (tD C W G fa .z)) (hbb : PE X b (tD C W G fb .z)) (hm : behindInMarks .Eq b = false) : PT X (.Compare a [.Eq] [b] pos) (tDT C W G (boolT (eEqI cn mir fa fb))) := by
  have hx := passes_call (X := X) (E := E) (W := W) tk fun c d σ H h => by rw [hW]; exact h
  exact PT_weak (pt_cmpR (op_eqI Fn (hr.mono hj) hb hx hE) ha hbb hm) fun σ H Q q => eqI_hyp hK hcl hW hz (by rw [hoo]; exact bool_hyp q)
/-! isinstance(x, C) -/
structure IsiF (K : PySem.W.Frag) (Ca : Addr) : Prop where
  cl : Cls K Ca
  ha : PySem.W.findIn K (.ref Ca) "__class__" = some (some (.builtin "object.__class__"))
  hn : PySem.W.specialIn K (.builtin "object.__class__") "__get__" = some (some (.builtin "getset_descriptor.__get__"))
  htk : PySem.W.takesIn K (.builtin "object.__class__") = some true
  hm : PySem.W.mroIn K Ca (.type "object") = some true
  kit : ∀ T, isTyN T = true → PySem.W.kitOne K (.type T) (.ref Ca) = some false
def isiOD (cn : Str) : D → Option D
  | .ins c _ => if c = cn then some (.bl true) else none
  | d => (tyD d).map fun _ => .bl false
theorem de_isiO {x : Str} {p1 : Pos} (hK : X.K = C.K) (hcl : C.cl cn = some Ca) (hI : IsiF X.K Ca) (hg : Gl X "isinstance") (hm : X.mg "isinstance" = none) (hv : bootBuiltins "isinstance" = some (.builtin "isinstance")) (hgt : Gl X x) (hmt : X.mg x = some (.ref Ca)) (ha : PE X e (tD C W G fo .z))
    (hdt : (x == ("__debug__" : Str)) = false := by decide)
    (hs1 : starEach [.Name x p1] X.env = (false, eval (.Name x p1) X.env) :: starEach [] X.env := by rfl)
    (he : starEach [e, .Name x p1] X.env = (false, eval e X.env) :: starEach [.Name x p1] X.env := by rfl) (hpl : (backTo pos (starEach [.Name x p1] X.env)).any (·.1) = false := by rfl) :
    PE X (.Call (.Name "isinstance" p) [e, .Name x p1] [] pos) (tD C W G (e1 (isiOD cn) fo) .z) := by
  refine PE_weak (pe_callB call_isi hg hm hv (pa_cons ha (pa_cons (pe_glob (v := .ref Ca) hgt hmt rfl hdt) pa_nil hs1) he) (by decide) (by decide) he hpl) fun σ H Q q => ?_
  obtain ⟨F, P, Lk, r, E, q⟩ := q
  refine ⟨F, P, Lk, r, E, (RD.bind q).mono fun d r1 q1 v F1 H1 x1 E1 => ?_⟩
  obtain ⟨R1, L, e0, S⟩ := E1.rep
  obtain ⟨dz, e3, q3⟩ := RD_opt q1
  have tyc : ∀ {d : D} {T : String}, tyD d = some T → Rep C F1 v d → isiOD cn d = some (.bl false) → dz = .bl false → rIsi X.K [v, .ref Ca] H1 Q := fun {d T} h Rd _ ez => by
    subst ez
    exact ⟨v, .ref Ca, .type T, .ref Ca, false, rfl, .own Ca, hK ▸ tyD_X S Rd h, hI.kit T (tyD_n h), q3 _ F1 H1 x1 ⟨L, e0, S.zcons (.bl false)⟩⟩
  cases d with
  | ins c fs =>
    have e5 : (if c = cn then some (D.bl true) else none) = some dz := e3
    clear e3
    split at e5
    · rename_i hcn
      subst hcn
      cases e5
      obtain ⟨a', dx, fs', rfl, ha'⟩ := insAt S R1 hcl
      refine ⟨.ref a', .ref Ca, .ref Ca, .ref Ca, true, rfl, .own Ca, .base (.ins ha' hI.cl hI.ha hI.hn hI.htk hI.hm), ?_, q3 _ F1 H1 x1 ⟨L, e0, S.zcons (.bl true)⟩⟩
      unfold PySem.W.kitOne
      rw [if_pos (by simp)]
    · cases e5
  | dct t kvs => cases e3
  | klst t => cases e3
  | opq w => cases e3
  | non => exact tyc rfl R1 rfl (by cases e3; rfl)
  | bl b => exact tyc rfl R1 rfl (by cases e3; rfl)
  | int i => exact tyc rfl R1 rfl (by cases e3; rfl)
  | str i => exact tyc rfl R1 rfl (by cases e3; rfl)
  | lst i => exact tyc rfl R1 rfl (by cases e3; rfl)
  | tup i => exact tyc rfl R1 rfl (by cases e3; rfl)
  | ktup i => exact tyc rfl R1 rfl (by cases e3; rfl)
end
end DL
namespace DL
open PySem PySem.Spec PyProof.Rows L2
variable {C : Cfg}
section
variable {X : Cx} {W : WX} {G : List O} {pos p1 : Pos} {Ca : Addr}
/-- C.f, a constant of the class -/
theorem de_cval {x f : Str} {mc : Value} {v : V} {u : Value} {d : D} (hgt : Gl X x) (hmt : X.mg x = some (.ref Ca)) (r : ClX.CRead X.K Ca mc) (k : ClX.CVal X.K Ca mc f v u) (hr : ∀ F, Rep C F v d) (hd : (x == ("__debug__" : Str)) = false := by decide)
    (hb : attributeBase (.Name x p1) f X.env (eval (.Name x p1) X.env) = eval (.Name x p1) X.env := by rfl) : PE X (.Attribute (.Name x p1) f pos) (tD C W G (eC d) .z) := by
  refine PE_weak (ClX.pe_cval (pe_glob (v := .ref Ca) hgt hmt rfl hd) hb) fun σ H Q q => ?_
  obtain ⟨F, P, Lk, r0, E, q⟩ := q
  exact ⟨Ca, mc, v, u, rfl, r, k, q v F H (Ext.refl F) (E.zcons (hr F))⟩
end
end DL
set_option Elab.async false
set_option linter.all false
set_option autoImplicit false
set_option maxRecDepth 100000
set_option maxHeartbeats 1000000
/-! the data layer, part 13: dicts -/
namespace DL
open PySem PySem.Spec PyProof.Rows L2
variable {C : Cfg}
section
variable {X : Cx} {W : WX} {R : Rt} {G : List O} {e tg iter kx vx : Expr} {ifs : List Expr} {es : List Expr} {pos : Pos} {o : O}
/-! new dicts -/
theorem de_dnewK : PE X (.Dict [] [] pos) (tD C W G (eC (.dct false [])) (.c o)) := by
  refine PE_weak pe_dnewK fun σ H Q q => ?_
  obtain ⟨F, P, Lk, r, E, q⟩ := q
  intro p hp
  obtain ⟨L, E1, S1⟩ := E
  exact q _ F _ (Ext.refl F) ⟨L, E1, SttH.closeK (kvs := []) (ds := []) (o := o) (Stt.hole S1 hp) rfl⟩
theorem de_dnewT : PE X (.Dict [] [] pos) (tD C W G (eC (.dct true [])) (.c o)) := by
  refine PE_weak pe_dnewT fun σ H Q q => ?_
  obtain ⟨F, P, Lk, r, E, q⟩ := q
  intro p hp
  obtain ⟨L, E1, S1⟩ := E
  exact q _ F _ (Ext.refl F) ⟨L, E1, SttH.closeT (kvs := []) (ds := []) (o := o) (Stt.hole S1 hp) rfl fun p hp => by simp at hp⟩
/-! d.update(e), d.clear() -/
def mergeK (kvs more : List (Key × V)) : List (Key × V) := more.foldl (fun a p => putK a p.1 p.2) kvs
theorem mergeK_len : ∀ (more kvs : List (Key × V)), (mergeK kvs more).length ≤ kvs.length + more.length
  | [], kvs => Nat.le_refl _
  | p :: more, kvs => by
    have h1 := mergeK_len more (putK kvs p.1 p.2)
    have h2 := length_putK kvs p.1 p.2
    show (mergeK (putK kvs p.1 p.2) more).length ≤ _
    simp only [List.length_cons]
    omega
theorem KV_nil_of {vs : List (Key × Value)} (r : KV ([] : List (Key × V)) vs) : vs = [] := by
  have := r.length
  cases vs with
  | nil => rfl
  | cons _ _ => simp at this
theorem KV_merge : ∀ {more : List (Key × V)} {kvs : List (Key × V)} {ms vs : List (Key × Value)}, KV kvs vs → KV more ms → KV (mergeK kvs more) (merged vs ms)
  | [], kvs, ms, vs, r, m => by cases m; exact r
  | p :: more, kvs, _, vs, r, m => by
    cases m with
    | @cons _ q _ ms h t =>
      obtain ⟨h1, h2⟩ := h
      have e : stored vs q.1 q.2 = stored vs p.1 q.2 := by rw [h1]
      show KV (mergeK (putK kvs p.1 p.2) more) (merged (stored vs q.1 q.2) ms)
      rw [e]
      exact KV_merge (r.put p.1 h2) t
def rDUpd : V → List V → Hp → VK → Prop := fun x xs H Q => ∃ a b kvs more, x = .ref a ∧ xs = [.ref b] ∧ a ≠ b ∧ H a = some (.dK kvs) ∧ Rd H b (.dK more) ∧ kvs.length + more.length ≤ sizeLine ∧ Q .non (upd H a (.dK (mergeK kvs more)))
theorem mtd_update : MtR X "dict.update" rDUpd := by
  intro pins s σ H x xs v us Q I rx rxs ⟨a, b, kvs, more, ex, exs, hne, ha, hb, hz, q⟩
  subst ex exs
  cases rx
  obtain ⟨u, rfl, ru⟩ := rxs.one
  cases ru
  obtain ⟨z, hd, vs, rel, dd⟩ := dk_of I.hok ha
  obtain ⟨z', hd', ms, rel', dd'⟩ := dk_rd I.hok hb
  refine call_meetsIn PySem.F.slot_dict_update dd.typeIs PySem.F.entry_dict_update (PySem.F.args_dict_update_2 _ _) (meets_dict_update (mixKind X.prog X.w) a b hne hd') ⟨vs, ms, dd, dd', by rw [← rel.length, ← rel'.length]; exact hz, fun h' e1 e2 sb => ?_⟩
  have he : ∃ q, h'.get? a = some q := let ⟨q, _, _, hq, _⟩ := e1; ⟨q, hq⟩
  exact ⟨.non, _, d_write (t' := s.toks) I (by rw [ha]; exact True.intro) sb he (dk_new (Nat.le_trans (mergeK_len more kvs) hz) hd (KV_merge rel rel') e1), rfl, q⟩
def mergeD (kvs more : List (D × D)) : List (D × D) := more.foldl (fun a p => putD a p.1 p.2) kvs
theorem merge_rel {F : Hp} : ∀ {more : List (Key × V)} {es : List D} {kvs : List (Key × V)} {ds : List D}, RepL C F (kvs.map (·.2)) ds → RepL C F (more.map (·.2)) es →
    ∃ ds', RepL C F ((mergeK kvs more).map (·.2)) ds' ∧ ((mergeK kvs more).map fun p => keyD p.1).zip ds' = mergeD ((kvs.map fun p => keyD p.1).zip ds) ((more.map fun p => keyD p.1).zip es)
  | [], es, kvs, ds, r, m => by cases m; exact ⟨ds, r, rfl⟩
  | p :: more, _, kvs, ds, r, m => by
    cases m with
    | @cons _ e _ es a b =>
      obtain ⟨d1, r1, e1⟩ := put_rel keyD keyB_key r a p.1
      obtain ⟨d2, r2, e2⟩ := merge_rel r1 b
      refine ⟨d2, r2, ?_⟩
      have e3 : mergeK kvs (p :: more) = mergeK (putK kvs p.1 p.2) more := rfl
      rw [e3, e2, e1]
      rfl
def gUpdate : D → List D → Option (D × D)
  | .dct false kvs, [.dct false more] => if kvs.length + more.length ≤ sizeLine then some (.non, .dct false (mergeD kvs more)) else none
  | _, _ => none
theorem me_update : MtR X "dict.update" (rMe C (.c .z) .z [.z] gUpdate) := fun pins s σ H x xs v us Q I rx rxs h => by
  obtain ⟨F, P, Lk, L, d, ds, d', dr, La, Rr, S, g, k⟩ := h
  obtain ⟨e, y, rfl, rfl, rfl⟩ := Rr.one
  have Re : Rep C F y e := S.rep_mem (List.mem_cons_of_mem _ List.mem_cons_self)
  unfold gUpdate at g
  split at g
  · rename_i kds more heq
    cases heq
    split at g
    · rename_i hz
      cases g
      obtain ⟨a, kvs, ds1, rfl, h1, l, rfl, S2⟩ := Stt.openK S
      obtain ⟨r, S3⟩ := S2.unz (by simpa using l)
      cases Re with
      | @dK b ms es hb rb =>
        have S4 : SttH C F P Lk [a] L H := S3.tail
        have hne : a ≠ b := fun z => by
          subst z
          obtain ⟨fp, ow, n, dd⟩ := S4.ow
          have fn := (dd a (by simp)).1
          rcases hb with hb | ⟨ob, hb⟩ <;> rw [fn] at hb <;> cases hb
        have lz : ms.length = es.length := by simpa using rb.length
        obtain ⟨ds', r', e'⟩ := merge_rel r rb
        refine mtd_update pins s σ H _ _ v us Q I rx rxs ⟨a, b, kvs, ms, rfl, rfl, hne, h1, ?_, ?_, k _ F _ (Ext.refl F) (Stt.zcons .non ?_)⟩
        · rcases hb with hb | ⟨ob, hb⟩
          · have z := S4.le _ _ hb
            unfold lk at z
            rw [S4.ld.1 b] at z
            exact .inl z
          · have z := S4.le _ _ hb
            unfold lk at z
            rw [S4.ld.1 b] at z
            exact .inr ⟨ob, z⟩
        · simp at hz; omega
        · have z := SttH.closeK (S4.zcell r') (by simpa using r'.length)
          rw [e'] at z
          exact z
    · cases g
  · cases g
def gDClear : D → List D → Option (D × D)
  | .dct false _, [] => some (.non, .dct false [])
  | _, _ => none
theorem me_dclear : MtR X "dict.clear" (rMe C (.c o) .z [] gDClear) := fun pins s σ H x xs v us Q I rx rxs h => by
  obtain ⟨F, P, Lk, L, d, ds, d', dr, La, Rr, S, g, k⟩ := h
  obtain ⟨rfl, rfl, rfl⟩ := Rr.none_nil
  unfold gDClear at g
  split at g
  · cases g
    obtain ⟨a, kvs, ds1, rfl, h1, l, rfl, S2⟩ := Stt.openK (L := L) S
    exact mtd_clear pins s σ H _ _ v us Q I rx rxs ⟨a, kvs, rfl, rfl, h1, k _ F _ (Ext.refl F) (Stt.zcons .non (SttH.closeK (kvs := []) (ds := []) (o := o) S2.drop rfl))⟩
  · cases g

/-! ### {k: v for .. in ..} -/
def dcL (t : Tg) (vs : List Nat) (ts : ST) (fk f : SE) : List D → List (D × D) → DL.Env → Res (List (D × D))
  | [], acc, r => .ok acc r
  | d :: ds, acc, r => match t.put d r with
    | some r1 => bndN (ts r1) fun b r2 => if b = true then bndN (fk r2) fun k r3 => bndN (f r3) fun x r4 => if (toKey k).isSome = true ∧ acc.length < sizeLine then dcL t vs ts fk f ds (putD acc k x) (wipeE r4 vs) else .stk
      else dcL t vs ts fk f ds acc (wipeE r2 vs)
    | none => .stk
def eDc (it : SI) (vs : List Nat) (t : Tg) (ts : ST) (fk f : SE) : SE := fun r => (it r).bind fun items r1 => bndN (dcL t vs ts fk f items [] (wipeE r1 vs)) fun kds r2 => .ok (.dct false kds) (restE r1 vs r2)
theorem Stt.putK1 {F P H : Hp} {Lk : Lock} {L : List Cell} {a : Addr} {kds : List (D × D)} {y z : V} {ky : Key} {d : D} (S : Stt C F P Lk ((.c .z, .ref a, .dct false kds) :: L) H) (Rk : Rep C F y (keyD ky)) (Rv : Rep C F z d) :
    ∃ kvs, y = kV ky ∧ H a = some (.dK kvs) ∧ kvs.length = kds.length ∧ Stt C F P Lk ((.c .z, .ref a, .dct false (putD kds (keyD ky) d)) :: L) (upd H a (.dK (putK kvs ky z))) := by
  obtain ⟨a', kvs, ds1, ea, h1, l, rfl, S2⟩ := Stt.openK S
  cases ea
  obtain ⟨r, S3⟩ := S2.unz (by simpa using l)
  obtain ⟨ds', r', e'⟩ := put_rel keyD keyB_key r Rv ky
  refine ⟨kvs, by cases ky <;> (cases Rk; rfl), h1, by simp [l], ?_⟩
  rw [← e']
  exact SttH.closeK (S3.zcell r') (by simpa using r'.length)
theorem dc_hyp {it : SI} {t : Tg} {ts : ST} {fk f : SE} {vs : List Nat} (hv : ∀ i ∈ vs, G[i]? = some .z) (ht : t.slots = vs) {σ : L2.St} {H : Hp} {Q : VK} (q : tD C W G (eDc it vs t ts fk f) (.c .z) σ H Q) :
    tDc (tDI C W G it) (tDG C G t) (tDTs C G ts) (tD C W0 G fk .z) (tD C W0 G f .z) vs σ H Q := by
  obtain ⟨F, P, Lk, r, E, q⟩ := q
  refine ⟨F, P, Lk, r, E, (RD.bind q).mono fun items r1 q1 J F1 H1 x1 E1 Y Da hD => ?_⟩
  cases hl : dcL t vs ts fk f items [] (wipeE r1 vs) with
  | stk => rw [hl] at q1; exact q1.elim
  | exc c fs => rw [hl] at q1; exact q1.elim
  | ok all r9 =>
    rw [hl] at q1
    have q1 : RD C W F P Lk σ (Res.ok (D.dct false all) (restE r1 vs r9)) _ := q1
    refine ⟨fun i m H' => m = items.length - i ∧ i ≤ items.length ∧ ∃ F' r' acc, Ext F1 F' ∧ EnvX C [(.c .z, .ref Da, .dct false acc)] F' P Lk G r' (wipe σ vs) H' ∧ dcL t vs ts fk f (items.drop i) acc r' = .ok all r9,
      ⟨items.length, rfl, Nat.zero_le _, F1, _, [], Ext.refl _, ?_, by rw [List.drop_zero]; exact hl⟩, ?_⟩
    · obtain ⟨L, e, s⟩ := EnvX.wipe hv E1
      exact ⟨L, e, SttH.closeK (kvs := []) (ds := []) (o := .z) (Stt.hole s hD) rfl⟩
    · rintro i m H3 ⟨rfl, hi', F3, r3, acc, x3, E3, h3⟩
      obtain ⟨L3, e3, S3⟩ := id E3
      by_cases hlt : i < items.length
      · refine .inr ⟨Y.go i F3 P Lk _ H3 x3 S3 hlt, fun H' => ∃ F' r' acc, Ext F1 F' ∧ EnvX C [(.c .z, .ref Da, .dct false acc)] F' P Lk G r' (wipe σ vs) H' ∧ dcL t vs ts fk f (items.drop (i + 1)) acc r' = .ok all r9,
          fun H' ⟨F', r', acc', z⟩ => ⟨items.length - (i + 1), by omega, rfl, hlt, F', r', acc', z⟩, fun x H' y => ?_⟩
        obtain ⟨F4, d, x4, hd4, R4, S4⟩ := Y.yld i F3 P Lk _ H3 x H' x3 S3 hlt y
        have e1 : items.drop i = d :: items.drop (i + 1) := by
          rw [List.drop_eq_getElem_cons hlt]
          congr 1
          rw [List.getElem?_eq_getElem hlt] at hd4
          exact Option.some.inj hd4
        rw [e1] at h3
        unfold dcL at h3
        cases hput : t.put d r3 with
        | none => rw [hput] at h3; cases h3
        | some r4 =>
          rw [hput] at h3
          dsimp only at h3
          have E4 : EnvX C [(.c .z, .ref Da, .dct false acc)] F4 P Lk G r3 (wipe σ vs) H' := ⟨L3, e3, S4⟩
          obtain ⟨P4, E4', eP4, unp4⟩ := E4.park
          refine ⟨F4, P4, Lk, r3, d, r4, E4', R4, hput, fun σ5 o5 F5 H5 x5 E5 => ?_⟩
          rw [ht] at o5
          have ws := wipe_twice o5
          refine ⟨ws, ?_⟩
          cases hts : ts r4 with
          | stk => rw [hts] at h3; cases h3
          | exc c fs => rw [hts] at h3; cases h3
          | ok b r5 =>
            rw [hts] at h3
            refine ⟨F5, P4, Lk, r4, E5, ?_⟩
            rw [hts]
            intro F6 H6 x6 E6
            have x6 := x5.trans x6
            cases b with
            | false =>
              have h3 : dcL t vs ts fk f (items.drop (i + 1)) acc (wipeE r5 vs) = .ok all r9 := h3
              rw [if_neg Bool.false_ne_true]
              have E7 := EnvX.wipe hv (unp4 _ _ _ _ _ _ _ x6 E6)
              rw [ws, List.append_nil] at E7
              exact ⟨F6, _, acc, x3.trans (x4.trans x6), E7, h3⟩
            | true =>
              rw [if_pos rfl]
              have h3 : (bndN (fk r5) fun k r3 => bndN (f r3) fun x r4 => if (toKey k).isSome = true ∧ acc.length < sizeLine then dcL t vs ts fk f (items.drop (i + 1)) (putD acc k x) (wipeE r4 vs) else .stk) = .ok all r9 := h3
              cases hfk : fk r5 with
              | stk => rw [hfk] at h3; cases h3
              | exc c fs => rw [hfk] at h3; cases h3
              | ok kd r6 =>
                rw [hfk] at h3
                have h3 : (bndN (f r6) fun x r4 => if (toKey kd).isSome = true ∧ acc.length < sizeLine then dcL t vs ts fk f (items.drop (i + 1)) (putD acc kd x) (wipeE r4 vs) else .stk) = .ok all r9 := h3
                cases hf : f r6 with
                | stk => rw [hf] at h3; cases h3
                | exc c fs => rw [hf] at h3; cases h3
                | ok xd r7 =>
                  rw [hf] at h3
                  have h3 : (if (toKey kd).isSome = true ∧ acc.length < sizeLine then dcL t vs ts fk f (items.drop (i + 1)) (putD acc kd xd) (wipeE r7 vs) else .stk) = .ok all r9 := h3
                  split at h3
                  · rename_i hk
                    obtain ⟨ky, hky⟩ := Option.isSome_iff_exists.mp hk.1
                    have ek := toKey_some hky
                    subst ek
                    refine ⟨F6, P4, Lk, r5, E6, ?_⟩
                    rw [hfk]
                    intro yk F7 H7 x7 E7
                    obtain ⟨R7, E7⟩ := E7.rep
                    refine ⟨F7, P4, Lk, r6, E7, ?_⟩
                    rw [hf]
                    intro yv F8 H8 x8 E8
                    obtain ⟨R8, E8⟩ := E8.rep
                    obtain ⟨L8, e8, s8⟩ := unp4 _ _ _ _ _ _ _ (x6.trans (x7.trans x8)) E8
                    obtain ⟨kvs, ey, hH, lk, s9⟩ := Stt.putK1 s8 (R7.mono x8) R8
                    refine ⟨kvs, ky, ey, hH, by omega, F8, _, _, x3.trans (x4.trans (x6.trans (x7.trans x8))), ?_, h3⟩
                    have s9 : Stt C F8 P Lk ([(.c .z, .ref Da, .dct false (putD acc (keyD ky) xd))] ++ L8) (upd H8 Da (.dK (putK kvs ky yv))) := s9
                    have E9 := EnvX.wipe hv ⟨L8, e8, s9⟩
                    rw [ws] at E9
                    exact E9
                  · cases h3
      · have e : i = items.length := by omega
        subst e
        rw [List.drop_length] at h3
        cases h3
        refine .inl ⟨Y.stop F3 P Lk _ H3 x3 S3, q1 _ F3 H3 (x1.trans x3) ?_⟩
        exact EnvX.rest hv E1 x3 E3
theorem de_dc {it : SI} {t : Tg} {ts : ST} {fk f : SE} {scope : Scope} {own : List (Str × Nat)} {vs : List Nat} (hc : X.calm = true) (hN : X.N.Nodup) (hi : PI X tg iter (tDI C W G it)) (ok : BlkOk X.N X.env.scope scope own) (hvs : own.map (·.2) = vs) (hv : (vs.all fun i => decide (G[i]? = some .z)) = true) (ht : t.slots = vs)
    (hg : ∀ (s : Shared) (H : Hp) (C1 : Addr) (cl : List (Str × Addr)) (fp : List Addr), PG (X.blk s H scope (compEnvC scope cl C1 X.env) fp) tg (tDG C G t))
    (htt : ∀ (s : Shared) (H : Hp) (C1 : Addr) (cl : List (Str × Addr)) (fp : List Addr), PTs (X.blk s H scope (compEnvC scope cl C1 X.env) fp) ifs (tDTs C G ts))
    (hk : ∀ (s : Shared) (H : Hp) (C1 : Addr) (cl : List (Str × Addr)) (fp : List Addr), PE (X.blk s H scope (compEnvC scope cl C1 X.env) fp) kx (tD C W0 G fk .z))
    (he : ∀ (s : Shared) (H : Hp) (C1 : Addr) (cl : List (Str × Addr)) (fp : List Addr), PE (X.blk s H scope (compEnvC scope cl C1 X.env) fp) vx (tD C W0 G f .z)) (hs : ∀ x, foldedSetIterable iter X.env x = pure x := by intro _; rfl) :
    PE X (.DictComp kx vx [⟨tg, iter, ifs, 0⟩] scope pos) (tD C W G (eDc it vs t ts fk f) (.c .z)) := by
  subst hvs
  exact PE_weak (pe_dc hc hN hi ok hg htt hk he hs) fun σ H Q q => dc_hyp (fun i hi => by simpa using List.all_eq_true.mp hv i hi) ht q
end
end DL
set_option Elab.async false
set_option linter.all false
set_option autoImplicit false
set_option maxRecDepth 100000
set_option maxHeartbeats 1000000
/-! the data layer, part 14: sorted; repr of flat values; starred displays; keyword calls -/
namespace DL
open PySem PySem.Spec PyProof.Rows L2
variable {C : Cfg}
/-! ### sorting -/
def insI (x : Int) : List Int → List Int
  | [] => [x]
  | y :: ys => if x ≤ y then x :: y :: ys else y :: insI x ys
def sortI : List Int → List Int
  | [] => []
  | x :: xs => insI x (sortI xs)
theorem insI_perm (x : Int) : ∀ ys : List Int, (insI x ys).Perm (x :: ys)
  | [] => .refl _
  | y :: ys => by
    unfold insI
    split
    · exact .refl _
    · exact ((insI_perm x ys).cons y).trans (List.Perm.swap _ _ _)
theorem sortI_perm : ∀ xs : List Int, (sortI xs).Perm xs
  | [] => .refl _
  | x :: xs => (insI_perm x _).trans ((sortI_perm xs).cons x)
theorem insI_sorted (x : Int) : ∀ ys : List Int, ys.Pairwise (· ≤ ·) → (insI x ys).Pairwise (· ≤ ·)
  | [], _ => by simp [insI]
  | y :: ys, h => by
    unfold insI
    split
    · rename_i hxy
      refine List.Pairwise.cons (fun z hz => ?_) h
      rcases List.mem_cons.mp hz with rfl | hz
      · exact hxy
      · exact Int.le_trans hxy ((List.pairwise_cons.mp h).1 z hz)
    · rename_i hxy
      have h' := List.pairwise_cons.mp h
      refine List.Pairwise.cons (fun z hz => ?_) (insI_sorted x ys h'.2)
      rcases List.mem_cons.mp ((insI_perm x ys).mem_iff.mp hz) with rfl | hz
      · omega
      · exact h'.1 z hz
theorem sortI_sorted : ∀ xs : List Int, (sortI xs).Pairwise (· ≤ ·)
  | [] => .nil
  | x :: xs => insI_sorted x _ (sortI_sorted xs)
theorem sortI_uniq {xs ys : List Int} (p : ys.Perm xs) (s : ys.Pairwise (· ≤ ·)) : ys = sortI xs :=
  List.Perm.eq_of_pairwise (le := fun a b => a ≤ b) (fun a b _ _ h1 h2 => Int.le_antisymm h1 h2) s (sortI_sorted xs) (p.trans (sortI_perm xs).symm)
/-- texts: x not behind y -/
def leS (x y : Str) : Bool := !ltCps y.cps.toList x.cps.toList
theorem ltC_trans : ∀ {a b c : List Nat}, ltCps a b = true → ltCps b c = true → ltCps a c = true
  | [], _ :: _, [], _, h => by simp [ltCps] at h
  | [], _, _ :: _, _, _ => rfl
  | a :: r, b :: t, c :: u, h1, h2 => by
    simp only [ltCps, Bool.or_eq_true, Bool.and_eq_true, decide_eq_true_eq, beq_iff_eq] at *
    rcases h1 with h1 | ⟨h1, k1⟩ <;> rcases h2 with h2 | ⟨h2, k2⟩
    · left; omega
    · left; omega
    · left; omega
    · right; exact ⟨by omega, ltC_trans k1 k2⟩
  | _ :: _, [], _, h, _ => by simp [ltCps] at h
  | [], [], _, h, _ => by simp [ltCps] at h
  | _ :: _, _ :: _, [], _, h => by simp [ltCps] at h
theorem ltC_tri : ∀ a b : List Nat, ltCps a b = false → ltCps b a = false → a = b
  | [], [], _, _ => rfl
  | [], _ :: _, h, _ => by simp [ltCps] at h
  | _ :: _, [], _, h => by simp [ltCps] at h
  | a :: r, b :: t, h1, h2 => by
    simp only [ltCps, Bool.or_eq_false_iff, Bool.and_eq_false_iff, decide_eq_false_iff_not, beq_eq_false_iff_ne] at h1 h2
    have e : a = b := by omega
    subst e
    rw [ltC_tri r t (by simpa using h1.2) (by simpa using h2.2)]
theorem leS_trans {x y z : Str} (h1 : leS x y = true) (h2 : leS y z = true) : leS x z = true := by
  unfold leS at *
  simp only [Bool.not_eq_true'] at *
  cases h : ltCps z.cps.toList x.cps.toList with
  | false => rfl
  | true =>
    cases h3 : ltCps x.cps.toList y.cps.toList with
    | true => rw [ltC_trans h h3] at h2; cases h2
    | false => rw [ltC_tri _ _ h3 h1] at h; rw [h] at h2; cases h2
theorem leS_anti {x y : Str} (h1 : leS x y = true) (h2 : leS y x = true) : x = y := by
  unfold leS at *
  simp only [Bool.not_eq_true'] at *
  have := ltC_tri _ _ h2 h1
  cases x; cases y
  simp at this
  rw [this]
theorem leS_total (x y : Str) : leS x y = false → leS y x = true := by
  unfold leS
  intro h
  simp only [Bool.not_eq_false', Bool.not_eq_true'] at *
  cases h3 : ltCps x.cps.toList y.cps.toList with
  | false => rfl
  | true => have := ltC_trans h h3; have irr : ∀ a, ltCps a a = false := by
              intro a
              induction a with
              | nil => rfl
              | cons b r ih => simp [ltCps, ih]
            rw [irr] at this; cases this
def insS (x : Str) : List Str → List Str
  | [] => [x]
  | y :: ys => if leS x y = true then x :: y :: ys else y :: insS x ys
def sortS : List Str → List Str
  | [] => []
  | x :: xs => insS x (sortS xs)
theorem insS_perm (x : Str) : ∀ ys : List Str, (insS x ys).Perm (x :: ys)
  | [] => .refl _
  | y :: ys => by
    unfold insS
    split
    · exact .refl _
    · exact ((insS_perm x ys).cons y).trans (List.Perm.swap _ _ _)
theorem sortS_perm : ∀ xs : List Str, (sortS xs).Perm xs
  | [] => .refl _
  | x :: xs => (insS_perm x _).trans ((sortS_perm xs).cons x)
theorem insS_sorted (x : Str) : ∀ ys : List Str, ys.Pairwise (leS · · = true) → (insS x ys).Pairwise (leS · · = true)
  | [], _ => by simp [insS]
  | y :: ys, h => by
    unfold insS
    split
    · rename_i hxy
      refine List.Pairwise.cons (fun z hz => ?_) h
      rcases List.mem_cons.mp hz with rfl | hz
      · exact hxy
      · exact leS_trans hxy ((List.pairwise_cons.mp h).1 z hz)
    · rename_i hxy
      have h' := List.pairwise_cons.mp h
      refine List.Pairwise.cons (fun z hz => ?_) (insS_sorted x ys h'.2)
      rcases List.mem_cons.mp ((insS_perm x ys).mem_iff.mp hz) with rfl | hz
      · exact leS_total _ _ (by simpa using hxy)
      · exact h'.1 z hz
theorem sortS_sorted : ∀ xs : List Str, (sortS xs).Pairwise (leS · · = true)
  | [] => .nil
  | x :: xs => insS_sorted x _ (sortS_sorted xs)
theorem sortedS_pw : ∀ {xs : List Str}, sortedS xs = true → xs.Pairwise (leS · · = true) := by
  have go : ∀ (xs : List Str) (p : Str), risingS p xs = true → (∀ x ∈ xs, leS p x = true) ∧ xs.Pairwise (leS · · = true) := by
    intro xs
    induction xs with
    | nil => intro p _; exact ⟨fun x hx => by simp at hx, .nil⟩
    | cons x xs ih =>
      intro p h
      simp only [risingS, Bool.and_eq_true] at h
      obtain ⟨h1, h2⟩ := ih x h.2
      refine ⟨fun y hy => ?_, .cons h1 h2⟩
      rcases List.mem_cons.mp hy with rfl | hy
      · exact h.1
      · exact leS_trans h.1 (h1 y hy)
  intro xs h
  cases xs with
  | nil => exact .nil
  | cons x xs => obtain ⟨h1, h2⟩ := go xs x h; exact .cons h1 h2
theorem sortS_uniq {xs ys : List Str} (p : ys.Perm xs) (s : sortedS ys = true) : ys = sortS xs :=
  List.Perm.eq_of_pairwise (le := fun a b => leS a b = true) (fun a b _ _ h1 h2 => leS_anti h1 h2) (sortedS_pw s) (sortS_sorted xs) (p.trans (sortS_perm xs).symm)
def strsD : List D → Option (List Str)
  | [] => some []
  | .str i :: xs => (strsD xs).map (i :: ·)
  | _ => none
theorem strsD_rep {F : Hp} : ∀ {ds : List D} {vs : List V} {ns : List Str}, RepL C F vs ds → strsD ds = some ns → vs = ns.map V.str
  | [], vs, ns, r, e => by cases r; cases e; rfl
  | d :: ds, vs, ns, r, e => by
    cases d <;> simp only [strsD] at e <;> try (cases e; done)
    rename_i x
    cases q : strsD ds with
    | none => rw [q] at e; cases e
    | some b =>
      rw [q] at e
      cases e
      cases r with
      | cons a b => cases a; rw [strsD_rep b q]; rfl
theorem repL_ints {F : Hp} (ns : List Int) : RepL C F (ns.map V.int) (ns.map D.int) := by
  induction ns with
  | nil => exact .nil
  | cons n ns ih => exact .cons (.int n) ih
theorem repL_strs {F : Hp} (ns : List Str) : RepL C F (ns.map V.str) (ns.map D.str) := by
  induction ns with
  | nil => exact .nil
  | cons n ns ih => exact .cons (.str n) ih
def sortID : D → Option D
  | .lst xs => (intsD xs).map fun ns => .lst ((sortI ns).map D.int)
  | _ => none
def sortSD : D → Option D
  | .lst xs => (strsD xs).bind fun ns => if ns.length < 64 then some (.lst ((sortS ns).map D.str)) else none
  | _ => none
section
variable {X : Cx} {W : WX} {R : Rt} {G : List O} {e a o : Expr} {es : List Expr} {pos p : Pos}
theorem call_sortI_D (hK : X.K = C.K) : CallR X (.builtin "sorted") (rON C (g1 sortID) (.c .z)) :=
  cr1 cr_sortedI fun F P Lk L H x dx dz Q S R e q => by
    unfold sortID at e
    split at e
    · rename_i xs
      cases hn : intsD xs with
      | none => rw [hn] at e; cases e
      | some ns =>
        rw [hn] at e
        cases e
        cases R with
        | lst h r =>
          have ez := intsD_rep r hn
          subst ez
          refine ⟨_, ns, rfl, .inl (S.rdL h), fun ns' p hp hs hf => ?_⟩
          rw [sortI_uniq hp hs]
          exact q _ F _ (Ext.refl F) (SttH.closeL ((Stt.hole S hf).zcell (repL_ints _)) (by simp))
    · cases e
theorem call_sortS_D (hK : X.K = C.K) : CallR X (.builtin "sorted") (rON C (g1 sortSD) (.c .z)) :=
  cr1 cr_sortedS fun F P Lk L H x dx dz Q S R e q => by
    unfold sortSD at e
    split at e
    · rename_i xs
      cases hn : strsD xs with
      | none => rw [hn] at e; cases e
      | some ns =>
        rw [hn] at e
        have e : (if ns.length < 64 then some (D.lst ((sortS ns).map D.str)) else none) = some dz := e
        split at e
        · rename_i h64
          cases e
          cases R with
          | lst h r =>
            have ez := strsD_rep r hn
            subst ez
            refine ⟨_, ns, rfl, .inl (S.rdL h), h64, fun ns' p hp hs hf => ?_⟩
            rw [sortS_uniq hp hs]
            exact q _ F _ (Ext.refl F) (SttH.closeL ((Stt.hole S hf).zcell (repL_strs _)) (by simp))
        · cases e
    · cases e
/-! ### repr of a truth value -/
def reprBD : D → Option D
  | .bl b => some (.str (if b then "True" else "False"))
  | _ => none
theorem call_reprB : CallR X (.builtin "repr") (fun xs H Q => ∃ b, xs = [.bl b] ∧ Q (.str (if b then "True" else "False")) H) := by
  intro pins s σ H xs us Q I r h
  obtain ⟨b, rfl, q⟩ := h
  obtain ⟨u, rfl, rx⟩ := vals1 r
  cases rx
  exact PySem.P.repr_of_bool ⟨.str _, H, I.tok _, ⟨_, rfl⟩, q⟩
theorem call_reprB_D : CallR X (.builtin "repr") (rON C (g1 reprBD) .z) :=
  cr1 call_reprB fun F P Lk L H x dx dz Q S R e q => by
    unfold reprBD at e
    split at e
    · cases e
      cases R
      exact ⟨_, rfl, q _ F H (Ext.refl F) (S.zcons (.str _))⟩
    · cases e
/-! ### *e in a display or a call -/
def itemsD : D → Option (List D)
  | .lst xs => some xs
  | .tup xs => some xs
  | .ktup xs => some xs
  | _ => none
def aStar (f : SE) (k : SA) : SA := fun r => (f r).bind fun d r1 => match itemsD d with
  | some xs => (k r1).bind fun ds r2 => .ok (xs ++ ds) r2
  | none => .stk
theorem da_star {f : SE} {k : SA} {p : Pos} (hK : X.K = C.K) (ha : PE X e (tD C W G f .z)) (hr : PA X es (tDA C W G k)) (hs : starEach (.Starred e p :: es) X.env = (true, eval e X.env) :: starEach es X.env := by rfl) : PA X (.Starred e p :: es) (tDA C W G (aStar f k)) := by
  refine PA_weak (StX.pa_star ha hr hs) fun σ H Q q => ?_
  obtain ⟨F, P, Lk, r, E, q⟩ := q
  refine ⟨F, P, Lk, r, E, (RD.bind q).mono fun d r1 q1 v F1 H1 x1 E0 => ?_⟩
  obtain ⟨R1, E1⟩ := E0.rep
  clear E0
  obtain ⟨L, e0, S0⟩ := id E1
  have fin : ∀ (a : Addr) (vs : List V) (xs : List D), v = .ref a → (SqT X.K H1 a vs ∨ SqL X.K H1 a vs) → RepL C F1 vs xs → itemsD d = some xs → ∃ p xs, v = V.ref p ∧ (SqT X.K H1 p xs ∨ SqL X.K H1 p xs) ∧ tDA C W G k σ H1 fun ys H2 => Q (xs ++ ys) H2 := fun a vs xs e1 e2 e3 e4 => by
    rw [e4] at q1
    refine ⟨a, vs, e1, e2, F1, P, Lk, r1, E1, (RD.bind ((show RD C W F P Lk σ ((k r1).bind fun ds r2 => .ok (xs ++ ds) r2) _ from q1).ext x1 (Sub.refl P))).mono fun ds r2 q2 ys F2 H2 x2 R2 E2 => ?_⟩
    exact q2 _ F2 H2 (x1.trans x2) ((e3.mono x2).append R2) E2
  cases R1 with
  | lst h r => exact fin _ _ _ rfl (.inr (.inl (S0.rdL h))) r rfl
  | tup h r => exact fin _ _ _ rfl (.inl (SqT.of (S0.tup h))) r rfl
  | ktup h r => exact fin _ _ _ rfl (.inl (by rw [hK]; exact sqT_k h)) r rfl
  | _ => exact q1.elim
end
end DL
set_option Elab.async false
set_option linter.all false
set_option autoImplicit false
set_option maxRecDepth 100000
set_option maxHeartbeats 1000000
/-! the data layer, part 15: calls by name -/
namespace DL
open PySem PySem.Spec PyProof.Rows L2
variable {C : Cfg}
/-- positional ones first, then the parameters by their places among the keywords -/
def kwG {α : Type} (nu : Nat) (perm : List Nat) (us ws : List α) : List α := if us.length = nu ∧ ws.length = perm.length then us ++ perm.filterMap (ws[·]?) else []
theorem kwG_vals {nu : Nat} {perm : List Nat} {vs zs : List V} {us ws : List Value} (r : Vals vs us) (r2 : Vals zs ws) : Vals (kwG nu perm vs zs) (kwG nu perm us ws) := by
  unfold kwG
  rw [r.length, r2.length]
  split
  · refine r.append ?_
    have go : ∀ perm : List Nat, Vals (perm.filterMap (zs[·]?)) (perm.filterMap (ws[·]?)) := by
      intro perm
      induction perm with
      | nil => exact .nil
      | cons i perm ih =>
        cases hi : zs[i]? with
        | none =>
          have : ws[i]? = none := by
            rw [List.getElem?_eq_none_iff] at hi ⊢
            rw [← r2.length]; exact hi
          simp only [List.filterMap_cons, hi, this]
          exact ih
        | some v =>
          obtain ⟨u, hu, ru⟩ := r2.get hi
          simp only [List.filterMap_cons, hi, hu]
          exact .cons ru ih
    exact go perm
  · exact .nil
theorem kwG_rep {F : Hp} {nu : Nat} {perm : List Nat} {vs zs : List V} {us ws : List D} (r : RepL C F vs us) (r2 : RepL C F zs ws) : RepL C F (kwG nu perm vs zs) (kwG nu perm us ws) := by
  unfold kwG
  rw [r.length, r2.length]
  split
  · refine r.append ?_
    have go : ∀ perm : List Nat, RepL C F (perm.filterMap (zs[·]?)) (perm.filterMap (ws[·]?)) := by
      intro perm
      induction perm with
      | nil => exact .nil
      | cons i perm ih =>
        cases hi : zs[i]? with
        | none =>
          have : ws[i]? = none := by
            rw [List.getElem?_eq_none_iff] at hi ⊢
            rw [← r2.length]; exact hi
          simp only [List.filterMap_cons, hi, this]
          exact ih
        | some v =>
          obtain ⟨u, hu, ru⟩ := r2.get' hi
          simp only [List.filterMap_cons, hi, hu]
          exact .cons ru ih
    exact go perm
  · exact .nil
theorem kb_of {K : PySem.W.Frag} {fd : FuncData} {ps ks : List Str} {nu : Nat} {perm : List Nat} (hp : ps ≠ []) (h : ∀ (us ws : List Value), us.length = nu → ws.length = perm.length → bindArgs fd ⟨us, ks.zip ws⟩ = pure (ps.zip (kwG nu perm us ws))) : KBinds K fd ps ks (kwG nu perm) (kwG nu perm) where
  to := fun s us ws _ hl => by
    by_cases q : us.length = nu ∧ ws.length = perm.length
    · exact .of_eq (h us ws q.1 q.2)
    · unfold kwG at hl
      rw [if_neg q] at hl
      exact absurd (List.length_eq_zero_iff.mp hl.symm) hp
  rel := fun r r2 => kwG_vals r r2
def eCallK (n : Nat) (mir : List D → Out) (nu : Nat) (perm : List Nat) (k kk : SA) : SE := fun r => (k r).bind fun us r1 => (kk r1).bind fun ws r2 => mirN n mir (kwG nu perm us ws) r2
section
variable {X : Cx} {W : WX} {G : List O} {e : Expr} {es : List Expr} {kws : List Keyword} {pos p kpos : Pos} {nm : Option Str}
theorem PK_weak {t t' : TA} (h : PK X kws t) (k : ∀ σ H Q, t' σ H Q → t σ H Q) : PK X kws t' := ⟨fun pos pins s σ H Q I h' => h.run pos pins s σ H Q I (k _ _ _ h')⟩
theorem dk_nil : PK X [] (tDA C W G aNil) := by
  refine PK_weak pk_nil fun σ H Q q => ?_
  obtain ⟨F, P, Lk, r, E, q⟩ := q
  exact q [] F H (Ext.refl F) .nil E
theorem dk_cons {f : SE} {k : SA} (ha : PE X e (tD C W G f .z)) (hr : PK X kws (tDA C W G k)) : PK X (⟨nm, e, kpos⟩ :: kws) (tDA C W G (aCons f k)) := by
  refine PK_weak (pk_cons ha hr) fun σ H Q q => ?_
  obtain ⟨F, P, Lk, r, E, q⟩ := q
  refine ⟨F, P, Lk, r, E, (RD.bind q).mono fun dx r1 q1 x F1 H1 x1 E0 => ?_⟩
  obtain ⟨R1, E1⟩ := E0.rep
  clear E0
  refine ⟨F1, P, Lk, r1, E1, (RD.bind (q1.ext x1 (Sub.refl P))).mono fun dy r2 q2 y F2 H2 x2 R2 E2 => ?_⟩
  exact q2 _ F2 H2 (x1.trans x2) (.cons (R1.mono x2) R2) E2
variable {n k kk nu : Nat} {perm : List Nat} {S : Sig} {mir : List D → Out} {ka kw : SA} {E : XK} {f : Addr} {fd : FuncData} {ps ks : List Str} {x : Str}
theorem callK_hyp {t tk : TA} (hW : W = fun c d _ H => E c d H) (hz : S.Gi = List.replicate n O.z) (h1 : ∀ σ H Q, tDA C W G ka σ H Q → t σ H Q) (h2 : ∀ σ H Q, tDA C W G kw σ H Q → tk σ H Q) {σ : L2.St} {H : Hp} {Q : VK} (q : tD C W G (eCallK n mir nu perm ka kw) S.o σ H Q) :
    tCallK (spD C S mir) (kwG nu perm) E t tk σ H Q := by
  obtain ⟨F, P, Lk, r, En, q⟩ := q
  refine h1 _ _ _ ⟨F, P, Lk, r, En, (RD.bind q).mono fun us r1 q1 vs F1 H1 x1 R1 E1 => h2 _ _ _ ⟨F1, P, Lk, r1, E1, (RD.bind (q1.ext x1 (Sub.refl P))).mono fun ws r2 q2 zs F2 H2 x2 R2 E2 => ?_⟩⟩
  exact spN hW E2 (kwG_rep (R1.mono x2) R2) hz ((q2.ext x2 (Sub.refl P)).mono fun d r' q3 v F' H' x' E' => q3 v F' H' ((x1.trans x2).trans x') E')
theorem de_callK (hW : W = fun c d _ H => E c d H) (tk : Takes X W) (hz : S.Gi = List.replicate n O.z) (Fn : FnOk X.prog X.w X.K X.mg X.base (L2.CX X.prog X.w) k f fd ps (spD C S mir)) (hr : Room kk X.A) (hj : k ≤ kk) (hg : Gl X x) (hm : X.mg x = some (.ref f)) (hk : PySem.W.keepIn X.K (.ref f) = true) (hb : KBinds X.K fd ps ks (kwG nu perm) (kwG nu perm))
    (ha : PA X (e :: es) (tDA C W G ka)) (hkw : PK X kws (tDA C W G kw)) (hall : (backToKw pos (keywordEach kws X.env)).all (·.1.isSome) = true := by rfl) (hks : (backToKw pos (keywordEach kws X.env)).filterMap (·.1) = ks := by rfl)
    (hdb : (x == ("__debug__" : Str)) = false := by decide) (he : starEach (e :: es) X.env = (false, eval e X.env) :: starEach es X.env := by rfl)
    (hpl : ((backTo pos (starEach (e :: es) X.env)).any (·.1) || (backToKw pos (keywordEach kws X.env)).any (·.1.isNone)) = false := by rfl) :
    PE X (.Call (.Name x p) (e :: es) kws pos) (tD C W G (eCallK n mir nu perm ka kw) S.o) := by
  have hx := passes_call (X := X) (E := E) (W := W) tk fun c d σ H h => by rw [hW]; exact h
  exact PE_weak (pe_callK Fn (hr.mono hj) hg hm hk hb hx ha hkw hall hks hdb he hpl) fun σ H Q q => callK_hyp hW hz (fun _ _ _ h => h) (fun _ _ _ h => h) q
/-- by names alone -/
theorem pe_callK0 {CX : CXT} {sp : Sp} {g : List Value → List Value → List Value} {gV : List V → List V → List V} {tk : TA} (F : FnOk X.prog X.w X.K X.mg X.base CX k f fd ps sp) (hr : Room k X.A) (hg : Gl X x) (hm : X.mg x = some (.ref f)) (hk : PySem.W.keepIn X.K (.ref f) = true) (hb : KBinds X.K fd ps ks g gV) (hx : Passes CX X E)
    (hkw : PK X kws tk) (hall : (backToKw pos (keywordEach kws X.env)).all (·.1.isSome) = true := by rfl) (hks : (backToKw pos (keywordEach kws X.env)).filterMap (·.1) = ks := by rfl)
    (hdb : (x == ("__debug__" : Str)) = false := by decide) (hpl : ((backTo pos (starEach [] X.env)).any (·.1) || (backToKw pos (keywordEach kws X.env)).any (·.1.isNone)) = false := by rfl) :
    PE X (.Call (.Name x p) [] kws pos) (tCallK sp gV E tNil tk) := by
  refine ⟨fun pins s σ H Q I h => wpAny_Call_Name_kw (ld_glob I hg hm (PySem.W.callWith_KW0 (h₀ := X.base) I.ok.mod.kin hk hall (thn (hkw.run pos pins s σ H _ I h) fun ws s2 ⟨zs, H2, I2, rz, q2⟩ => ⟨I2.kIn, ?_⟩) hpl) hdb)⟩
  rw [hks]
  exact run_fnk (us := []) F hr hb hx I2 .nil rz q2
theorem de_callK0 (hW : W = fun c d _ H => E c d H) (tk : Takes X W) (hz : S.Gi = List.replicate n O.z) (Fn : FnOk X.prog X.w X.K X.mg X.base (L2.CX X.prog X.w) k f fd ps (spD C S mir)) (hr : Room kk X.A) (hj : k ≤ kk) (hg : Gl X x) (hm : X.mg x = some (.ref f)) (hk : PySem.W.keepIn X.K (.ref f) = true) (hb : KBinds X.K fd ps ks (kwG nu perm) (kwG nu perm))
    (hkw : PK X kws (tDA C W G kw)) (hall : (backToKw pos (keywordEach kws X.env)).all (·.1.isSome) = true := by rfl) (hks : (backToKw pos (keywordEach kws X.env)).filterMap (·.1) = ks := by rfl)
    (hdb : (x == ("__debug__" : Str)) = false := by decide) (hpl : ((backTo pos (starEach [] X.env)).any (·.1) || (backToKw pos (keywordEach kws X.env)).any (·.1.isNone)) = false := by rfl) :
    PE X (.Call (.Name x p) [] kws pos) (tD C W G (eCallK n mir nu perm aNil kw) S.o) := by
  have hx := passes_call (X := X) (E := E) (W := W) tk fun c d σ H h => by rw [hW]; exact h
  refine PE_weak (pe_callK0 Fn (hr.mono hj) hg hm hk hb hx hkw hall hks hdb hpl) fun σ H Q q => callK_hyp hW hz (fun σ H Q h => ?_) (fun _ _ _ h => h) q
  obtain ⟨F, P, Lk, r, E0, h⟩ := h
  exact h [] F H (Ext.refl F) .nil E0
end
end DL
set_option Elab.async false
set_option linter.all false
set_option autoImplicit false
set_option maxRecDepth 100000
set_option maxHeartbeats 1000000
/-! the data layer, part 16: what the printed walks lean on -/
namespace DL
open PySem PySem.Spec PyProof.Rows L2
variable {C : Cfg}
def mulI (a b : D) : Option D := match a, b with
  | .int i, .int j => if (-(2 ^ 64) < i ∧ i < 2 ^ 64) ∨ (-(2 ^ 64) < j ∧ j < 2 ^ 64) then some (.int (i * j)) else none
  | _, _ => none
theorem op_mulI {X : Cx} : OpR X (binaryOp .Mult) (rO2 C mulI .z) := op_mul_D
def negD : D → Option D
  | .int i => some (.int (-i))
  | _ => none
theorem un_negD {X : Cx} : UnR X (unaryOp .USub) (rO1 C negD .z) := by
  intro pins s σ H x v Q I rx ⟨F, P, Lk, L, dx, dz, S, hx, e, k⟩
  unfold negD at e
  split at e
  · cases e
    exact un_neg pins s σ H x v Q I rx ⟨_, rep_int hx, k _ F H (Ext.refl F) (S.zcons (.int _))⟩
  · cases e
def repLD : D → D → Option D
  | .lst xs, .int k => if -(2 ^ 63) ≤ k ∧ k < 2 ^ 63 ∧ xs.length * k.toNat ≤ sizeLine then some (.lst (List.replicate k.toNat xs).flatten) else none
  | _, _ => none
def eRep (f h : SE) : SE := e2 repLD f h
theorem RepL.reps {F : Hp} {vs : List V} {ds : List D} (r : RepL C F vs ds) : ∀ n, RepL C F (List.replicate n vs).flatten (List.replicate n ds).flatten
  | 0 => .nil
  | n + 1 => by
    rw [List.replicate_succ, List.replicate_succ, List.flatten_cons, List.flatten_cons]
    exact r.append (RepL.reps r n)
section
variable {X : Cx} {W : WX} {R : Rt} {G : List O} {a b e : Expr} {es : List Expr} {pos : Pos}
theorem de_rep {f h : SE} (ha : PE X a (tD C W G f (.c .z))) (hb : PE X b (tD C W G h .z)) : PE X (.BinOp a .Mult b pos) (tD C W G (eRep f h) (.c .z)) := by
  refine PE_weak (pe_op op_rep ha hb) fun σ H Q q => ?_
  obtain ⟨F, P, Lk, r, E, q⟩ := q
  refine ⟨F, P, Lk, r, E, (RD.bind q).mono fun dx r1 q1 x F1 H1 x1 E1 => ?_⟩
  obtain ⟨P', E1', eP, unp⟩ := E1.park
  refine ⟨F1, P', Lk, r1, E1', (RD.bind (q1.ext x1 eP)).mono fun dy r2 q2 y F2 H2 x2 E2 => ?_⟩
  obtain ⟨dz, e3, q3⟩ := RD_opt q2
  obtain ⟨R2, E2⟩ := E2.rep
  have E3 := unp F2 H2 Lk [] G r2 σ x2 E2
  obtain ⟨L, e0, S0⟩ := E3
  have S0 : Stt C F2 P Lk ((.c .z, x, dx) :: L) H2 := S0
  unfold repLD at e3
  split at e3
  · split at e3
    · rename_i hz
      cases e3
      cases R2
      obtain ⟨l, vs, rfl, h1, ln, S1⟩ := Stt.openL S0
      obtain ⟨rr, S2⟩ := S1.unz ln
      refine ⟨l, _, vs, rfl, rfl, h1, hz.1, hz.2.1, by rw [ln]; exact hz.2.2, fun p hp => ?_⟩
      have hpl : p ≠ l := fun z => by rw [z, h1] at hp; cases hp
      have S3 : Stt C F2 P Lk L H2 := by
        obtain ⟨fp, ow, n, d⟩ := S2.ow
        have sub : fp.Sublist ([l] ++ fp) := List.sublist_append_right [l] fp
        exact ⟨S2.le, S2.pe, S2.dj, S2.ld, fp, ow, n.sublist sub, fun a ha => d a (sub.subset ha)⟩
      refine q3 _ F2 _ (x1.trans x2) ⟨L, e0, SttH.closeL ((Stt.hole S3 hp).zcell (rr.reps _)) ?_⟩
      have := (rr.reps (List.length (List.replicate 0 ()))).length
      exact (rr.reps _).length
    · cases e3
  · cases e3
end
theorem hu1 {k : Nat} {A : Around} (h : Room k A) : A.units + 1 < cLine := by have := h.un; omega
theorem hu0 {k : Nat} {A : Around} (h : Room k A) : A.units < cLine := by have := h.un; omega
theorem hu64 {k : Nat} {A : Around} (h : Room k A) : A.units + 64 < cLine := by have := h.un; omega
theorem hu65 {k : Nat} {A : Around} (h : Room k A) : A.units + 65 < cLine := by have := h.un; omega
theorem takesW0 {X : Cx} : Takes X W0 := fun u s' ⟨a, B, sI, pins, σ, H, cls, d, e, I, nb, up, sky, na, os, ag, w⟩ => w.elim
def nE : XK := fun _ _ _ => False
theorem wkE {E : XK} {pm : List Nat} : WK (fun c d _ H => E c d H) pm := fun _ _ _ _ _ _ h => h
theorem wk0 {pm : List Nat} : WK W0 pm := fun _ _ _ _ _ _ h => h
theorem bt_abs : bootBuiltins "abs" = some (.builtin "abs") := by decide +kernel
theorem bt_max : bootBuiltins "max" = some (.builtin "max") := by decide +kernel
theorem bt_min : bootBuiltins "min" = some (.builtin "min") := by decide +kernel
theorem bt_all : bootBuiltins "all" = some (.builtin "all") := by decide +kernel
theorem bt_any : bootBuiltins "any" = some (.builtin "any") := by decide +kernel
theorem bt_sum : bootBuiltins "sum" = some (.builtin "sum") := by decide +kernel
theorem bt_divmod : bootBuiltins "divmod" = some (.builtin "divmod") := by decide +kernel
theorem bt_sorted : bootBuiltins "sorted" = some (.builtin "sorted") := by decide +kernel
theorem bt_repr : bootBuiltins "repr" = some (.builtin "repr") := by decide +kernel
theorem bt_isinstance : bootBuiltins "isinstance" = some (.builtin "isinstance") := by decide +kernel
theorem bt_list : bootBuiltins "list" = some (.type "list") := by decide +kernel
theorem bt_tuple : bootBuiltins "tuple" = some (.type "tuple") := by decide +kernel
theorem bt_int : bootBuiltins "int" = some (.type "int") := by decide +kernel
theorem bt_str : bootBuiltins "str" = some (.type "str") := by decide +kernel
theorem bt_bool : bootBuiltins "bool" = some (.type "bool") := by decide +kernel
theorem bt_dict : bootBuiltins "dict" = some (.type "dict") := by decide +kernel
theorem takes0n {X : Cx} : Takes X (fun _ _ _ _ => False) := takesW0
theorem sub6 {K : PySem.W.Frag} {a : Addr} (h1 : PySem.W.subIn K (.type "NoneType") (.ref a) = some false) (h2 : PySem.W.subIn K (.type "bool") (.ref a) = some false) (h3 : PySem.W.subIn K (.type "int") (.ref a) = some false) (h4 : PySem.W.subIn K (.type "str") (.ref a) = some false) (h5 : PySem.W.subIn K (.type "list") (.ref a) = some false) (h6 : PySem.W.subIn K (.type "tuple") (.ref a) = some false) :
    ∀ T, isTyN T = true → PySem.W.subIn K (.type T) (.ref a) = some false := by
  intro T h
  unfold isTyN at h
  simp only [Bool.or_eq_true, beq_iff_eq] at h
  rcases h with ((((rfl | rfl) | rfl) | rfl) | rfl) | rfl <;> assumption
theorem kit6 {K : PySem.W.Frag} {a : Addr} (h1 : PySem.W.kitOne K (.type "NoneType") (.ref a) = some false) (h2 : PySem.W.kitOne K (.type "bool") (.ref a) = some false) (h3 : PySem.W.kitOne K (.type "int") (.ref a) = some false) (h4 : PySem.W.kitOne K (.type "str") (.ref a) = some false) (h5 : PySem.W.kitOne K (.type "list") (.ref a) = some false) (h6 : PySem.W.kitOne K (.type "tuple") (.ref a) = some false) :
    ∀ T, isTyN T = true → PySem.W.kitOne K (.type T) (.ref a) = some false := by
  intro T h
  unfold isTyN at h
  simp only [Bool.or_eq_true, beq_iff_eq] at h
  rcases h with ((((rfl | rfl) | rfl) | rfl) | rfl) | rfl <;> assumption
theorem kitC {K : PySem.W.Frag} {a : Addr} {T : String} (hd : PySem.W.hasDictIn K a = true) (ht : PySem.W.typeIn K (.ref a) = some (.type "type")) (hs : PySem.W.subIn K (.type T) (.ref a) = some false) : PySem.W.kitOne K (.type T) (.ref a) = some false := by
  obtain ⟨cd, hc, _⟩ := PySem.W.any_some hd
  have e : (Value.type T == Value.ref a) = false := by
    cases hq : (Value.type T == Value.ref a) with
    | false => rfl
    | true => cases beq_iff_eq.mp hq
  unfold PySem.W.kitOne
  rw [e, if_neg Bool.false_ne_true]
  unfold PySem.W.kitCls
  dsimp only
  rw [hc, ht, if_pos (by simp), hs]
/-! ### the law's own promise -/
def spLaw (K : PySem.W.Frag) : Sp := fun vs H Q _ => ∃ (a : Addr) (ns : List Int), vs = [.ref a] ∧ SqL K H a (ns.map V.int) ∧ ns.length ≤ 63 ∧ (∀ z ∈ ns, Builtin.Int.intBits z ≤ 1048576) ∧ ∀ H', Q (.bl true) H'
/-- the script, as data -/
def isScript (d : D) (ns : List Int) : Prop := d = .lst (ns.map .int) ∨ d = .klst (ns.map .int)
theorem law_sp {K : PySem.W.Frag} (hK : C.K = K) {mir : List D → Out} (hm : ∀ d ns, isScript d ns → ns.length ≤ 63 → (∀ z ∈ ns, Builtin.Int.intBits z ≤ 1048576) → ∃ ds, mir [d] = .ok (.bl true) ds) {vs : List V} {H : Hp} {Q : VK} {E : XK} (h : spLaw K vs H Q E) : spD C ⟨[.z], [false], .z⟩ mir vs H Q E := by
  obtain ⟨a, ns, rfl, hS, hl, hb, q⟩ := h
  subst hK
  have S : Stt C H (fun _ => none) (fun _ => none) [] H := ⟨fun _ _ e => e, (fun _ _ e => by cases e), (fun _ _ e => by cases e), ⟨fun a => rfl, fun _ _ e => by cases e⟩, [], rfl, List.nodup_nil, fun a ha => by simp at ha⟩
  have go : ∀ d, isScript d ns → Rep C H (.ref a) d → spD C ⟨[.z], [false], .z⟩ mir [.ref a] H Q E := fun d hd R => by
    obtain ⟨ds, e⟩ := hm d ns hd hl hb
    refine ⟨rfl, H, fun _ => none, fun _ => none, [d], [(.z, .ref a, d)], .have .nil, S.zcons R, ?_⟩
    rw [e]
    rintro v F' H' x' ⟨L', e', s'⟩
    cases s'.rep
    exact q H'
  rcases hS with (h | ⟨o, h⟩) | h
  · exact go _ (.inl rfl) (.lst (.inl h) (repL_ints ns))
  · exact go _ (.inl rfl) (.lst (.inr ⟨o, h⟩) (repL_ints ns))
  · exact go _ (.inr rfl) (.klst (.inr h) (repL_ints ns))
theorem cx_no {P : Program} {w : World} {H : Hp} {s : Shared} {e : Value} {s' : Shared} (h : L2.CX P w [] H s (fun _ _ _ => False) e s') : False := by
  obtain ⟨a, B, H', cls, d, rfl, fl, hok, ub, na, os, ag, hE⟩ := h
  exact hE
end DL
set_option Elab.async false
set_option linter.all false
set_option autoImplicit false
/-! the data layer: an owned name as an argument, used again by a later argument -/
namespace DL
open PySem PySem.Spec PyProof.Rows L2
/-- a local name that is handed over once the later arguments are worked out -/
def mLt (i : Nat) (k : SA) : SA := fun r => match r[i]? with
  | some (some _) => (k r).bind fun ds r' => match r'[i]? with
    | some (some d) => .ok (d :: ds) (r'.set i none)
    | _ => .stk
  | _ => .stk
section
variable {X : Cx} {W : WX} {C : Cfg} {G : List O} {e : Expr} {es : List Expr} {pos : Pos}
theorem dm_lt {i : Nat} {x : Str} {p : Pos} {k : SA} {mv : List (Option Nat)} {os : List O} {o : O} (hG : G[i]? = some o) (hN : X.N[i]? = some x) (hv : Vis X.env.scope x) (hr : PA X es (tDM C W G k mv os))
    (hd : (x == ("__debug__" : Str)) = false := by decide) (hcd : (x == ("__classdict__" : Str)) = false := by decide) (hs : starEach (.Name x p :: es) X.env = (false, eval (.Name x p) X.env) :: starEach es X.env := by rfl) :
    PA X (.Name x p :: es) (tDM C W G (mLt i k) (some i :: mv) (o :: os)) := by
  refine PA_weak (pa_cons (pe_var hN hv hd hcd) hr hs) fun σ H Q q => ?_
  obtain ⟨F, P, Lk, r, E, q⟩ := q
  unfold mLt at q
  split at q
  · rename_i d hd
    obtain ⟨v, h1, E1⟩ := E.take hd hG
    refine ⟨v, h1, F, P, Lk, r, E, (RD.bind q).mono fun ds r2 q2 vs F2 H2 La x2 R2 E2 mv2 => ?_⟩
    split at q2
    · rename_i d2 hd2
      obtain ⟨v2, h2, E3⟩ := E2.take hd2 hG
      have ev : v2 = v := by
        rw [h1] at h2
        exact (Option.some.inj (Option.some.inj h2)).symm
      subst ev
      refine q2 (v2 :: vs) F2 H2 ((o, v2, d2) :: La) x2 (.have R2) E3 fun j i' h => ?_
      cases j with
      | zero =>
        simp at h
        subst h
        exact ⟨v2, rfl, h1, List.getElem?_set_self (List.getElem?_eq_some_iff.mp hd2).1⟩
      | succ j =>
        obtain ⟨w, h3, h4, h5⟩ := mv2 j i' (by simpa using h)
        refine ⟨w, by simpa using h3, h4, ?_⟩
        by_cases hj : i' = i
        · subst hj
          exact List.getElem?_set_self (List.getElem?_eq_some_iff.mp hd2).1
        · rw [List.getElem?_set_ne (Ne.symm hj)]
          exact h5
    · exact q2.elim
  · exact q.elim
end
end DL
set_option Elab.async false
set_option linter.all false
set_option autoImplicit false
/-! the data layer: the printed mirrors are worked out by simp -/
namespace DL
open PySem PySem.Spec PyProof.Rows L2
/-- an equation that simp must carry as a proof -/
theorem nrfl {α : Sort _} {a b : α} (h : a = b) : a = b := h
/-- what is left of a body's end -/
def outF (ft : Bool) (m : List Bool) : Fl → Out
  | .nx r => if ft = true then .ok .non (maskE m r) else .stk
  | .rt d r => .ok d (maskE m r)
  | .exc c fs => .exc c fs
  | .stk => .stk
theorem mkF_ap (ft : Bool) (n : Nat) (m : List Bool) (f : SS) (ds : List D) : mkF ft n m f ds = outF ft m (f (ds.map some ++ List.replicate n none)) := nrfl rfl
@[simp] theorem outF_rt (ft : Bool) (m : List Bool) (d : D) (r : DL.Env) : outF ft m (.rt d r) = .ok d (maskE m r) := nrfl rfl
@[simp] theorem outF_nx (ft : Bool) (m : List Bool) (r : DL.Env) : outF ft m (.nx r) = if ft = true then .ok .non (maskE m r) else .stk := nrfl rfl
section
variable {α β : Type} {r : DL.Env} {i : Nat} {d : D} {f h : SE} {t u : ST} {k : SA} {s s' : SS}
@[simp] theorem bind_ok (a : α) (g : α → DL.Env → Res β) : (Res.ok a r).bind g = g a r := nrfl rfl
@[simp] theorem bind_stk (g : α → DL.Env → Res β) : (Res.stk : Res α).bind g = .stk := nrfl rfl
@[simp] theorem bndN_ok (a : α) (g : α → DL.Env → Res β) : bndN (Res.ok a r) g = g a r := nrfl rfl
@[simp] theorem fl_ok (a : α) (g : α → DL.Env → Fl) : (Res.ok a r).fl g = g a r := nrfl rfl
@[simp] theorem seq_nx (g : DL.Env → Fl) : (Fl.nx r).seq g = g r := nrfl rfl
@[simp] theorem seq_rt (g : DL.Env → Fl) : (Fl.rt d r).seq g = .rt d r := nrfl rfl
@[simp] theorem opt_some (a : α) : opt (some a) r = .ok a r := nrfl rfl
@[simp] theorem opt_none : opt (none : Option α) r = .stk := nrfl rfl
@[simp] theorem eVar_ap : eVar i r = match r[i]? with
  | some (some d) => .ok d r
  | _ => .stk := nrfl rfl
@[simp] theorem eMv_ap : eMv i r = match r[i]? with
  | some (some d) => .ok d (r.set i none)
  | _ => .stk := nrfl rfl
@[simp] theorem eC_ap : eC d r = .ok d r := nrfl rfl
@[simp] theorem e1_ap (g : D → Option D) : e1 g f r = (f r).bind fun x r1 => opt (g x) r1 := nrfl rfl
@[simp] theorem e2_ap (g : D → D → Option D) : e2 g f h r = (f r).bind fun x r1 => (h r1).bind fun y r2 => opt (g x y) r2 := nrfl rfl
@[simp] theorem eIf_ap : eIf t f h r = (t r).bind fun b r1 => if b = true then f r1 else h r1 := nrfl rfl
@[simp] theorem aNil_ap : aNil r = .ok [] r := nrfl rfl
@[simp] theorem aCons_ap : aCons f k r = (f r).bind fun x r1 => (k r1).bind fun xs r2 => .ok (x :: xs) r2 := nrfl rfl
@[simp] theorem eA_ap (g : List D → Option D) : eA g k r = (k r).bind fun xs r1 => opt (g xs) r1 := nrfl rfl
@[simp] theorem tE_ap : tE f r = (f r).bind fun d r1 => opt (truth d) r1 := nrfl rfl
@[simp] theorem tAnd_ap : tAnd t u r = (t r).bind fun b r1 => if b = true then u r1 else .ok false r1 := nrfl rfl
@[simp] theorem tOr_ap : tOr t u r = (t r).bind fun b r1 => if b = true then .ok true r1 else u r1 := nrfl rfl
@[simp] theorem tNot_ap : tNot t r = (t r).bind fun b r1 => .ok (!b) r1 := nrfl rfl
@[simp] theorem boolT_ap : boolT f r = (f r).bind fun d r1 => opt (boolD d) r1 := nrfl rfl
@[simp] theorem eAnd_ap : eAnd f h r = (f r).bind fun x r1 => match x with
  | .bl true => h r1
  | .bl false => .ok (.bl false) r1
  | _ => .stk := nrfl rfl
@[simp] theorem eOr_ap : eOr f h r = (f r).bind fun x r1 => match x with
  | .bl false => h r1
  | .bl true => .ok (.bl true) r1
  | _ => .stk := nrfl rfl
@[simp] theorem eNot_ap : eNot f r = (f r).bind fun x r1 => opt ((truth x).map fun b => .bl (!b)) r1 := nrfl rfl
@[simp] theorem sNx_ap : sNx r = .nx r := nrfl rfl
@[simp] theorem sSeq_ap : sSeq s s' r = (s r).seq s' := nrfl rfl
@[simp] theorem sAsg_ap : sAsg i f r = (f r).fl fun d r1 => .nx (r1.set i (some d)) := nrfl rfl
@[simp] theorem sDrop_ap : sDrop f r = (f r).fl fun _ r1 => .nx r1 := nrfl rfl
@[simp] theorem sRet_ap : sRet f r = (f r).fl fun d r1 => .rt d r1 := nrfl rfl
@[simp] theorem sIf_ap : sIf t s s' r = (t r).fl fun b r1 => if b = true then s r1 else s' r1 := nrfl rfl
@[simp] theorem eCall_ap (mir : List D → Out) (mv : List (Option Nat)) : eCall mir mv k r = (k r).bind fun ds r1 => match mir ds with
  | .ok d ds' => .ok d (wb mv ds' r1)
  | .exc c fs => .exc c fs
  | .stk => .stk := nrfl rfl
@[simp] theorem mMv_ap : mMv i k r = match r[i]? with
  | some (some d) => (k (r.set i none)).bind fun ds r' => match r'[i]? with
    | some none => .ok (d :: ds) r'
    | _ => .stk
  | _ => .stk := nrfl rfl
@[simp] theorem wb_some (mv : List (Option Nat)) (x : Option D) (xs : DL.Env) : wb (some i :: mv) (x :: xs) r = wb mv xs (r.set i x) := nrfl rfl
@[simp] theorem wb_none (mv : List (Option Nat)) (x : Option D) (xs : DL.Env) : wb (none :: mv) (x :: xs) r = wb mv xs r := nrfl rfl
@[simp] theorem wb_nil (xs : DL.Env) : wb [] xs r = r := by cases xs <;> rfl
@[simp] theorem eView_ap : eView f r = match f r with
  | .ok d _ => if flat d = true then .ok d r else .stk
  | _ => .stk := nrfl rfl
@[simp] theorem tView_ap : tView t r = match t r with
  | .ok d _ => .ok d r
  | _ => .stk := nrfl rfl
@[simp] theorem flat_int (n : Int) : flat (.int n) = true := nrfl rfl
@[simp] theorem flat_bl (n : Bool) : flat (.bl n) = true := nrfl rfl
@[simp] theorem flat_str (n : Str) : flat (.str n) = true := nrfl rfl
@[simp] theorem flat_non : flat .non = true := nrfl rfl
@[simp] theorem eMeth_ap (isT : D → Bool) (g : D → List D → Option (D × D)) : eMeth isT i g k r = match r[i]? with
  | some (some d) => if isT d = true then (k r).bind fun ds r1 => match r1[i]? with
      | some (some d2) => match g d2 ds with
        | some (dr, d') => .ok dr (r1.set i (some d'))
        | none => .stk
      | _ => .stk
    else .stk
  | _ => .stk := nrfl rfl
@[simp] theorem isLst_lst (xs : List D) : isLst (.lst xs) = true := nrfl rfl
@[simp] theorem isDct_dct (b : Bool) (xs : List (D × D)) : isDct (.dct b xs) = true := nrfl rfl
@[simp] theorem g1_one (g : D → Option D) (x : D) : g1 g [x] = g x := nrfl rfl
@[simp] theorem g2_two (g : D → D → Option D) (x y : D) : g2 g [x, y] = g x y := nrfl rfl
@[simp] theorem boolD_bl (b : Bool) : boolD (.bl b) = some b := nrfl rfl
@[simp] theorem truth_bl (b : Bool) : truth (.bl b) = some b := nrfl rfl
@[simp] theorem gB_ap (p : D → D → Option Bool) (x y : D) : gB p x y = (p x y).map .bl := nrfl rfl
@[simp] theorem iB_int (p : Int → Int → Bool) (a b : Int) : iB p (.int a) (.int b) = some (p a b) := nrfl rfl
@[simp] theorem addD_int (a b : Int) : addD (.int a) (.int b) = some (.int (a + b)) := nrfl rfl
@[simp] theorem subD_int (a b : Int) : subD (.int a) (.int b) = some (.int (a - b)) := nrfl rfl
@[simp] theorem intD_int (a : Int) : intD (.int a) = some (.int a) := nrfl rfl
@[simp] theorem absD_int (a : Int) : absD (.int a) = some (.int (if a < 0 then -a else a)) := nrfl rfl
@[simp] theorem max2D_int (a b : Int) : max2D (.int a) (.int b) = some (.int (if b > a then b else a)) := nrfl rfl
@[simp] theorem min2D_int (a b : Int) : min2D (.int a) (.int b) = some (.int (if b < a then b else a)) := nrfl rfl
@[simp] theorem sAsgT_ap (tg : Tg) : sAsgT tg f r = (f r).fl fun d r1 => match tg.put d r1 with
  | some r2 => .nx r2
  | none => .stk := nrfl rfl
@[simp] theorem put_nm : (Tg.nm i).put d r = if i < r.length then some (r.set i (some d)) else none := by simp [Tg.put]
@[simp] theorem put_tp (ts : List Tg) (ds : List D) : (Tg.tp ts).put (.tup ds) r = Tg.putL ts ds r := by simp [Tg.put]
@[simp] theorem putL_nil : Tg.putL [] [] r = some r := by simp [Tg.putL]
@[simp] theorem putL_cons (tg : Tg) (ts : List Tg) (ds : List D) : Tg.putL (tg :: ts) (d :: ds) r = match tg.put d r with
  | some r1 => Tg.putL ts ds r1
  | none => none := by cases h : tg.put d r <;> simp [Tg.putL, h]
@[simp] theorem put_sb : (Tg.sb i f).put d r = match r[i]? with
  | some (some _) => match f r with
    | .ok ix r1 => match r1[i]? with
      | some (some c) => match setIx c ix d with
        | some c' => some (r1.set i (some c'))
        | none => none
      | _ => none
    | _ => none
  | _ => none := by
  first
    | (rw [Tg.put]; done)
    | (rw [Tg.put]
       generalize r[i]? = o
       rcases o with _ | _ | v
       · rfl
       · rfl
       · cases f r with
         | ok ix r1 =>
           dsimp only
           generalize r1[i]? = p
           rcases p with _ | _ | w <;> rfl
         | exc c fs => rfl
         | stk => rfl)
@[simp] theorem mkTup_le (xs : List D) (h : xs.length ≤ sizeLine) : mkTup xs = some (.tup xs) := by simp [mkTup, h]
@[simp] theorem mkLst_le (xs : List D) (h : xs.length ≤ sizeLine) : mkLst xs = some (.lst xs) := by simp [mkLst, h]
@[simp] theorem sPar_ap (j : Nat) : sPar i j k r = (k r).fl fun ds r1 => match ds with
  | [x, y] => .nx ((r1.set i (some x)).set j (some y))
  | _ => .stk := nrfl rfl
@[simp] theorem tYesD_ap : tYesD r = .ok true r := nrfl rfl
@[simp] theorem iE_ap : iE f r = (f r).bind fun d r1 => opt (itD d) r1 := nrfl rfl
@[simp] theorem itD_lst (xs : List D) : itD (.lst xs) = some xs := nrfl rfl
@[simp] theorem itD_tup (xs : List D) : itD (.tup xs) = some xs := nrfl rfl
@[simp] theorem maskE_nil (r : DL.Env) : maskE [] r = [] := by cases r <;> rfl
@[simp] theorem maskE_t (m : List Bool) (x : Option D) : maskE (true :: m) (x :: r) = x :: maskE m r := nrfl rfl
@[simp] theorem maskE_f (m : List Bool) (x : Option D) : maskE (false :: m) (x :: r) = none :: maskE m r := nrfl rfl
@[simp] theorem repl_one : List.replicate 1 (none : Option D) = [none] := nrfl rfl
end
@[simp] theorem eIsi_ap (t : String) (f : SE) (r : DL.Env) : eIsi t f r = (f r).bind fun x r1 => opt (isiD t x) r1 := nrfl rfl
@[simp] theorem eIsiT_ap (t : List String) (f : SE) (r : DL.Env) : eIsiT t f r = (f r).bind fun x r1 => opt (isiTD t x) r1 := nrfl rfl
theorem kb_ii : kitB "int" "int" = some true := by decide +kernel
theorem kb_ib : kitB "int" "bool" = some false := by decide +kernel
theorem kb_ss : kitB "str" "str" = some true := by decide +kernel
theorem kb_tt : kitB "tuple" "tuple" = some true := by decide +kernel
theorem kb_ll : kitB "list" "list" = some true := by decide +kernel
theorem kb_lt : kitB "list" "tuple" = some false := by decide +kernel
theorem kb_tl : kitB "tuple" "list" = some false := by decide +kernel
@[simp] theorem isi_ii (n : Int) : isiD "int" (.int n) = some (.bl true) := by simp [isiD, tyD, kb_ii]
@[simp] theorem isi_ib (n : Int) : isiD "bool" (.int n) = some (.bl false) := by simp [isiD, tyD, kb_ib]
@[simp] theorem isi_ss (n : Str) : isiD "str" (.str n) = some (.bl true) := by simp [isiD, tyD, kb_ss]
@[simp] theorem isi_tt (n : List D) : isiD "tuple" (.tup n) = some (.bl true) := by simp [isiD, tyD, kb_tt]
@[simp] theorem isi_ll (n : List D) : isiD "list" (.lst n) = some (.bl true) := by simp [isiD, tyD, kb_ll]
@[simp] theorem isit_l (n : List D) : isiTD ["list", "tuple"] (.lst n) = some (.bl true) := by simp [isiTD, tyD, kb_ll, kb_lt]
@[simp] theorem isit_t (n : List D) : isiTD ["list", "tuple"] (.tup n) = some (.bl true) := by simp [isiTD, tyD, kb_tl, kb_tt]
theorem small_le {n : Nat} (h : n ≤ 1000) : n ≤ sizeLine := Nat.le_trans h (by decide)
/-! ### loops and comprehensions by what they keep -/
theorem forL_inv {t : Tg} {body : SS} : ∀ {items : List D} {r : DL.Env} (I : Nat → DL.Env → Prop), I 0 r → (∀ (i : Nat) (d : D) (r : DL.Env), items[i]? = some d → I i r → ∃ r1 r2, t.put d r = some r1 ∧ body r1 = .nx r2 ∧ I (i + 1) r2) →
    ∃ r', forL t body items r = .nx r' ∧ I items.length r'
  | [], r, I, h, _ => ⟨r, rfl, h⟩
  | d :: ds, r, I, h, k => by
    obtain ⟨r1, r2, h1, h2, h3⟩ := k 0 d r rfl h
    obtain ⟨r', h4, h5⟩ := forL_inv (items := ds) (fun i r => I (i + 1) r) h3 fun i d r hd hi => k (i + 1) d r (by simpa using hd) hi
    refine ⟨r', ?_, h5⟩
    unfold forL
    rw [h1]
    dsimp only
    rw [h2]
    exact h4
theorem lcL_inv {t : Tg} {vs : List Nat} {ts : ST} {f : SE} : ∀ {items : List D} {r : DL.Env} (I : Nat → List D → DL.Env → Prop) (acc : List D), I 0 acc r →
    (∀ (i : Nat) (d : D) (acc : List D) (r : DL.Env), items[i]? = some d → I i acc r → ∃ r1, t.put d r = some r1 ∧ ((∃ r2, ts r1 = .ok false r2 ∧ I (i + 1) acc (wipeE r2 vs)) ∨ ∃ r2 x r3, ts r1 = .ok true r2 ∧ f r2 = .ok x r3 ∧ I (i + 1) (acc ++ [x]) (wipeE r3 vs))) →
    ∃ xs r', lcL t vs ts f items r = .ok xs r' ∧ I items.length (acc ++ xs) r'
  | [], r, I, acc, h, _ => ⟨[], r, rfl, by simpa using h⟩
  | d :: ds, r, I, acc, h, k => by
    obtain ⟨r1, h1, h2⟩ := k 0 d acc r rfl h
    rcases h2 with ⟨r2, h2, h3⟩ | ⟨r2, x, r3, h2, h3, h4⟩
    · obtain ⟨xs, r', h5, h6⟩ := lcL_inv (items := ds) (fun i a r => I (i + 1) a r) acc h3 fun i d a r hd hi => k (i + 1) d a r (by simpa using hd) hi
      refine ⟨xs, r', ?_, h6⟩
      unfold lcL
      simp [h1, h2, h5]
    · obtain ⟨xs, r', h5, h6⟩ := lcL_inv (items := ds) (fun i a r => I (i + 1) a r) (acc ++ [x]) h4 fun i d a r hd hi => k (i + 1) d a r (by simpa using hd) hi
      refine ⟨x :: xs, r', ?_, by simpa using h6⟩
      unfold lcL
      simp [h1, h2, h3, h5]
/-- nothing but the block's own slots is touched -/
theorem lcL_pure {t : Tg} {vs : List Nat} {ts : ST} {f : SE} {r : DL.Env} (p : D → Bool) (g : D → D) : ∀ {items : List D}, (∀ d ∈ items, ∃ r1, t.put d r = some r1 ∧ ts r1 = .ok (p d) r1 ∧ (p d = true → f r1 = .ok (g d) r1) ∧ wipeE r1 vs = r) → lcL t vs ts f items r = .ok ((items.filter p).map g) r
  | [], _ => rfl
  | d :: ds, h => by
    obtain ⟨r1, h1, h2, h3, h4⟩ := h d List.mem_cons_self
    have ih := lcL_pure (items := ds) p g fun e he => h e (List.mem_cons_of_mem _ he)
    unfold lcL
    cases hp : p d with
    | true => simp [h1, h2, hp, h3 hp, h4, ih]
    | false => simp [h1, h2, hp, h4, ih]
@[simp] theorem wipeE_nil (r : DL.Env) : wipeE r [] = r := nrfl rfl
@[simp] theorem wipeE_cons (r : DL.Env) (v : Nat) (vs : List Nat) : wipeE r (v :: vs) = (wipeE r vs).set v none := nrfl rfl
@[simp] theorem restE_nil (r r' : DL.Env) : restE r [] r' = r' := nrfl rfl
@[simp] theorem restE_cons (r r' : DL.Env) (v : Nat) (vs : List Nat) : restE r (v :: vs) r' = restE r vs (r'.set v ((wipeE r vs)[v]?.getD none)) := nrfl rfl
theorem eLc_ap (it : SI) (vs : List Nat) (t : Tg) (ts : ST) (f : SE) (r : DL.Env) : eLc it vs t ts f r = (it r).bind fun items r1 => bndN (lcL t vs ts f items (wipeE r1 vs)) fun xs r2 => if xs.length ≤ sizeLine then .ok (.lst xs) (restE r1 vs r2) else .stk := nrfl rfl
theorem sFor_ap (it : SI) (t : Tg) (body : SS) (r : DL.Env) : sFor it t body r = (it r).fl fun items r1 => forL t body items r1 := nrfl rfl
@[simp] theorem iRg1_ap (k : SA) (r : DL.Env) : iRg1 k r = (k r).bind fun ds r1 => opt (rg1 ds) r1 := nrfl rfl
@[simp] theorem iEn_ap (n : Int) (k : SA) (r : DL.Env) : iEn n k r = (k r).bind fun ds r1 => opt (enA n ds) r1 := nrfl rfl
@[simp] theorem iZp_ap (k : SA) (r : DL.Env) : iZp k r = (k r).bind fun ds r1 => opt (zpA ds) r1 := nrfl rfl
@[simp] theorem enA_lst (n : Int) (xs : List D) : enA n [.lst xs] = some (enD n xs) := nrfl rfl
@[simp] theorem enA_tup (n : Int) (xs : List D) : enA n [.tup xs] = some (enD n xs) := nrfl rfl
theorem rg1_int {n : Int} (h : okI n = true) : rg1 [.int n] = some (rngD 0 n) := by simp [rg1, h]
theorem rng_get {n : Int} {i : Nat} {d : D} (h : (rngD 0 n)[i]? = some d) : d = .int i ∧ (i : Int) < n := by
  unfold rngD at h
  rw [List.getElem?_map, Option.map_eq_some_iff] at h
  obtain ⟨j, h1, rfl⟩ := h
  obtain ⟨hl, h1⟩ := List.getElem?_eq_some_iff.mp h1
  rw [List.getElem_range] at h1
  rw [List.length_range] at hl
  subst h1
  exact ⟨by simp, by omega⟩
theorem rng_len {n : Int} (h : 0 ≤ n) : (rngD 0 n).length = n.toNat := by simp [rngD]
/-! ### plain data: equality is equality -/
noncomputable instance : DecidableEq D := fun a b => Classical.propDecidable (a = b)
mutual
def pl : Nat → D → Bool
  | _, .non => true
  | _, .int _ => true
  | _, .str x => PyData.strOk x
  | n + 1, .lst xs => plL n xs
  | n + 1, .tup xs => plL n xs
  | _, _ => false
def plL : Nat → List D → Bool
  | _, [] => true
  | n, x :: xs => pl n x && plL n xs
end
theorem plL_all {n : Nat} : ∀ {xs : List D}, plL n xs = true ↔ ∀ x ∈ xs, pl n x = true
  | [] => by simp [plL]
  | x :: xs => by simp [plL, plL_all (xs := xs)]
mutual
theorem pl_py : ∀ {n : Nat} {d : D}, pl n d = true → ∃ p, toPy d = some p ∧ p.canLay0 = true ∧ p.depth ≤ n
  | n, .non, _ => ⟨.none, rfl, rfl, Nat.zero_le _⟩
  | n, .int i, _ => ⟨.int i, rfl, rfl, Nat.zero_le _⟩
  | n, .str x, h => ⟨.str x, rfl, by cases n <;> simpa [pl, PyData.canLay0] using h, Nat.zero_le _⟩
  | n + 1, .lst xs, h => by
    obtain ⟨ps, h1, h2, h3⟩ := plL_py (n := n) (xs := xs) (by simpa [pl] using h)
    exact ⟨.list ps, by simp [toPy, h1], by simpa [PyData.canLay0] using h2, by simp [PyData.depth]; exact h3⟩
  | n + 1, .tup xs, h => by
    obtain ⟨ps, h1, h2, h3⟩ := plL_py (n := n) (xs := xs) (by simpa [pl] using h)
    exact ⟨.tuple ps, by simp [toPy, h1], by simpa [PyData.canLay0] using h2, by simp [PyData.depth]; exact h3⟩
  | 0, .lst xs, h => by simp [pl] at h
  | 0, .tup xs, h => by simp [pl] at h
  | 0, .bl _, h => by simp [pl] at h
  | n + 1, .bl _, h => by simp [pl] at h
  | 0, .ktup _, h => by simp [pl] at h
  | n + 1, .ktup _, h => by simp [pl] at h
  | 0, .klst _, h => by simp [pl] at h
  | n + 1, .klst _, h => by simp [pl] at h
  | 0, .dct _ _, h => by simp [pl] at h
  | n + 1, .dct _ _, h => by simp [pl] at h
  | 0, .ins _ _, h => by simp [pl] at h
  | n + 1, .ins _ _, h => by simp [pl] at h
  | 0, .opq _, h => by simp [pl] at h
  | n + 1, .opq _, h => by simp [pl] at h
theorem plL_py : ∀ {n : Nat} {xs : List D}, plL n xs = true → ∃ ps, toPyL xs = some ps ∧ PyData.canLayAll0 ps = true ∧ PyData.depthAll ps ≤ n
  | n, [], _ => ⟨[], rfl, rfl, Nat.zero_le _⟩
  | n, x :: xs, h => by
    simp only [plL, Bool.and_eq_true] at h
    obtain ⟨p, h1, h2, h3⟩ := pl_py h.1
    obtain ⟨ps, h4, h5, h6⟩ := plL_py h.2
    exact ⟨p :: ps, by simp [toPyL, h1, h4], by simp [PyData.canLayAll0, h2, h5], by simp [PyData.depthAll]; omega⟩
end
theorem plL_eqv {n : Nat} (ih : ∀ (m : Nat) (a b : D) (p q : PyData), pl n a = true → pl m b = true → toPy a = some p → toPy b = some q → (PyData.eqv p q = true ↔ a = b)) :
    ∀ (m : Nat) (xs ys : List D) (ps qs : List PyData), plL n xs = true → plL m ys = true → toPyL xs = some ps → toPyL ys = some qs → (PyData.eqvAll ps qs = true ↔ xs = ys)
  | m, [], [], ps, qs, _, _, e1, e2 => by cases e1; cases e2; simp [PyData.eqvAll]
  | m, x :: xs, y :: ys, ps, qs, h1, h2, e1, e2 => by
    simp only [plL, Bool.and_eq_true] at h1 h2
    obtain ⟨p, f1, _⟩ := pl_py h1.1
    obtain ⟨q, f2, _⟩ := pl_py h2.1
    obtain ⟨ps', f3, _⟩ := plL_py h1.2
    obtain ⟨qs', f4, _⟩ := plL_py h2.2
    simp [toPyL, f1, f3] at e1
    simp [toPyL, f2, f4] at e2
    subst e1 e2
    have a := ih m x y p q h1.1 h2.1 f1 f2
    have b := plL_eqv ih m xs ys ps' qs' h1.2 h2.2 f3 f4
    simp [PyData.eqvAll, a, b]
  | m, [], y :: ys, ps, qs, h1, h2, e1, e2 => by
    simp only [plL, Bool.and_eq_true] at h2
    obtain ⟨q, f2, _⟩ := pl_py h2.1
    obtain ⟨qs', f4, _⟩ := plL_py h2.2
    simp [toPyL, f2, f4] at e2
    cases e1
    subst e2
    simp [PyData.eqvAll]
  | m, x :: xs, [], ps, qs, h1, h2, e1, e2 => by
    simp only [plL, Bool.and_eq_true] at h1
    obtain ⟨q, f2, _⟩ := pl_py h1.1
    obtain ⟨qs', f4, _⟩ := plL_py h1.2
    simp [toPyL, f2, f4] at e1
    cases e2
    subst e1
    simp [PyData.eqvAll]
theorem pl_eqv : ∀ (n m : Nat) (a b : D) (p q : PyData), pl n a = true → pl m b = true → toPy a = some p → toPy b = some q → (PyData.eqv p q = true ↔ a = b) := by
  intro n
  induction n with
  | zero =>
    intro m a b p q ha hb e1 e2
    cases a <;> simp [pl] at ha <;> cases b <;> (try (cases m <;> simp [pl] at hb; done)) <;> simp [toPy] at e1 e2 <;> subst e1
    all_goals first
      | (subst e2; simp [PyData.eqv]; done)
      | (obtain ⟨ps, h1, rfl⟩ := e2; simp [PyData.eqv]; done)
  | succ n ih =>
    have ihL := plL_eqv ih
    intro m a b p q ha hb e1 e2
    cases a <;> simp [pl] at ha <;> cases b <;> (try (cases m <;> simp [pl] at hb; done)) <;> simp [toPy] at e1 e2
    all_goals first
      | (subst e1; subst e2; simp [PyData.eqv]; done)
      | (subst e1; obtain ⟨ps, h1, rfl⟩ := e2; simp [PyData.eqv]; done)
      | (obtain ⟨ps, h1, rfl⟩ := e1; subst e2; simp [PyData.eqv]; done)
      | skip
    all_goals
      obtain ⟨ps, h1, rfl⟩ := e1
      obtain ⟨qs, h2, rfl⟩ := e2
      cases m with
      | zero => simp [pl] at hb
      | succ m =>
        simp [pl] at hb
        first
          | (simp [PyData.eqv, ihL m _ _ _ _ ha hb h1 h2]; done)
          | (simp [PyData.eqv]; done)
theorem shp_pl {d : D} (h : pl 60 d = true) : ∃ p, shp d = some p ∧ toPy d = some p := by
  obtain ⟨p, h1, h2, h3⟩ := pl_py h
  refine ⟨p, ?_, h1⟩
  unfold shp
  rw [h1]
  have : SeqAt.shaped p = true := by simp [SeqAt.shaped, h2]; omega
  simp [this]
theorem eqD_pl {a b : D} (ha : pl 60 a = true) (hb : pl 60 b = true) : eqD a b = some (decide (a = b)) := by
  obtain ⟨p, h1, h2⟩ := shp_pl ha
  obtain ⟨q, h3, h4⟩ := shp_pl hb
  have := pl_eqv 60 60 a b p q ha hb h2 h4
  simp [eqD, h1, h3]
  rw [Bool.eq_iff_iff, this]
  simp
theorem pl_mono {n : Nat} : ∀ {d : D} {m : Nat}, pl n d = true → n ≤ m → pl m d = true := by
  induction n with
  | zero => intro d m h _; cases d <;> cases m <;> simp_all [pl]
  | succ n ih =>
    intro d m h hm
    cases m with
    | zero => omega
    | succ m =>
      cases d <;> simp_all [pl]
      · rw [plL_all] at h ⊢; exact fun x hx => ih (h x hx) hm
      · rw [plL_all] at h ⊢; exact fun x hx => ih (h x hx) hm
theorem anyEq_pl {x : D} {p : PyData} (hx : pl 60 x = true) (hp : toPy x = some p) : ∀ {ys : List D} {qs : List PyData}, plL 59 ys = true → toPyL ys = some qs → anyEq p qs = decide (x ∈ ys)
  | [], qs, _, e => by cases e; simp [anyEq]
  | y :: ys, qs, h, e => by
    simp only [plL, Bool.and_eq_true] at h
    obtain ⟨q, f2, _⟩ := pl_py h.1
    obtain ⟨qs', f4, _⟩ := plL_py h.2
    simp [toPyL, f2, f4] at e
    subst e
    have ih := anyEq_pl hx hp h.2 f4
    have a := pl_eqv 59 60 y x q p h.1 hx f2 hp
    unfold anyEq at ih ⊢
    rw [List.any_cons, ih, Bool.eq_iff_iff]
    simp only [Bool.or_eq_true, a, decide_eq_true_eq, List.mem_cons]
    constructor
    · rintro (rfl | h)
      · exact .inl rfl
      · exact .inr h
    · rintro (rfl | h)
      · exact .inl rfl
      · exact .inr h
theorem inD_lst {x : D} {ys : List D} (hx : pl 60 x = true) (hy : plL 59 ys = true) : inD x (.lst ys) = some (decide (x ∈ ys)) := by
  obtain ⟨p, h1, h2⟩ := shp_pl hx
  obtain ⟨q, h3, h4⟩ := shp_pl (d := .lst ys) (by simpa [pl] using hy)
  obtain ⟨qs, f1, _⟩ := plL_py hy
  simp [toPy, f1] at h4
  subst h4
  simp [inD, h1, h3, anyEq_pl hx h2 hy f1]
theorem inD_tup {x : D} {ys : List D} (hx : pl 60 x = true) (hy : plL 59 ys = true) : inD x (.tup ys) = some (decide (x ∈ ys)) := by
  obtain ⟨p, h1, h2⟩ := shp_pl hx
  obtain ⟨q, h3, h4⟩ := shp_pl (d := .tup ys) (by simpa [pl] using hy)
  obtain ⟨qs, f1, _⟩ := plL_py hy
  simp [toPy, f1] at h4
  subst h4
  simp [inD, h1, h3, anyEq_pl hx h2 hy f1]
end DL
set_option Elab.async false
set_option linter.all false
set_option autoImplicit false
/-! the data layer: more equations for simp -/
namespace DL
open PySem PySem.Spec PyProof.Rows L2
section
variable {α β : Type} {r : DL.Env} {i : Nat} {d : D} {f h : SE} {t u : ST} {k kk : SA} {s s' : SS} {cn m : Str} {mir : List D → Out} {n : Nat}
@[simp] theorem eSl_ap (lo hi : SO) : eSl f lo hi r = (f r).bind fun x r1 => (lo r1).bind fun l r2 => (hi r2).bind fun h r3 => opt (slD x l h) r3 := nrfl rfl
@[simp] theorem oNone_ap : oNone r = .ok none r := nrfl rfl
@[simp] theorem oInt_ap : oInt f r = (f r).bind fun d r1 => match d with
  | .int i => .ok (some i) r1
  | _ => .stk := nrfl rfl
@[simp] theorem slD_lst (xs : List D) (lo hi : Option Int) : slD (.lst xs) lo hi = some (.lst (cutD xs lo hi)) := nrfl rfl
@[simp] theorem slD_tup (xs : List D) (lo hi : Option Int) : slD (.tup xs) lo hi = some (.tup (cutD xs lo hi)) := nrfl rfl
theorem cut_to {xs : List D} {n : Nat} (h : n ≤ xs.length) : cutD xs none (some (n : Int)) = xs.take n := by
  simp only [cutD, HT.sIx_nat, HT.sIx_none]
  simp
theorem cut_from {xs : List D} {n : Nat} (h : n ≤ xs.length) : cutD xs (some (n : Int)) none = xs.drop n := by
  simp only [cutD, HT.sIx_nat, HT.sIx_none]
  rw [Nat.min_eq_left h, List.take_of_length_le (by simp)]
@[simp] theorem eCh2_ap (g g' : D → D → Option D) (fa fb fc : SE) : eCh2 g g' fa fb fc r = (fa r).bind fun x r1 => (fb r1).bind fun y r2 => match g x y with
  | some (.bl true) => (fc r2).bind fun z r3 => opt (g' y z) r3
  | some (.bl false) => .ok (.bl false) r2
  | _ => .stk := nrfl rfl
@[simp] theorem eCh3_ap (g g' g'' : D → D → Option D) (fa fb fc fd : SE) : eCh3 g g' g'' fa fb fc fd r = (fa r).bind fun x r1 => (fb r1).bind fun y r2 => match g x y with
  | some (.bl true) => (fc r2).bind fun z r3 => match g' y z with
    | some (.bl true) => (fd r3).bind fun u r4 => opt (g'' z u) r4
    | some (.bl false) => .ok (.bl false) r3
    | _ => .stk
  | some (.bl false) => .ok (.bl false) r2
  | _ => .stk := nrfl rfl
@[simp] theorem eMake_ap : eMake cn n mir k r = (k r).bind fun ds r1 => if ds.length = n then (match mir (.ins cn [] :: ds) with
  | .ok .non (some d :: _) => .ok d r1
  | .exc c fs => .exc c fs
  | _ => .stk) else .stk := nrfl rfl
@[simp] theorem mirN_ap (ds : List D) : mirN n mir ds r = if ds.length = n then mirOk mir ds r else .stk := nrfl rfl
@[simp] theorem mirOk_ap (ds : List D) : mirOk mir ds r = match mir ds with
  | .ok d _ => .ok d r
  | .exc c fs => .exc c fs
  | .stk => .stk := nrfl rfl
@[simp] theorem callI_ins (fs : List (Str × D)) (x : D) : callI cn mir (.ins cn fs) x r = mirOk mir [.ins cn fs, x] r := by simp [callI]
def methX (cn m : Str) (n : Nat) (mir : List D → Out) (k : SA) (d : D) (r1 : DL.Env) : Res D := match d with
  | .ins c fs => if c = cn then (match lkF m fs with
      | none => (k r1).bind fun ds r2 => mirN n mir (d :: ds) r2
      | some _ => .stk) else .stk
  | _ => .stk
@[simp] theorem eMethI_ap : eMethI cn m n mir f k r = (f r).bind (methX cn m n mir k) := nrfl rfl
theorem methX_ins (fs : List (Str × D)) : methX cn m n mir k (.ins cn fs) r = match lkF m fs with
      | none => (k r).bind fun ds r2 => mirN n mir (.ins cn fs :: ds) r2
      | some _ => .stk := by simp [methX]
def propX (cn : Str) (mir : List D → Out) (d : D) (r1 : DL.Env) : Res D := match d with
  | .ins c _ => if c = cn then (match mir [d] with
      | .ok z _ => .ok z r1
      | _ => .stk) else .stk
  | _ => .stk
@[simp] theorem eProp_ap : eProp cn mir f r = (f r).bind (propX cn mir) := nrfl rfl
theorem propX_ins (fs : List (Str × D)) : propX cn mir (.ins cn fs) r = match mir [.ins cn fs] with
      | .ok z _ => .ok z r
      | _ => .stk := by simp [propX]
def lenR (z : D) (r2 : DL.Env) : Res D := match z with
      | .int i => if 0 ≤ i ∧ i < 2 ^ 63 then .ok (.int i) r2 else .stk
      | _ => .stk
theorem lenR_int (j : Int) : lenR (.int j) r = if 0 ≤ j ∧ j < 2 ^ 63 then .ok (.int j) r else .stk := rfl
def lenX (cn : Str) (mir : List D → Out) (d : D) (r1 : DL.Env) : Res D := match d with
  | .ins c _ => if c = cn then (mirOk mir [d] r1).bind lenR else .stk
  | _ => .stk
@[simp] theorem eLenI_ap : eLenI cn mir f r = (f r).bind (lenX cn mir) := congrFun (rfl : eLenI cn mir f = fun r => (f r).bind (lenX cn mir)) r
theorem if63 {α : Type} (a b : α) {n : Nat} (h : n ≤ 100) : (if 0 ≤ (n : Int) ∧ (n : Int) < 2 ^ 63 then a else b) = a := by
  rw [if_pos]
  have h63 : (2 : Int) ^ 63 = 9223372036854775808 := by decide +kernel
  rw [h63]
  exact ⟨by omega, by omega⟩
theorem lenX_ins {fs : List (Str × D)} {n : Nat} {ds : DL.Env} (h : mir [.ins cn fs] = .ok (.int (n : Int)) ds) (hn : n ≤ 100) : lenX cn mir (.ins cn fs) r = .ok (.int n) r := by
  have e : lenX cn mir (.ins cn fs) r = (mirOk mir [.ins cn fs] r).bind lenR := by simp [lenX]
  rw [e, mirOk_ap, h]
  dsimp only
  rw [bind_ok, lenR_int, if63 _ _ hn]
@[simp] theorem eInI_ap (neg : Bool) : eInI neg cn mir f h r = (f r).bind fun x r1 => (h r1).bind fun y r2 => (callI cn mir y x r2).bind fun z r3 => match z with
  | .bl b => .ok (.bl (if neg = true then !b else b)) r3
  | _ => .stk := nrfl rfl
@[simp] theorem eBinI_ap (cn T : String) : eBinI cn T mir f h r = (f r).bind fun x r1 => (h r1).bind fun y r2 => if tyD y = some T then callI cn mir x y r2 else .stk := nrfl rfl
@[simp] theorem eEqI_ap : eEqI cn mir f h r = (f r).bind fun x r1 => (h r1).bind fun y r2 => if okEq cn y = true then callI cn mir x y r2 else .stk := nrfl rfl
@[simp] theorem okEq_ins (fs : List (Str × D)) : okEq cn (.ins cn fs) = true := by simp [okEq]
@[simp] theorem isiOD_ins (fs : List (Str × D)) : isiOD cn (.ins cn fs) = some (.bl true) := by simp [isiOD]
@[simp] theorem tyD_tup (xs : List D) : tyD (.tup xs) = some "tuple" := nrfl rfl
@[simp] theorem tyD_lst (xs : List D) : tyD (.lst xs) = some "list" := nrfl rfl
@[simp] theorem sFldI_ap : sFldI i m f r = (f r).fl fun d r1 => match r1[i]? with
  | some (some (.ins c fs)) => if fs.length < 1000 then .nx (r1.set i (some (.ins c (putFD m d fs)))) else .stk
  | _ => .stk := nrfl rfl
@[simp] theorem fldD_ins (fs : List (Str × D)) : fldD cn m (.ins cn fs) = lkF m fs := by simp [fldD]
@[simp] theorem lkF_nil : lkF m [] = none := nrfl rfl
theorem lkF_cons (p : Str × D) (fs : List (Str × D)) : lkF m (p :: fs) = if m == p.1 then some p.2 else lkF m fs := rfl
@[simp] theorem aStar_ap : aStar f k r = (f r).bind fun d r1 => match itemsD d with
  | some xs => (k r1).bind fun ds r2 => .ok (xs ++ ds) r2
  | none => .stk := nrfl rfl
@[simp] theorem itemsD_lst (xs : List D) : itemsD (.lst xs) = some xs := nrfl rfl
@[simp] theorem itemsD_tup (xs : List D) : itemsD (.tup xs) = some xs := nrfl rfl
@[simp] theorem eCallK_ap (nu : Nat) (perm : List Nat) : eCallK n mir nu perm k kk r = (k r).bind fun us r1 => (kk r1).bind fun ws r2 => mirN n mir (kwG nu perm us ws) r2 := nrfl rfl
@[simp] theorem eRep_ap : eRep f h r = e2 repLD f h r := nrfl rfl
theorem eDc_ap (it : SI) (vs : List Nat) (t : Tg) (ts : ST) (fk f : SE) (r : DL.Env) : eDc it vs t ts fk f r = (it r).bind fun items r1 => bndN (dcL t vs ts fk f items [] (wipeE r1 vs)) fun kds r2 => .ok (.dct false kds) (restE r1 vs r2) := nrfl rfl
@[simp] theorem lenD_lst (xs : List D) : lenD (.lst xs) = some (.int xs.length) := nrfl rfl
@[simp] theorem lenD_tup (xs : List D) : lenD (.tup xs) = some (.int xs.length) := nrfl rfl
@[simp] theorem listD_lst (xs : List D) : listD (.lst xs) = some (.lst xs) := nrfl rfl
@[simp] theorem listD_tup (xs : List D) : listD (.tup xs) = some (.lst xs) := nrfl rfl
@[simp] theorem tupleD_lst (xs : List D) : tupleD (.lst xs) = some (.tup xs) := nrfl rfl
@[simp] theorem tupleD_tup (xs : List D) : tupleD (.tup xs) = some (.tup xs) := nrfl rfl
@[simp] theorem iB_le (a b : Int) : iB (fun i j => decide (i ≤ j)) (.int a) (.int b) = some (decide (a ≤ b)) := nrfl rfl
@[simp] theorem ltD_int (a b : Int) : ltD (.int a) (.int b) = some (decide (a < b)) := nrfl rfl
end
theorem pl_int (n : Nat) (i : Int) : pl n (.int i) = true := by cases n <;> rfl
theorem eqD_int (a b : Int) : eqD (.int a) (.int b) = some (decide (a = b)) := by
  rw [eqD_pl (pl_int 60 a) (pl_int 60 b)]
  simp
theorem ix_tup0 (x : D) (xs : List D) : ixD (.tup (x :: xs)) (.int 0) = some x := by simp [ixD, atI, ixN]
theorem ix_tup1 (x y : D) (xs : List D) : ixD (.tup (x :: y :: xs)) (.int 1) = some y := by
  have : (1 : Int) < (xs.length + 1 + 1 : Int) := by omega
  simp [ixD, atI, ixN, this]
theorem ix_tup2 (x y z : D) (xs : List D) : ixD (.tup (x :: y :: z :: xs)) (.int 2) = some z := by
  have : (2 : Int) < (xs.length + 1 + 1 + 1 : Int) := by omega
  simp [ixD, atI, ixN, this]
theorem ix_tup3 (x y z u : D) (xs : List D) : ixD (.tup (x :: y :: z :: u :: xs)) (.int 3) = some u := by
  have : (3 : Int) < (xs.length + 1 + 1 + 1 + 1 : Int) := by omega
  simp [ixD, atI, ixN, this]
theorem ix_lstG {xs : List D} {k : Nat} (h : k < xs.length) : ixD (.lst xs) (.int (k : Int)) = some xs[k] := by simp [ixD, atI, ixN, h]
theorem boolsD_map {α : Type} (p : α → Bool) : ∀ xs : List α, boolsD (xs.map fun x => .bl (p x)) = some (xs.map p)
  | [] => rfl
  | x :: xs => by simp [boolsD, boolsD_map p xs]
theorem intsD_map {α : Type} (p : α → Int) : ∀ xs : List α, intsD (xs.map fun x => .int (p x)) = some (xs.map p)
  | [] => rfl
  | x :: xs => by simp [intsD, intsD_map p xs]
theorem en_get {k : Int} {xs : List D} {i : Nat} {d : D} (h : (enD k xs)[i]? = some d) : ∃ x, xs[i]? = some x ∧ d = .tup [.int (k + (i : Int)), x] := by
  unfold enD at h
  rw [List.getElem?_mapIdx, Option.map_eq_some_iff] at h
  obtain ⟨x, h1, h2⟩ := h
  exact ⟨x, h1, h2.symm⟩
theorem en_len (k : Int) (xs : List D) : (enD k xs).length = xs.length := by simp [enD]
/-- a block over items that leaves no trace -/
theorem lcL_map {t : Tg} {vs : List Nat} {f : SE} {r : DL.Env} {items : List D} (g : D → D) (h : ∀ d ∈ items, ∃ r1 r2, t.put d r = some r1 ∧ f r1 = .ok (g d) r2 ∧ wipeE r2 vs = r) : lcL t vs tYesD f items r = .ok (items.map g) r := by
  induction items with
  | nil => rfl
  | cons d ds ih =>
    obtain ⟨r1, r2, h1, h2, h3⟩ := h d List.mem_cons_self
    unfold lcL
    simp [h1, h2, h3, ih fun e he => h e (List.mem_cons_of_mem _ he)]
@[simp] theorem mLt_ap {r : DL.Env} (i : Nat) (k : SA) : mLt i k r = match r[i]? with
  | some (some _) => (k r).bind fun ds r' => match r'[i]? with
    | some (some d) => .ok (d :: ds) (r'.set i none)
    | _ => .stk
  | _ => .stk := nrfl rfl
end DL
set_option Elab.async false
set_option linter.all false
set_option autoImplicit false
/-! the data layer: slots that are forgotten; loops by a state -/
namespace DL
open PySem PySem.Spec PyProof.Rows L2
def killE (ks : List Nat) (r : DL.Env) : DL.Env := ks.foldr (fun i r => r.set i none) r
def sKill (ks : List Nat) : SS := fun r => .nx (killE ks r)
@[simp] theorem killE_nil (r : DL.Env) : killE [] r = r := nrfl rfl
@[simp] theorem killE_cons (i : Nat) (ks : List Nat) (r : DL.Env) : killE (i :: ks) r = (killE ks r).set i none := nrfl rfl
@[simp] theorem sKill_ap (ks : List Nat) (r : DL.Env) : sKill ks r = .nx (killE ks r) := nrfl rfl
section
variable {X : Cx} {W : WX} {C : Cfg} {R : Rt} {G G1 : List O} {st : Stmt} {sts : List Stmt} {f : SS}
theorem EnvX.clear1 {T : List Cell} {F P H : Hp} {Lk : Lock} {r : DL.Env} {σ : L2.St} (h : EnvX C T F P Lk G r σ H) (i : Nat) : EnvX C T F P Lk G (r.set i none) σ H := by
  obtain ⟨L, e, s⟩ := h
  obtain ⟨L', U, a, p⟩ := e.clear i
  refine ⟨L', a, ?_⟩
  have s2 : Stt C F P Lk (U ++ (T ++ L')) H := s.perm ((p.append_left T).trans (by rw [← List.append_assoc, ← List.append_assoc]; exact List.perm_append_comm.append_right L'))
  exact s2.drop
theorem EnvX.kill {T : List Cell} {F P H : Hp} {Lk : Lock} {r : DL.Env} {σ : L2.St} (h : EnvX C T F P Lk G r σ H) : ∀ ks : List Nat, EnvX C T F P Lk G (killE ks r) σ H
  | [] => h
  | i :: ks => (EnvX.kill h ks).clear1 i
theorem ds_kill {ks : List Nat} (h : PSs X sts (tDS C W R G f G1)) : PSs X sts (tDS C W R G (sSeq f (sKill ks)) G1) := by
  refine PSs_weak h fun D σ H q => ?_
  obtain ⟨F, P, Lk, r, E, q⟩ := q
  exact ⟨F, P, Lk, r, E, (RF.seq q).mono (fun r' q σ' F' H' x k E' => q σ' F' H' x k (E'.kill ks)) fun _ _ q => q⟩
theorem ds_pre {ks : List Nat} (h : PS X st (tDS C W R G f G1)) : PS X st (tDS C W R G (sSeq (sKill ks) f) G1) := by
  refine PS_weak h fun D σ H q => ?_
  obtain ⟨F, P, Lk, r, E, q⟩ := q
  exact ⟨F, P, Lk, killE ks r, E.kill ks, q⟩
end
/-- a loop by its state -/
theorem forL_st {S : Type} {t : Tg} {body : SS} (env : S → DL.Env) : ∀ {items : List D} (I : Nat → S → Prop) (s0 : S), I 0 s0 → (∀ (i : Nat) (d : D) (s : S), items[i]? = some d → I i s → ∃ r1 s', t.put d (env s) = some r1 ∧ body r1 = .nx (env s') ∧ I (i + 1) s') →
    ∃ s', forL t body items (env s0) = .nx (env s') ∧ I items.length s'
  | [], I, s0, h, _ => ⟨s0, rfl, h⟩
  | d :: ds, I, s0, h, k => by
    obtain ⟨r1, s1, h1, h2, h3⟩ := k 0 d s0 rfl h
    obtain ⟨s', h4, h5⟩ := forL_st env (items := ds) (fun i s => I (i + 1) s) s1 h3 fun i d s hd hi => k (i + 1) d s (by simpa using hd) hi
    refine ⟨s', ?_, h5⟩
    unfold forL
    rw [h1]
    dsimp only
    rw [h2]
    exact h4
theorem forL_fold {S : Type} {t : Tg} {body : SS} (env : S → DL.Env) (φ : S → D → S) (I : S → Prop) : ∀ {items : List D} (s0 : S), I s0 → (∀ d ∈ items, ∀ s, I s → I (φ s d) ∧ ∃ r1, t.put d (env s) = some r1 ∧ body r1 = .nx (env (φ s d))) →
    forL t body items (env s0) = .nx (env (items.foldl φ s0)) ∧ I (items.foldl φ s0)
  | [], s0, h, _ => ⟨rfl, h⟩
  | d :: ds, s0, h, k => by
    obtain ⟨h3, r1, h1, h2⟩ := k d List.mem_cons_self s0 h
    have ih := forL_fold env φ I (items := ds) (φ s0 d) h3 fun e he => k e (List.mem_cons_of_mem _ he)
    refine ⟨?_, ih.2⟩
    unfold forL
    rw [h1]
    dsimp only
    rw [h2]
    exact ih.1
end DL
set_option Elab.async false
set_option linter.all false
set_option autoImplicit false
set_option maxHeartbeats 1000000
/-! the data layer, part 20: walks over dicts -/
namespace DL
open PySem PySem.Spec PyProof.Rows L2
variable {C : Cfg}
section
variable {X : Cx} {W : WX} {G : List O} {e tg : Expr} {pos apos cpos : Pos} {F F' P H : Hp} {Lk : Lock} {L : List Cell} {r : DL.Env} {σ : L2.St}
/-- a thing may be locked behind an expression -/
theorem pe_lockO {t : TE} (h : PE X e t) : PE X e (fun σ H Q => t σ H fun v H1 => Q v H1 ∨ ∃ d u, H1 d = some u ∧ isDc u = true ∧ ∀ od, Q v (upd H1 d (.frz od u))) := ⟨fun pins s σ H Q I hw => by
  refine thn (h.run pins s σ H _ I hw) fun v s1 hv => ?_
  obtain ⟨x, H1, I1, r1, q⟩ := hv
  rcases q with q | ⟨d, u, hd, du, q⟩
  · exact ⟨x, H1, I1, r1, q⟩
  · obtain ⟨od, I2⟩ := I1.lock hd (mut_dc du)
    exact ⟨x, _, I2, r1, q od⟩⟩
theorem EnvX.lockZ {T : List Cell} {q : Addr} {u : HO} (h : EnvX C T F P Lk G r σ H) (e : F q = some u) (d : isDc u = true) (od : Obj) : Ext F (upd F q (.frz od u)) ∧ EnvX C T (upd F q (.frz od u)) P Lk G r σ (upd H q (.frz od u)) := by
  obtain ⟨L, E, S⟩ := h
  obtain ⟨x, S2⟩ := S.lockZ e d od
  exact ⟨x, L, E, S2⟩
theorem zip_get {α β : Type} {xs : List α} {ys : List β} (l : xs.length = ys.length) {i : Nat} {a : α} (h : xs[i]? = some a) : ∃ b, ys[i]? = some b ∧ (xs.zip ys)[i]? = some (a, b) := by
  have hi := (List.getElem?_eq_some_iff.mp h).1
  refine ⟨ys[i]'(by omega), List.getElem?_eq_getElem (by omega), ?_⟩
  rw [List.getElem?_zip_eq_some]
  exact ⟨h, List.getElem?_eq_getElem (by omega)⟩
/-! keys -/
def keysD : D → Option (List D)
  | .dct _ kvs => some (kvs.map (·.1))
  | _ => none
def iKs (f : SE) : SI := fun r => (f r).bind fun d r1 => opt (keysD d) r1
theorem zip_fst {α β : Type} : ∀ {xs : List α} {ys : List β}, xs.length = ys.length → (xs.zip ys).map (·.1) = xs
  | [], _, _ => by simp
  | x :: xs, y :: ys, h => by simp [zip_fst (xs := xs) (ys := ys) (by simpa using h)]
  | x :: xs, [], h => by simp at h
theorem zip_snd {α β : Type} : ∀ {xs : List α} {ys : List β}, xs.length = ys.length → (xs.zip ys).map (·.2) = ys
  | [], [], _ => by simp
  | [], y :: ys, h => by simp at h
  | x :: xs, y :: ys, h => by simp [zip_snd (xs := xs) (ys := ys) (by simpa using h)]
  | x :: xs, [], h => by simp at h
theorem yld_keys {a : Addr} {o : Obj} {kvs : List (Key × V)} (h : F a = some (.frz o (.dK kvs))) : Yld C (Itk a o kvs) F (kvs.map fun p => keyD p.1) where
  go := fun i F2 P Lk L H e S hi => ⟨S.at (e.at h rfl), by simpa using hi⟩
  stop := fun F2 P Lk L H e S => ⟨S.at (e.at h rfl), by simp⟩
  yld := fun i F2 P Lk L H v H' e S hi y => by
    obtain ⟨e1, k, w, hk, ev⟩ := y
    subst e1 ev
    refine ⟨F2, keyD k, Ext.refl _, by simp [hk], ?_, S⟩
    cases k with
    | inl i => exact .int i
    | inr x => exact .str x
theorem repL_keys {F : Hp} : ∀ ks : List Key, RepL C F (ks.map kV) (ks.map keyD)
  | [] => .nil
  | .inl i :: ks => .cons (.int i) (repL_keys ks)
  | .inr i :: ks => .cons (.str i) (repL_keys ks)
theorem yld_keysT {a : Addr} {o : Obj} {kvs : List (List Key × V)} (h : F a = some (.frz o (.dT kvs))) : Yld C (Itkt a o kvs) F (kvs.map fun p => tupD p.1) where
  go := fun i F2 P Lk L H e S hi => ⟨S.at (e.at h rfl), by simpa using hi⟩
  stop := fun F2 P Lk L H e S => ⟨S.at (e.at h rfl), by simp⟩
  yld := fun i F2 P Lk L H v H' e S hi y => by
    obtain ⟨e1, k, w, q, hk, ev, hq⟩ := y
    subst e1 ev
    obtain ⟨F3, x3, h3, S3⟩ := S.adopt hq
    exact ⟨F3, tupD k, x3, by simp [hk], .tup h3 (repL_keys k), S3⟩
theorem di_keys {f : SE} (he : PE X e (tD C W G f .z)) : PI X tg e (tDI C W G (iKs f)) := by
  have hk := pi_keys (tg := tg) (pe_lockO he)
  refine ⟨fun pins s σ H R I q => hk.run pins s σ H R I ?_⟩
  obtain ⟨F, P, Lk, r, E, q⟩ := q
  refine ⟨F, P, Lk, r, E, (RD.bind (k := fun d r1 => opt (keysD d) r1) q).mono fun d r1 q1 v F1 H1 x1 E0 => ?_⟩
  obtain ⟨items, e3, q3⟩ := RD_opt q1
  obtain ⟨R1, E1⟩ := E0.rep
  clear E0
  cases R1 with
  | @dK a kvs ds h rr =>
    cases e3
    have l : kvs.length = ds.length := by simpa using rr.length
    have ez : ((kvs.map fun p => keyD p.1).zip ds).map (·.1) = kvs.map fun p => keyD p.1 := zip_fst (by simpa using l)
    rw [ez] at q3
    rcases h with h | ⟨ob, h⟩
    · have ha : H1 a = some (.dK kvs) := E1.choose_spec.2.at h
      refine .inr ⟨a, _, ha, rfl, fun od => ⟨a, od, rfl, .inl ⟨kvs, upd_same, ?_⟩⟩⟩
      obtain ⟨x2, E2⟩ := E1.lockZ h rfl od
      exact q3 _ _ _ (x1.trans x2) E2 (yld_keys upd_same)
    · have ha : H1 a = some (.frz ob (.dK kvs)) := E1.choose_spec.2.at h
      exact .inl ⟨a, ob, rfl, .inl ⟨kvs, ha, q3 _ _ _ x1 E1 (yld_keys h)⟩⟩
  | @dT a kvs ds h rr =>
    cases e3
    have l : kvs.length = ds.length := by simpa using rr.length
    have ez : ((kvs.map fun p => tupD p.1).zip ds).map (·.1) = kvs.map fun p => tupD p.1 := zip_fst (by simpa using l)
    rw [ez] at q3
    rcases h with h | ⟨ob, h⟩
    · have ha : H1 a = some (.dT kvs) := E1.choose_spec.2.at h
      refine .inr ⟨a, _, ha, rfl, fun od => ⟨a, od, rfl, .inr ⟨kvs, upd_same, ?_⟩⟩⟩
      obtain ⟨x2, E2⟩ := E1.lockZ h rfl od
      exact q3 _ _ _ (x1.trans x2) E2 (yld_keysT upd_same)
    · have ha : H1 a = some (.frz ob (.dT kvs)) := E1.choose_spec.2.at h
      exact .inl ⟨a, ob, rfl, .inr ⟨kvs, ha, q3 _ _ _ x1 E1 (yld_keysT h)⟩⟩
  | _ => cases e3
/-! values, items -/
def valsD : D → Option (List D)
  | .dct false kvs => some (kvs.map (·.2))
  | _ => none
def itemsDD : D → Option (List D)
  | .dct false kvs => some (kvs.map fun p => .tup [p.1, p.2])
  | _ => none
def iVs (f : SE) : SI := fun r => (f r).bind fun d r1 => opt (valsD d) r1
def iIs (f : SE) : SI := fun r => (f r).bind fun d r1 => opt (itemsDD d) r1
theorem yld_vals {a : Addr} {o : Obj} {kvs : List (Key × V)} {ds : List D} (h : F a = some (.frz o (.dK kvs))) (rr : RepL C F (kvs.map (·.2)) ds) : Yld C (Itd a o kvs) F ds where
  go := fun i F2 P Lk L H e S hi => ⟨S.at (e.at h rfl), by rw [← rr.length] at hi; simpa using hi⟩
  stop := fun F2 P Lk L H e S => ⟨S.at (e.at h rfl), by rw [← rr.length]; simp⟩
  yld := fun i F2 P Lk L H v H' e S hi y => by
    obtain ⟨e1, k, hk⟩ := y
    subst e1
    obtain ⟨d, hd, rd⟩ := rr.get' (i := i) (v := v) (by simp [hk])
    exact ⟨F2, d, Ext.refl _, hd, rd.mono e, S⟩
theorem yld_items {a : Addr} {o : Obj} {kvs : List (Key × V)} {ds : List D} (h : F a = some (.frz o (.dK kvs))) (rr : RepL C F (kvs.map (·.2)) ds) : Yld C (Iti a o kvs) F (((kvs.map fun p => keyD p.1).zip ds).map fun p => .tup [p.1, p.2]) where
  go := fun i F2 P Lk L H e S hi => ⟨S.at (e.at h rfl), by have := rr.length; simp at hi this; omega⟩
  stop := fun F2 P Lk L H e S => ⟨S.at (e.at h rfl), by have := rr.length; simp at this ⊢; omega⟩
  yld := fun i F2 P Lk L H v H' e S hi y => by
    obtain ⟨T, k, w, hk, ev, hT, eH⟩ := y
    subst ev eH
    obtain ⟨d, hd, rd⟩ := rr.get' (i := i) (v := w) (by simp [hk])
    obtain ⟨x2, S2⟩ := S.newZ (o := .tup [kV k, w]) hT
    refine ⟨_, .tup [keyD k, d], x2, ?_, .tup upd_same ?_, S2⟩
    · have : ((kvs.map fun p => keyD p.1).zip ds)[i]? = some (keyD k, d) := by
        rw [List.getElem?_zip_eq_some]
        exact ⟨by simp [hk], hd⟩
      simp [this]
    · have r0 : RepL C (upd F2 T (.tup [kV k, w])) [kV k] [keyD k] := repL_keys [k]
      cases r0 with
      | cons a b => exact .cons a (.cons ((rd.mono e).mono x2) .nil)
theorem EnvX.atF {T : List Cell} (E : EnvX C T F P Lk G r σ H) {a : Addr} {o : HO} (h : F a = some o) : H a = some o := E.choose_spec.2.at h
theorem di_vals {f : SE} (he : PE X e (tD C W G f .z)) (hbase : attributeBase e "values" X.env (eval e X.env) = eval e X.env := by rfl) (hline : (apos.endLine == cpos.line) = true := by rfl) :
    PI X tg (.Call (.Attribute e "values" apos) [] [] cpos) (tDI C W G (iVs f)) := by
  have hk := pi_values (tg := tg) (pe_lockO he) hbase hline
  refine ⟨fun pins s σ H R I q => hk.run pins s σ H R I ?_⟩
  obtain ⟨F, P, Lk, r, E, q⟩ := q
  refine ⟨F, P, Lk, r, E, (RD.bind (k := fun d r1 => opt (valsD d) r1) q).mono fun d r1 q1 v F1 H1 x1 E0 => ?_⟩
  obtain ⟨items, e3, q3⟩ := RD_opt q1
  obtain ⟨R1, E1⟩ := E0.rep
  clear E0
  cases R1 with
  | @dK a kvs ds h rr =>
    cases e3
    have l : kvs.length = ds.length := by simpa using rr.length
    have ez : ((kvs.map fun p => keyD p.1).zip ds).map (·.2) = ds := zip_snd (by simpa using l)
    rw [ez] at q3
    rcases h with h | ⟨ob, h⟩
    · refine .inr ⟨a, _, E1.atF h, rfl, fun od => ⟨a, od, kvs, rfl, upd_same, ?_⟩⟩
      obtain ⟨x2, E2⟩ := E1.lockZ h rfl od
      exact q3 _ _ _ (x1.trans x2) E2 (yld_vals upd_same (rr.mono x2))
    · exact .inl ⟨a, ob, kvs, rfl, E1.atF h, q3 _ _ _ x1 E1 (yld_vals h rr)⟩
  | _ => cases e3
theorem di_items {f : SE} {elts : List Expr} {kk : Nat} {tpos : Pos} (he : PE X e (tD C W G f .z)) (hbase : attributeBase e "items" X.env (eval e X.env) = eval e X.env := by rfl) (hline : (apos.endLine == cpos.line) = true := by rfl) :
    PI X (.Tuple elts kk tpos) (.Call (.Attribute e "items" apos) [] [] cpos) (tDI C W G (iIs f)) := by
  have hk := pi_items (elts := elts) (kk := kk) (tpos := tpos) (pe_lockO he) hbase hline
  refine ⟨fun pins s σ H R I q => hk.run pins s σ H R I ?_⟩
  obtain ⟨F, P, Lk, r, E, q⟩ := q
  refine ⟨F, P, Lk, r, E, (RD.bind (k := fun d r1 => opt (itemsDD d) r1) q).mono fun d r1 q1 v F1 H1 x1 E0 => ?_⟩
  obtain ⟨items, e3, q3⟩ := RD_opt q1
  obtain ⟨R1, E1⟩ := E0.rep
  clear E0
  cases R1 with
  | @dK a kvs ds h rr =>
    cases e3
    rcases h with h | ⟨ob, h⟩
    · refine .inr ⟨a, _, E1.atF h, rfl, fun od => ⟨a, od, kvs, rfl, upd_same, ?_⟩⟩
      obtain ⟨x2, E2⟩ := E1.lockZ h rfl od
      exact q3 _ _ _ (x1.trans x2) E2 (yld_items upd_same (rr.mono x2))
    · exact .inl ⟨a, ob, kvs, rfl, E1.atF h, q3 _ _ _ x1 E1 (yld_items h rr)⟩
  | _ => cases e3
end
end DL
set_option Elab.async false
set_option linter.all false
set_option autoImplicit false
set_option maxHeartbeats 1000000
/-! the data layer, part 21: while; bits; more of lists -/
namespace DL
open PySem PySem.Spec PyProof.Rows L2
variable {C : Cfg}
/-! ### while -/
def whileL (t : ST) (body : SS) : Nat → DL.Env → Fl
  | 0, _ => .stk
  | n + 1, r => (t r).fl fun b r1 => if b = true then (body r1).seq (whileL t body n) else .nx r1
def sWhile (n : Nat) (t : ST) (body : SS) : SS := whileL t body n
section
variable {X : Cx} {W : WX} {R : Rt} {G : List O} {c e a b : Expr} {es : List Expr} {body : List Stmt} {pos : Pos}
theorem d_while {n : Nat} {t : ST} {bs : SS} (hW : WK W R.pm) (hp : PassesOwn (model X.prog X.w) X.A X.env X.xe) (hc : PT X c (tDT C W G t)) (hb : PSs X body (tDS C W R G bs G)) : PS X (.While c body [] pos) (tDS C W R G (sWhile n t bs) G) := by
  refine PS_weak (ps_while hp hc hb) fun D σ H q => ?_
  obtain ⟨F, P, Lk, r, E, q⟩ := q
  refine ⟨fun m σ' H' => Keep R.pm σ σ' ∧ ∃ F' r', Ext F F' ∧ EnvX C [] F' P Lk G r' σ' H' ∧ RF C W F' P Lk σ' (whileL t bs m r')
      (fun r' => ∀ σ'' F'' H'', Ext F' F'' → Keep R.pm σ' σ'' → EnvX C [] F'' P Lk G r' σ'' H'' → D.nx σ'' H'')
      (fun d r' => ∀ v σ'' F'' H'', Ext F' F'' → Keep R.pm σ' σ'' → RetX C F'' P Lk R.m R.Gs R.o v d r' σ'' H'' → D.rt v H''),
    ⟨n, Keep.refl, F, r, Ext.refl _, E, q⟩, ?_⟩
  rintro m σ3 H3 ⟨k3, F3, r3, x3, E3, q3⟩
  cases m with
  | zero => exact q3.elim
  | succ m =>
    refine ⟨F3, P, Lk, r3, E3, (RF.fl (k := fun b r1 => if b = true then (bs r1).seq (whileL t bs m) else .nx r1) q3).mono fun bb r4 q4 F4 H4 x4 E4 => ?_⟩
    cases bb with
    | true =>
      rw [if_pos rfl] at q4 ⊢
      refine ⟨fun σ' H' => Keep R.pm σ σ' ∧ ∃ F' r', Ext F F' ∧ EnvX C [] F' P Lk G r' σ' H' ∧ RF C W F' P Lk σ' (whileL t bs m r')
          (fun r' => ∀ σ'' F'' H'', Ext F' F'' → Keep R.pm σ' σ'' → EnvX C [] F'' P Lk G r' σ'' H'' → D.nx σ'' H'')
          (fun d r' => ∀ v σ'' F'' H'', Ext F' F'' → Keep R.pm σ' σ'' → RetX C F'' P Lk R.m R.Gs R.o v d r' σ'' H'' → D.rt v H''), fun σ' H' z => ⟨m, Nat.lt_succ_self m, z⟩, ?_⟩
      refine ⟨F4, P, Lk, r4, E4, (RF.seq (q4.ext hW x4 (Sub.refl P) Keep.refl)).mono (fun r6 q6 σ6 F6 H6 x6 k6 E6 => ?_) fun d6 r6 q6 v σ6 F6 H6 x6 k6 E6 => ?_⟩
      · refine ⟨k3.trans k6, F6, r6, x3.trans (x4.trans x6), E6, ?_⟩
        exact (q6.ext hW x6 (Sub.refl P) k6).mono (fun r2 q2 σ2 F2 H2 x2 k2 E2 => q2 σ2 F2 H2 ((x4.trans x6).trans x2) (k6.trans k2) E2) fun d r2 q2 v σ2 F2 H2 x2 k2 E2 => q2 v σ2 F2 H2 ((x4.trans x6).trans x2) (k6.trans k2) E2
      · exact q6 v σ6 F6 H6 (x4.trans x6) k6 E6
    | false =>
      rw [if_neg Bool.false_ne_true] at q4 ⊢
      exact q4 σ3 F4 H4 x4 Keep.refl E4
end
/-! ### whole numbers -/
section
variable {X : Cx}
theorem op_bin0 {op : Operator} {p : Int → Int → Int} (h : OpR X (binaryOp op) (rI0 fun i j => .int (p i j))) :
    OpR X (binaryOp op) (rO2 C (fun a b => match a, b with | .int i, .int j => some (.int (p i j)) | _, _ => none) .z) := by
  intro pins s σ H x y v u Q I rx ry ⟨F, P, Lk, L, dx, dy, dz, S, hx, hy, e, k⟩
  dsimp only at e
  split at e
  · cases e
    exact h pins s σ H x y v u Q I rx ry ⟨_, _, rep_int hx, rep_int hy, k _ F H (Ext.refl F) (S.zcons (.int _))⟩
  · cases e
def shlD (a b : D) : Option D := match a, b with
  | .int i, .int j => if CPow i j then some (.int (i * 2 ^ j.toNat)) else none
  | _, _ => none
theorem op_shl_D : OpR X (binaryOp .LShift) (rO2 C shlD .z) := op_binI op_shl
def shrD (a b : D) : Option D := match a, b with
  | .int i, .int j => if 0 ≤ j then some (.int (i / 2 ^ j.toNat)) else none
  | _, _ => none
theorem op_shr_D : OpR X (binaryOp .RShift) (rO2 C shrD .z) := op_binI (cd := fun _ j => 0 ≤ j) (p := fun i j => i / 2 ^ j.toNat) op_shr
def bandD (a b : D) : Option D := match a, b with
  | .int i, .int j => some (.int (Builtin.bitAnd i j))
  | _, _ => none
theorem op_band_D : OpR X (binaryOp .BitAnd) (rO2 C bandD .z) := op_bin0 op_and
def borD (a b : D) : Option D := match a, b with
  | .int i, .int j => some (.int (Builtin.bitOr i j))
  | _, _ => none
theorem op_bor_D : OpR X (binaryOp .BitOr) (rO2 C borD .z) := op_bin0 op_or
/-- max(xs), min(xs) -/
def maxLD : D → Option D
  | .lst xs => (intsD xs).bind fun ns => ns.max?.map .int
  | _ => none
def minLD : D → Option D
  | .lst xs => (intsD xs).bind fun ns => ns.min?.map .int
  | _ => none
theorem call_maxL_D (hK : X.K = C.K) (hc : X.calm = true) : CallR X (.builtin "max") (rON C (g1 maxLD) .z) :=
  cr1 (cr_max hc) fun F P Lk L H x dx dz Q S R e q => by
    unfold maxLD at e
    split at e
    · rename_i xs
      cases hb : intsD xs with
      | none => rw [hb] at e; cases e
      | some ns =>
        rw [hb] at e
        dsimp only [Option.bind_some] at e
        cases hm : ns.max? with
        | none => rw [hm] at e; cases e
        | some M =>
          rw [hm] at e
          cases e
          cases R with
          | lst h r =>
            have z := intsD_rep r hb
            subst z
            obtain ⟨m1, m2⟩ := List.max?_eq_some_iff.mp hm
            refine ⟨_, ns, rfl, .inl (S.rdL h), List.length_pos_of_mem m1, fun m hm1 hm2 => ?_⟩
            have e1 := m2 m hm1
            have e2 := hm2 M m1
            have : m = M := by omega
            subst this
            exact q _ F H (Ext.refl F) (S.zcons (.int _))
    · cases e
theorem call_minL_D (hK : X.K = C.K) (hc : X.calm = true) : CallR X (.builtin "min") (rON C (g1 minLD) .z) :=
  cr1 (cr_min hc) fun F P Lk L H x dx dz Q S R e q => by
    unfold minLD at e
    split at e
    · rename_i xs
      cases hb : intsD xs with
      | none => rw [hb] at e; cases e
      | some ns =>
        rw [hb] at e
        dsimp only [Option.bind_some] at e
        cases hm : ns.min? with
        | none => rw [hm] at e; cases e
        | some M =>
          rw [hm] at e
          cases e
          cases R with
          | lst h r =>
            have z := intsD_rep r hb
            subst z
            obtain ⟨m1, m2⟩ := List.min?_eq_some_iff.mp hm
            refine ⟨_, ns, rfl, .inl (S.rdL h), List.length_pos_of_mem m1, fun m hm1 hm2 => ?_⟩
            have e1 := m2 m hm1
            have e2 := hm2 M m1
            have : m = M := by omega
            subst this
            exact q _ F H (Ext.refl F) (S.zcons (.int _))
    · cases e
/-! ### xs.extend(ys) -/
def rExtR : V → List V → Hp → VK → Prop := fun x vs H Q =>
  ∃ l b xs zs, x = .ref l ∧ vs = [.ref b] ∧ H l = some (.lst xs) ∧ Rd H b (.lst zs) ∧ xs.length + zs.length ≤ sizeLine ∧
    Q .non (upd H l (.lst (xs ++ zs)))
theorem mt_extR : MtR X "list.extend" rExtR := by
  intro pins s σ H x vs v us Q I rx rv h
  obtain ⟨l, b, xs, zs, ex, ev, hH, hB, hz, q⟩ := h
  subst ex ev
  cases rx
  obtain ⟨u, eu, ru⟩ := rv.one
  subst eu
  cases ru
  obtain ⟨_, its, n, r, hl, e⟩ := lstRd I (.inl hH)
  obtain ⟨_, jts, k, r2, hl2, e2⟩ := lstRd I hB
  have z1 : its.toArray.size + jts.toArray.size ≤ sizeLine := by
    rw [List.size_toArray, List.size_toArray]; omega
  have z2 : ¬ (!its.toArray.isEmpty && Builtin.List.listTooLong (its.toArray.size + jts.toArray.size)) = true := by
    rw [notLongL z1, Bool.and_false]; simp
  refine call_meets F.slot_list_extend ⟨_, e, rfl⟩ F.entry_list_extend (F.args_list_extend_2 _ _) (AutoSeq1.list_extend_list_list_0 l its.toArray n b jts.toArray k z2
    (by rw [List.size_toArray]; omega) (by omega)) ⟨e, e2, .non, _, I.lset (its' := its ++ jts) hH e (by simp) (r.append r2) (by rw [List.length_append]; omega), rfl, q⟩
def gExtend : D → List D → Option (D × D)
  | .lst xs, [.lst zs] => if xs.length + zs.length ≤ sizeLine then some (.non, .lst (xs ++ zs)) else none
  | _, _ => none
theorem me_extend : MtR X "list.extend" (rMe C (.c .z) .z [.z] gExtend) := fun pins s σ H x xs v us Q I rx rxs h => by
  obtain ⟨F, P, Lk, L, d, ds, d', dr, La, Rr, S, g, k⟩ := h
  obtain ⟨e, y, rfl, rfl, rfl⟩ := Rr.one
  have Re : Rep C F y e := S.rep_mem (List.mem_cons_of_mem _ List.mem_cons_self)
  unfold gExtend at g
  split at g
  · rename_i ys zs heq
    cases heq
    split at g
    · rename_i hz
      cases g
      obtain ⟨a, vs, rfl, h1, l, S2⟩ := Stt.openL S
      obtain ⟨r, S3⟩ := S2.unz l
      have S4 : SttH C F P Lk [a] L H := S3.tail
      cases Re with
      | @lst b ws es hb rb =>
        have hb2 : Rd H b (.lst ws) := S.rdL hb
        refine mt_extR pins s σ H _ _ v us Q I rx rxs ⟨a, b, vs, ws, rfl, rfl, h1, hb2, by rw [l, rb.length]; exact hz, k _ F _ (Ext.refl F) (Stt.zcons .non ?_)⟩
        have ra := r.append rb
        exact SttH.closeL (S4.zcell ra) ra.length
    · cases g
  · cases g
end
/-! ### methods of frozen values -/
def rMz (C : Cfg) (g : D → List D → Option D) (oo : O) : V → List V → Hp → VK → Prop := fun x vs H Q =>
  ∃ F P Lk L d ds dr, Stt C F P Lk L H ∧ Rep C F x d ∧ RepL C F vs ds ∧ g d ds = some dr ∧ ∀ w F' H', Ext F F' → Stt C F' P Lk ((oo, w, dr) :: L) H' → Q w H'
def isStrD : D → Bool
  | .str _ => true
  | _ => false
def isLstD : D → Bool
  | .lst _ => true
  | .klst _ => true
  | _ => false
def tyZ (T : String) (isT : D → Bool) : Prop := (T = "list" ∧ isT = isLstD) ∨ (T = "str" ∧ isT = isStrD)
def eMz (isT : D → Bool) (g : D → List D → Option D) (f : SE) (k : SA) : SE := fun r => (f r).bind fun d r1 => if isT d = true then (k r1).bind fun ds r2 => opt (g d ds) r2 else .stk
section
variable {X : Cx} {W : WX} {R : Rt} {G : List O} {e o : Expr} {es : List Expr}
theorem tyZ_ok {T : String} {isT : D → Bool} {F P H : Hp} {Lk : Lock} {L : List Cell} {v : V} {d : D} (k : tyZ T isT) (hK : X.K = C.K) (S : Stt C F P Lk L H) (Rv : Rep C F v d) (ty : isT d = true) : tyV X.K T v H := by
  rcases k with ⟨rfl, rfl⟩ | ⟨rfl, rfl⟩
  · cases Rv with
    | lst h r => exact .inl ⟨rfl, _, .inl (S.rdL h)⟩
    | klst h r => exact .inl ⟨rfl, _, by rw [hK]; exact sqL_k h⟩
    | _ => cases ty
  · cases Rv with
    | str x => exact rfl
    | _ => cases ty
theorem de_mz {p apos cpos : Pos} {name : Str} {T id : String} {oo : O} {isT : D → Bool} {g : D → List D → Option D} {f : SE} {k : SA} (hk : tyZ T isT) (hK : X.K = C.K) (pa : PlainAttrs T) (slot : Slot T name id) (hty : typeOf (.builtin id) = pure (.type "method_descriptor")) (hm : MtR X id (rMz C g oo))
    (ho : PE X o (tD C W G f .z)) (ha : PA X (e :: es) (tDA C W G k))
    (hbase : attributeBase o name X.env (eval o X.env) = eval o X.env := by rfl)
    (hfew : ((backTo cpos (starEach (e :: es) X.env)).all (fun x => !x.1) && (backToKw cpos (keywordEach [] X.env)).all (fun x => x.1.isSome) && decide ((e :: es).length + ([] : List Keyword).length + (if ([] : List Keyword).isEmpty then 0 else 1) < 30)) = true := by rfl)
    (hline : (apos.endLine == cpos.line) = true := by rfl) (hs : starEach (e :: es) X.env = (false, eval e X.env) :: starEach es X.env := by rfl) (hplain : (backTo cpos (starEach es X.env)).any (·.1) = false := by rfl) :
    PE X (.Call (.Attribute o name apos) (e :: es) [] cpos) (tD C W G (eMz isT g f k) oo) := by
  refine PE_weak (pe_bm pa slot hty hm ho ha hbase hfew hline hs hplain) fun σ H Q q => ?_
  obtain ⟨F, P, Lk, r, E, q⟩ := q
  refine ⟨F, P, Lk, r, E, (RD.bind (k := fun d r1 => if isT d = true then (k r1).bind fun ds r2 => opt (g d ds) r2 else .stk) q).mono fun d r1 q1 v F1 H1 x1 E0 => ?_⟩
  obtain ⟨R1, E1⟩ := E0.rep
  split at q1
  · rename_i ht
    refine ⟨tyZ_ok hk hK E1.choose_spec.2 R1 ht, F1, P, Lk, r1, E1, (RD.bind (q1.ext x1 (Sub.refl P))).mono fun ds r2 q2 vs F2 H2 x2 R2 E2 => ?_⟩
    obtain ⟨dr, hg, q3⟩ := RD_opt q2
    obtain ⟨L, e2, S2⟩ := E2
    exact ⟨F2, P, Lk, L, d, ds, dr, S2, R1.mono x2, R2, hg, fun w F' H' x' s' => q3 w F' H' ((x1.trans x2).trans x') ⟨L, e2, s'⟩⟩
  · exact q1.elim
/-- xs.index(y), y is there -/
def ixOf (p : PyData) : List PyData → Option Nat
  | [] => none
  | q :: qs => if PyData.eqv q p = true then some 0 else (ixOf p qs).map (· + 1)
theorem ixOf_ok {p : PyData} : ∀ {qs : List PyData} {j : Nat}, ixOf p qs = some j → ∃ z, qs[j]? = some z ∧ PyData.eqv z p = true ∧ ∀ (m : Nat) (z' : PyData), m < j → qs[m]? = some z' → PyData.eqv z' p = false
  | [], j, h => by cases h
  | q :: qs, j, h => by
    unfold ixOf at h
    split at h
    · rename_i hq
      cases h
      exact ⟨q, rfl, hq, fun m z' hm => absurd hm (by omega)⟩
    · rename_i hq
      obtain ⟨i, hi, rfl⟩ := Option.map_eq_some_iff.mp h
      obtain ⟨z, h1, h2, h3⟩ := ixOf_ok hi
      refine ⟨z, by simpa using h1, h2, fun m z' hm hz => ?_⟩
      cases m with
      | zero =>
        simp at hz
        subst hz
        simpa using hq
      | succ m => exact h3 m z' (by omega) (by simpa using hz)
def gIndex : D → List D → Option D
  | .lst xs, [y] => (shp (.lst xs)).bind fun _ => (shp y).bind fun p => (toPyL xs).bind fun qs => (ixOf p qs).map fun (j : Nat) => D.int (j : Int)
  | _, _ => none
theorem mz_index (hK : X.K = C.K) (hu : X.A.units + 65 < cLine) : MtR X "list.index" (rMz C gIndex .z) := fun pins s σ H x xs v us Q I rx rxs h => by
  obtain ⟨F, P, Lk, L, d, ds, dr, S, Rx, Rs, g, k⟩ := h
  unfold gIndex at g
  split at g
  · rename_i ys y
    cases h1 : shp (.lst ys) with
    | none => rw [h1] at g; cases g
    | some pl =>
      cases h2 : shp y with
      | none => rw [h1, h2] at g; cases g
      | some p =>
        cases h3 : toPyL ys with
        | none => rw [h1, h2, h3] at g; cases g
        | some qs =>
          rw [h1, h2, h3] at g
          dsimp only [Option.bind_some] at g
          obtain ⟨j, hj, rfl⟩ := Option.map_eq_some_iff.mp g
          obtain ⟨z, j1, j2, j3⟩ := ixOf_ok hj
          obtain ⟨t1, s1⟩ := shp_of h1
          obtain ⟨t2, s2⟩ := shp_of h2
          have e1 : pl = .list qs := by
            simp [toPy, h3] at t1
            exact t1.symm
          subst e1
          obtain ⟨w, rfl, Rw⟩ := repl1 Rs
          cases Rx with
          | @lst a vs ds hb rb =>
            have dl := Rep.dp S (.lst hb rb) t1
            have dy := Rep.dp S Rw t2
            rw [← hK] at dl dy
            exact mt_indexD hu pins s σ H _ _ v us Q I rx rxs ⟨a, w, p, qs, j, z, rfl, rfl, dl, dy, s1, s2, j1, j2, j3, k _ F H (Ext.refl F) (S.zcons (.int _))⟩
  · cases g
end
end DL
set_option Elab.async false
set_option linter.all false
set_option autoImplicit false
set_option maxHeartbeats 1000000
/-! the data layer, part 22: owned lists within owned lists and dicts -/
namespace DL
open PySem PySem.Spec PyProof.Rows L2
variable {C : Cfg}
def opqs (vs : List V) : List D := vs.map D.opq
theorem repL_opq {F : Hp} : ∀ vs : List V, RepL C F vs (opqs vs)
  | [] => .nil
  | v :: vs => .cons (.opq v) (repL_opq vs)
theorem repL_opq_eq {F : Hp} : ∀ {vs ws : List V}, RepL C F ws (opqs vs) → ws = vs
  | [], _, h => by cases h; rfl
  | v :: vs, _, h => by
    cases h with
    | cons a b =>
      cases a
      rw [repL_opq_eq b]
theorem upd_selfJ {H : Hp} {a : Addr} {o : HO} (h : H a = some o) : upd H a o = H := by
  funext b
  unfold upd
  split
  · rename_i e; rw [e, h]
  · rfl
def getJ : D → Nat → Option D
  | .lst xs, j => xs[j]?
  | .dct false kvs, j => (kvs[j]?).map (·.2)
  | _, _ => none
def idxD : D → D → Option Nat
  | .lst xs, .int i => ixN xs.length i
  | .dct false kvs, k => (toKey k).bind fun _ => kvs.findIdx? fun p => keyB p.1 k
  | _, _ => none
/-- what a subscript reads there -/
def RawAt (H : Hp) (a : Addr) (y w : V) : Prop := (∃ vs i, y = .int i ∧ Rd H a (.lst vs) ∧ atI vs i = some w) ∨ ∃ kvs k, Rd H a (.dK kvs) ∧ y = kV k ∧ valV kvs k = some w
theorem find_rel {ky : Key} : ∀ {kvs : List (Key × V)} {ds : List D} {j : Nat}, kvs.length = ds.length → (((kvs.map fun p => keyD p.1).zip ds).findIdx? fun p => keyB p.1 (keyD ky)) = some j → ∃ p, kvs[j]? = some p ∧ valV kvs ky = some p.2
  | [], ds, j, _, h => by simp at h
  | p :: kvs, [], j, l, h => by simp at l
  | p :: kvs, d :: ds, j, l, h => by
    simp only [List.map_cons, List.zip_cons_cons, List.findIdx?_cons] at h
    by_cases q : p.1 = ky
    · have hb : keyB (keyD p.1) (keyD ky) = true := by rw [keyB_key, q]; simp
      rw [hb] at h
      simp at h
      subst h
      exact ⟨p, rfl, valV_pos q⟩
    · have hb : keyB (keyD p.1) (keyD ky) = false := by rw [keyB_key]; simp [q]
      rw [hb] at h
      simp only [Bool.false_eq_true, if_false] at h
      obtain ⟨i, hi, rfl⟩ := Option.map_eq_some_iff.mp h
      obtain ⟨p', h1, h2⟩ := find_rel (by simpa using l) hi
      exact ⟨p', by simpa using h1, by rw [valV_neg q]; exact h2⟩
theorem zip_of_maps {α β : Type} : ∀ xs : List (α × β), (xs.map (·.1)).zip (xs.map (·.2)) = xs
  | [] => rfl
  | x :: xs => by simp [zip_of_maps xs]
section
variable {F F' P H H' : Hp} {Lk : Lock} {L M : List Cell} {a : Addr} {o : O} {d : D} {ds : List D} {vs : List V} {v : V}
theorem SttH.shutL (h : SttH C F P Lk [a] (cellsOf o vs ds ++ L) H) (l : vs.length = ds.length) (e : H a = some (.lst vs)) : Stt C F P Lk ((.c o, .ref a, .lst ds) :: L) H := by
  have z := h.closeL l
  rwa [upd_selfJ e] at z
theorem SttH.shutK {kvs : List (Key × V)} (h : SttH C F P Lk [a] (cellsOf o (kvs.map (·.2)) ds ++ L) H) (l : kvs.length = ds.length) (e : H a = some (.dK kvs)) : Stt C F P Lk ((.c o, .ref a, .dct false ((kvs.map fun p => keyD p.1).zip ds)) :: L) H := by
  have z := h.closeK l
  rwa [upd_selfJ e] at z
theorem cells_put {j : Nat} {w : V} {d2 : D} (l : vs.length = ds.length) (hv : vs[j]? = some w) : (cellsOf o vs (ds.set j d2)).Perm ((o, w, d2) :: cellsOf o (vs.eraseIdx j) (ds.eraseIdx j)) := by
  have hj : j < ds.length := by rw [← l]; exact (List.getElem?_eq_some_iff.mp hv).1
  have z := cells_take (o := o) (vs := vs) (ds := ds.set j d2) (j := j) (v := w) (d := d2) (by simp [l]) hv (by simp [hj])
  have e : (ds.set j d2).eraseIdx j = ds.eraseIdx j := by rw [List.eraseIdx_set_eq]
  rw [e] at z
  exact z
/-- one of the inner lists -/
theorem Stt.focus (h : Stt C F P Lk ((.c (.c .z), v, d) :: L) H) {j : Nat} {inner : D} (hj : getJ d j = some inner) : ∃ a w M, v = .ref a ∧ (∀ ix y, idxD d ix = some j → Rep C F y ix → RawAt H a y w) ∧ Stt C F P Lk ((.c .z, w, inner) :: (M ++ L)) H ∧
    ∀ F2 P2 Lk2 L2 H2 d2 d', setJ d j d2 = some (d', inner) → Stt C F2 P2 Lk2 ((.c .z, w, d2) :: (M ++ L2)) H2 → Stt C F2 P2 Lk2 ((.c (.c .z), v, d') :: L2) H2 := by
  cases d with
  | lst ds =>
    simp only [getJ] at hj
    obtain ⟨a, vs, rfl, h1, l, S⟩ := Stt.openL h
    have hv : ∃ w, vs[j]? = some w := ⟨vs[j]'(by rw [l]; exact (List.getElem?_eq_some_iff.mp hj).1), List.getElem?_eq_getElem _⟩
    obtain ⟨w, hv⟩ := hv
    have S2 : SttH C F P Lk [a] (cellsOf .z vs (opqs vs) ++ (cellsOf (.c .z) vs ds ++ L)) H := S.zcell (repL_opq vs)
    have S3 := S2.shutL (by simp [opqs]) h1
    have pm := cells_take (o := .c .z) l hv hj
    refine ⟨a, w, (.c .z, .ref a, .lst (opqs vs)) :: cellsOf (.c .z) (vs.eraseIdx j) (ds.eraseIdx j), rfl, fun ix y hi Ry => ?_, S3.perm ?_, fun F2 P2 Lk2 L2 H2 d2 d' e T => ?_⟩
    · cases ix <;> simp only [idxD] at hi <;> try (cases hi; done)
      rename_i i
      cases rep_int Ry
      refine .inl ⟨vs, i, rfl, .inl h1, ?_⟩
      unfold atI
      rw [l, hi]
      exact hv
    · refine ((pm.append_right L).cons _).trans ?_
      exact List.Perm.swap _ _ _
    · simp only [setJ, hj] at e
      cases e
      have T2 : Stt C F2 P2 Lk2 ((.c .z, .ref a, .lst (opqs vs)) :: (cellsOf (.c .z) vs (ds.set j d2) ++ L2)) H2 := by
        refine T.perm ?_
        refine (List.Perm.swap _ _ _).trans ?_
        exact ((((cells_put (o := .c .z) l hv).append_right L2).symm).cons _)
      obtain ⟨a', vs', ea, h2, l2, T3⟩ := Stt.openL T2
      cases ea
      obtain ⟨r, T4⟩ := T3.unz l2
      have ev := repL_opq_eq r
      subst ev
      exact T4.shutL (by simp [l]) h2
  | dct t kds =>
    cases t with
    | true => cases hj
    | false =>
      simp only [getJ] at hj
      obtain ⟨a, kvs, ds, rfl, h1, l, rfl, S⟩ := Stt.openK h
      obtain ⟨⟨k0, i0⟩, hz, rfl⟩ := Option.map_eq_some_iff.mp hj
      obtain ⟨hk, hd⟩ := List.getElem?_zip_eq_some.mp hz
      have l' : (kvs.map (·.2)).length = ds.length := by simpa using l
      have hv : ∃ w, (kvs.map (·.2))[j]? = some w := ⟨(kvs.map (·.2))[j]'(by rw [l']; exact (List.getElem?_eq_some_iff.mp hd).1), List.getElem?_eq_getElem _⟩
      obtain ⟨w, hv⟩ := hv
      have S2 : SttH C F P Lk [a] (cellsOf .z (kvs.map (·.2)) (opqs (kvs.map (·.2))) ++ (cellsOf (.c .z) (kvs.map (·.2)) ds ++ L)) H := S.zcell (repL_opq _)
      have S3 := S2.shutK (by simp [opqs]) h1
      have pm := cells_take (o := .c .z) l' hv hd
      refine ⟨a, w, (.c .z, .ref a, .dct false ((kvs.map fun p => keyD p.1).zip (opqs (kvs.map (·.2))))) :: cellsOf (.c .z) ((kvs.map (·.2)).eraseIdx j) (ds.eraseIdx j), rfl, fun ix y hi Ry => ?_, S3.perm ?_, fun F2 P2 Lk2 L2 H2 d2 d' e T => ?_⟩
      · simp only [idxD] at hi
        obtain ⟨ky, hky, hi⟩ := Option.bind_eq_some_iff.mp hi
        have ek := toKey_some hky
        subst ek
        obtain ⟨p, hp, hval⟩ := find_rel l hi
        have ey : y = kV ky := by cases ky <;> (cases Ry; rfl)
        subst ey
        have ew : p.2 = w := by
          rw [List.getElem?_map, hp] at hv
          simpa using hv
        rw [ew] at hval
        exact .inr ⟨kvs, ky, .inl h1, rfl, hval⟩
      · refine ((pm.append_right L).cons _).trans ?_
        exact List.Perm.swap _ _ _
      · simp only [setJ, hz] at e
        cases e
        rw [zip_set_r hk]
        have T2 : Stt C F2 P2 Lk2 ((.c .z, .ref a, .dct false ((kvs.map fun p => keyD p.1).zip (opqs (kvs.map (·.2))))) :: (cellsOf (.c .z) (kvs.map (·.2)) (ds.set j d2) ++ L2)) H2 := by
          refine T.perm ?_
          refine (List.Perm.swap _ _ _).trans ?_
          exact ((((cells_put (o := .c .z) l' hv).append_right L2).symm).cons _)
        obtain ⟨a', kvs', ds', ea, h2, l2, ez, T3⟩ := Stt.openK T2
        cases ea
        obtain ⟨r, T4⟩ := T3.unz (by simpa using l2)
        have lz : (kvs.map fun p => keyD p.1).length = (opqs (kvs.map (·.2))).length := by simp [opqs]
        have e1 : (kvs'.map fun p => keyD p.1) = kvs.map fun p => keyD p.1 := by
          have := congrArg (List.map (·.1)) ez
          rw [zip_fst lz, zip_fst (by simpa using l2)] at this
          exact this.symm
        have e2 : ds' = opqs (kvs.map (·.2)) := by
          have := congrArg (List.map (·.2)) ez
          rw [zip_snd lz, zip_snd (by simpa using l2)] at this
          exact this.symm
        subst e2
        have e3 := repL_opq_eq r
        have e4 : kvs' = kvs := by
          have k1 : kvs'.map (·.1) = kvs.map (·.1) := by
            have f : ∀ ks ks' : List Key, ks.map keyD = ks'.map keyD → ks = ks' := by
              intro ks
              induction ks with
              | nil => intro ks' h; cases ks' <;> simp at h ⊢
              | cons x xs ih =>
                intro ks' h
                cases ks' with
                | nil => simp at h
                | cons y ys =>
                  simp at h
                  rw [keyD_inj h.1, ih ys h.2]
            refine f _ _ ?_
            rw [List.map_map, List.map_map]
            exact e1
          have z1 := zip_of_maps kvs'
          have z2 := zip_of_maps kvs
          rw [← z1, ← z2, k1, e3]
        subst e4
        exact T4.shutK (by simp [l]) h2
  | _ => simp only [getJ] at hj; cases hj
end
end DL
set_option Elab.async false
set_option linter.all false
set_option autoImplicit false
set_option maxHeartbeats 1000000
/-! the data layer, part 23: x[e].m(..), x[e][f] = .. -/
namespace DL
open PySem PySem.Spec PyProof.Rows L2
variable {C : Cfg}
section
variable {X : Cx} {W : WX} {R : Rt} {G : List O} {e e2 : Expr} {es : List Expr} {F F' P H : Hp} {Lk : Lock} {r : DL.Env} {σ : L2.St}
def rRaw : R2 := fun x y H Q => ∃ a w, x = .ref a ∧ RawAt H a y w ∧ Q w H
theorem ix_raw (hu : X.A.units + 1 < cLine) : IxR X rRaw := by
  intro value slice pins s σ H x y v u Q I rx ry h hs
  obtain ⟨a, w, rfl, raw, q⟩ := h
  rcases raw with ⟨vs, i, rfl, h1, h2⟩ | ⟨kvs, k, h1, rfl, h2⟩
  · exact ix_list value slice pins s σ H _ _ v u Q I rx ry ⟨_, _, _, w, rfl, rfl, .inl h1, h2, q⟩ hs
  · have g : DGet H a (kV k) (some w) := .inl ⟨_, k, h1, rfl, h2.symm⟩
    cases rx
    exact tail_any (dict_typeIs I g) PySem.F.slot_dict_getitem.lookup (d_getItem hu I g ry fun w' s3 I3 rw' => ⟨w, H, I3, rw', q⟩) hs
def spot (d ix : D) : Option (Nat × D) := (idxD d ix).bind fun j => (getJ d j).map fun x => (j, x)
theorem spot_some {d ix x : D} {j : Nat} (h : spot d ix = some (j, x)) : idxD d ix = some j ∧ getJ d j = some x := by
  unfold spot at h
  obtain ⟨i, h1, h2⟩ := Option.bind_eq_some_iff.mp h
  obtain ⟨y, h3, h4⟩ := Option.map_eq_some_iff.mp h2
  cases h4
  exact ⟨h1, h3⟩
theorem setJ_old {d d' y x z : D} {j : Nat} (h : setJ d j y = some (d', x)) (g : getJ d j = some z) : x = z := by
  cases d with
  | lst xs =>
    simp only [setJ, getJ] at h g
    rw [g] at h
    cases h; rfl
  | dct t kvs =>
    cases t with
    | false =>
      simp only [setJ, getJ] at h g
      obtain ⟨p, hp, hx⟩ := Option.map_eq_some_iff.mp g
      rw [hp] at h
      cases h; exact hx
    | true => cases g
  | _ => cases g
def eMethN (n i : Nat) (f : SE) (g : D → List D → Option (D × D)) (k : SA) : SE := fun r => match r[i]? with
  | some (some d) => (f (r.set i none)).bind fun ix r1 => match spot d ix with
    | some (j, inner) => if isLst inner = true then (k r1).bind fun ds r2 => match r2[i]? with
        | some none => if ds.length = n then match g inner ds with
          | some (dr, inner') => match setJ d j inner' with
            | some (d', _) => .ok dr (r2.set i (some d'))
            | none => .stk
          | none => .stk
          else .stk
        | _ => .stk
      else .stk
    | none => .stk
  | _ => .stk
theorem methN_hyp {n i : Nat} {oo : O} {f : SE} {g : D → List D → Option (D × D)} {k : SA} (hG : G[i]? = some (.c (.c .z))) {Q : VK} (q : tD C W G (eMethN n i f g k) oo σ H Q) :
    tOp rRaw (tVar i) (tD C W G f .z) σ H fun x H1 => tyV X.K "list" x H1 ∧ tDA C W G k σ H1 fun xs H2 => rMe C (.c .z) oo (List.replicate n .z) g x xs H2 Q := by
  obtain ⟨F, P, Lk, r, E, q⟩ := q
  unfold eMethN at q
  split at q
  · rename_i d hd
    obtain ⟨v, hs, E1⟩ := E.take hd hG
    obtain ⟨P', E1', eP, unp⟩ := E1.park
    refine ⟨v, hs, F, P', Lk, _, E1', ((RD.bind q).ext (Ext.refl F) eP).mono fun ix r1 q1 y F1 H1 x1 E2 => ?_⟩
    obtain ⟨Ry, E2⟩ := E2.rep
    have E3 := unp F1 H1 Lk [] G r1 σ x1 E2
    obtain ⟨L3, e3, s3⟩ := E3
    have s3 : Stt C F1 P Lk ((.c (.c .z), v, d) :: L3) H1 := s3
    split at q1
    · rename_i j inner hsp
      obtain ⟨hix, hj⟩ := spot_some hsp
      split at q1
      · rename_i hl
        obtain ⟨a, w, M, rfl, raw, s4, close⟩ := s3.focus hj
        have E4 : EnvX C ((.c .z, w, inner) :: M) F1 P Lk G r1 σ H1 := ⟨L3, e3, s4⟩
        refine ⟨a, w, rfl, raw ix y hix Ry, own_tyL E4 hl, ?_⟩
        obtain ⟨P2, E5, eP2, unp2⟩ := E4.park
        refine ⟨F1, P2, Lk, r1, E5, ((RD.bind q1).ext x1 eP2).mono fun ds r2 q2 xs F2 H2 x2 R2 E6 => ?_⟩
        have E7 := unp2 F2 H2 Lk [] G r2 σ x2 E6
        obtain ⟨L7, e7, s7⟩ := E7
        have s7 : Stt C F2 P Lk ((.c .z, w, inner) :: (M ++ L7)) H2 := by simpa using s7
        split at q2
        · rename_i hn
          split at q2
          · rename_i hlen
            split at q2
            · rename_i dr inner' hg
              split at q2
              · rename_i d' old hset
                have eo := setJ_old hset hj
                subst eo
                obtain ⟨La, ra, s8⟩ := zEnv R2 s7
                have eos : (ds.map fun _ => O.z) = List.replicate n O.z := by rw [List.map_const', hlen]
                rw [eos] at ra
                refine ⟨F2, P, Lk, M ++ L7, _, ds, inner', dr, La, ra, s8.perm (List.perm_middle), hg, fun w' F' H' x' s' => ?_⟩
                have s9 : Stt C F' P Lk ((.c .z, w, inner') :: (M ++ ((oo, w', dr) :: L7))) H' := by
                  refine s'.perm ?_
                  refine (List.Perm.swap _ _ _).trans ?_
                  exact (List.perm_middle.symm).cons _
                have s10 := close F' P Lk ((oo, w', dr) :: L7) H' inner' d' hset s9
                have z := EnvX.back (T := [(oo, w', dr)]) (r := r2) (d := d') (o := .c (.c .z)) (v := .ref a) (i := i) ⟨L7, e7, s10⟩ hn hG hs
                exact q2 w' F' H' ((x1.trans x2).trans x') z
              · exact q2.elim
            · exact q2.elim
          · exact q2.elim
        · exact q2.elim
      · exact q1.elim
    · exact q1.elim
  · exact q.elim
theorem de_methN {n i : Nat} {x : Str} {p ip apos cpos : Pos} {name : Str} {id : String} {oo : O} {f : SE} {g : D → List D → Option (D × D)} {k : SA} (hu : X.A.units + 1 < cLine) (pa : PlainAttrs "list") (slot : Slot "list" name id) (hty : typeOf (.builtin id) = pure (.type "method_descriptor")) (hm : MtR X id (rMe C (.c .z) oo (List.replicate n .z) g))
    (hG : G[i]? = some (.c (.c .z))) (hN : X.N[i]? = some x) (hv : Vis X.env.scope x) (hi : PE X e2 (tD C W G f .z)) (hpl : PlainIx e2) (ha : PA X (e :: es) (tDA C W G k)) (hd : (x == ("__debug__" : Str)) = false := by decide) (hcd : (x == ("__classdict__" : Str)) = false := by decide)
    (hbase : attributeBase (.Subscript (.Name x p) e2 ip) name X.env (eval (.Subscript (.Name x p) e2 ip) X.env) = eval (.Subscript (.Name x p) e2 ip) X.env := by rfl)
    (hfew : ((backTo cpos (starEach (e :: es) X.env)).all (fun x => !x.1) && (backToKw cpos (keywordEach [] X.env)).all (fun x => x.1.isSome) && decide ((e :: es).length + ([] : List Keyword).length + (if ([] : List Keyword).isEmpty then 0 else 1) < 30)) = true := by rfl)
    (hline : (apos.endLine == cpos.line) = true := by rfl) (hs : starEach (e :: es) X.env = (false, eval e X.env) :: starEach es X.env := by rfl) (hplain : (backTo cpos (starEach es X.env)).any (·.1) = false := by rfl) :
    PE X (.Call (.Attribute (.Subscript (.Name x p) e2 ip) name apos) (e :: es) [] cpos) (tD C W G (eMethN n i f g k) oo) :=
  PE_weak (pe_bm pa slot hty hm (pe_ix (ix_raw hu) (pe_var hN hv hd hcd) hi hpl) ha hbase hfew hline hs hplain) fun σ H Q q => methN_hyp hG q
end
end DL
set_option Elab.async false
set_option linter.all false
set_option autoImplicit false
set_option maxHeartbeats 1000000
/-! the data layer, part 24: displays with owned lists in them; written dicts -/
namespace DL
open PySem PySem.Spec PyProof.Rows L2
variable {C : Cfg}
section
variable {F F' P H H' : Hp} {Lk : Lock} {L M : List Cell} {a : Addr} {o : O} {d d0 : D} {ds : List D} {vs : List V} {v w : V} {j : Nat}
theorem Stt.openJ (h : Stt C F P Lk ((.k j o, v, d) :: L) H) : ∃ b ds d0, setJ d0 j (.lst ds) = some (d, .opq (.ref b)) ∧ Stt C F P Lk ((o, v, d0) :: (.c .z, .ref b, .lst ds) :: L) H := by
  obtain ⟨fp, ⟨f1, f2, rfl, p, r⟩, n, dd⟩ := h.ow
  obtain ⟨b, ws, ds, d0, fa, e1, p, e2, e3, rfl⟩ := p
  have pm : ((fa ++ [b]) ++ f2) = fa ++ ([b] ++ f2) := List.append_assoc _ _ _
  rw [pm] at n dd
  refine ⟨b, ds, d0, e1, h.le, h.pe, h.dj, h.ld, fa ++ ([b] ++ f2), ⟨fa, [b] ++ f2, rfl, p, [b], f2, rfl, ?_, r⟩, n, dd⟩
  refine ⟨b, [], rfl, rfl, .inl ⟨ws, ds, e2, rfl, ?_⟩⟩
  have z : ∀ {ws : List V} {ds : List D}, RepL C F ws ds → OwnL (Own C F H .z) ws ds [] := by
    intro ws
    induction ws with
    | nil => intro ds r; cases r; rfl
    | cons x xs ih => intro ds r; cases r with | cons p q => exact ⟨[], [], rfl, ⟨p, rfl⟩, ih q⟩
  exact z e3
theorem OwnL.z_rep {F H : Hp} : ∀ {ws : List V} {ds : List D} {fp : List Addr}, OwnL (Own C F H .z) ws ds fp → RepL C F ws ds ∧ fp = []
  | [], [], _, h => ⟨.nil, h⟩
  | x :: xs, d :: ds, _, ⟨f1, f2, e, p, r⟩ => by
    obtain ⟨q, e2⟩ := OwnL.z_rep r
    exact ⟨.cons p.1 q, by rw [e, p.2, e2]; rfl⟩
  | [], _ :: _, _, h => h.elim
  | _ :: _, [], _, h => h.elim
theorem Stt.closeJ (h : Stt C F P Lk ((o, v, d0) :: (.c .z, w, .lst ds) :: L) H) (e : setJ d0 j (.lst ds) = some (d, .opq w)) : Stt C F P Lk ((.k j o, v, d) :: L) H := by
  obtain ⟨fp, ⟨fa, f2, rfl, p, ⟨g1, g2, rfl, q, r⟩⟩, n, dd⟩ := h.ow
  obtain ⟨b, fps, rfl, rfl, q⟩ := q
  rcases q with ⟨ws, ds', h1, h2, h3⟩ | ⟨kvs, ds', h1, h2, h3⟩ | ⟨kvs, ds', h1, h2, h4, h3⟩
  · cases h2
    obtain ⟨rr, rfl⟩ := OwnL.z_rep h3
    have pm : fa ++ ([b] ++ g2) = (fa ++ [b]) ++ g2 := (List.append_assoc _ _ _).symm
    rw [pm] at n dd
    exact ⟨h.le, h.pe, h.dj, h.ld, _, ⟨fa ++ [b], g2, rfl, ⟨b, ws, ds, d0, fa, e, p, h1, rr, rfl⟩, r⟩, n, dd⟩
  · cases h2
  · cases h2
/-- the items, the owned ones by their values alone -/
def ds0 : List O → List V → List D → List D
  | .z :: os, _ :: vs, d :: ds => d :: ds0 os vs ds
  | _ :: os, v :: vs, _ :: ds => .opq v :: ds0 os vs ds
  | _, _, _ => []
def okO : List O → List D → Bool
  | .z :: os, _ :: ds => okO os ds
  | .c .z :: os, d :: ds => isLst d && okO os ds
  | [], [] => true
  | _, _ => false
def packO : Nat → List O → O → O
  | _, [], o => o
  | j, .z :: os, o => packO (j + 1) os o
  | j, _ :: os, o => packO (j + 1) os (.k j o)
theorem ds0_rep : ∀ {os : List O} {ds : List D} {vs : List V} {La L : List Cell}, EnvR os (ds.map some) (vs.map some) La → okO os ds = true → Stt C F P Lk (La ++ L) H → RepL C F vs (ds0 os vs ds) ∧ vs.length = ds.length
  | [], [], vs, La, L, h, _, S => by
    cases vs with
    | nil => exact ⟨.nil, rfl⟩
    | cons _ _ => cases h
  | [], _ :: _, vs, La, L, h, k, S => by simp [okO] at k
  | o :: os, [], vs, La, L, h, k, S => by cases o <;> (try cases ‹O›) <;> simp [okO] at k
  | o :: os, d :: ds, vs, La, L, h, k, S => by
    cases vs with
    | nil => cases h
    | cons v vs =>
      cases h with
      | «have» h =>
        cases o with
        | z =>
          obtain ⟨r, l⟩ := ds0_rep h (by simpa [okO] using k) S.tail
          exact ⟨.cons (Stt.rep S) r, by simp [l]⟩
        | c o' =>
          cases o' with
          | z =>
            obtain ⟨r, l⟩ := ds0_rep h (by simp [okO] at k; exact k.2) S.tail
            exact ⟨.cons (.opq v) r, by simp [l]⟩
          | _ => simp [okO] at k
        | _ => simp [okO] at k
theorem packs {build : List D → D} {n : Nat} (hb : ∀ (xs : List D) (j : Nat) (x y : D), xs.length = n → xs[j]? = some x → setJ (build xs) j y = some (build (xs.set j y), x)) :
    ∀ {os : List O} {ds : List D} {vs : List V} {La L : List Cell} {pre : List D} {o : O}, EnvR os (ds.map some) (vs.map some) La → okO os ds = true → pre.length + ds.length = n → Stt C F P Lk ((o, v, build (pre ++ ds0 os vs ds)) :: (La ++ L)) H → Stt C F P Lk ((packO pre.length os o, v, build (pre ++ ds)) :: L) H
  | [], [], vs, La, L, pre, o, h, k, hn, S => by
    cases vs with
    | nil => cases h; exact S
    | cons _ _ => cases h
  | [], _ :: _, vs, La, L, pre, o, h, k, hn, S => by simp [okO] at k
  | o' :: os, [], vs, La, L, pre, o, h, k, hn, S => by cases o' <;> (try cases ‹O›) <;> simp [okO] at k
  | o' :: os, d :: ds, vs, La, L, pre, o, h, k, hn, S => by
    cases vs with
    | nil => cases h
    | cons w vs =>
      cases h with
      | @«have» _ _ _ _ _ _ La h =>
        cases o' with
        | z =>
          have S2 : Stt C F P Lk ((o, v, build ((pre ++ [d]) ++ ds0 os vs ds)) :: (La ++ L)) H := by
            have e : (pre ++ [d]) ++ ds0 os vs ds = pre ++ ds0 (.z :: os) (w :: vs) (d :: ds) := by simp [ds0]
            rw [e]
            exact (S.perm (List.Perm.swap _ _ _)).tail
          have z := packs hb h (by simpa [okO] using k) (by simp at hn ⊢; omega) S2
          simpa [packO] using z
        | c o'' =>
          cases o'' with
          | z =>
            simp [okO] at k
            obtain ⟨k1, k2⟩ := k
            cases d with
            | lst es =>
              have hlen : (ds0 os vs ds).length = ds.length := by
                have : RepL C F vs (ds0 os vs ds) ∧ vs.length = ds.length := ds0_rep h k2 (S.tail.tail)
                rw [← this.1.length, this.2]
              have e0 : pre ++ ds0 (.c .z :: os) (w :: vs) (.lst es :: ds) = pre ++ .opq w :: ds0 os vs ds := by simp [ds0]
              have hs := hb (pre ++ .opq w :: ds0 os vs ds) pre.length (.opq w) (.lst es) (by simp [hlen] at hn ⊢; omega) (by simp)
              have e1 : (pre ++ .opq w :: ds0 os vs ds).set pre.length (.lst es) = (pre ++ [.lst es]) ++ ds0 os vs ds := by simp
              rw [e1] at hs
              rw [e0] at S
              have S2 := Stt.closeJ (L := La ++ L) S hs
              have z := packs hb h k2 (by simp at hn ⊢; omega) S2
              simpa [packO] using z
            | _ => cases k1
          | _ => simp [okO] at k
        | _ => simp [okO] at k
end
section
variable {X : Cx} {W : WX} {G : List O} {e : Expr} {es : List Expr} {pos : Pos}
/-- [.., ..] with owned lists among the items -/
def eLstP (os : List O) (k : SA) : SE := fun r => (k r).bind fun ds r1 => if ds.length ≤ sizeLine ∧ okO os ds = true then .ok (.lst ds) r1 else .stk
theorem de_lstP {k : SA} {mv : List (Option Nat)} {os : List O} (h : PA X es (tDM C W G k mv os)) : PE X (.List es pos) (tD C W G (eLstP os k) (packO 0 os (.c .z))) := by
  refine PE_weak (pe_lst h) fun σ H Q q => ?_
  obtain ⟨F, P, Lk, r, E, q⟩ := q
  refine ⟨F, P, Lk, r, E, (RD.bind (k := fun ds r1 => if ds.length ≤ sizeLine ∧ okO os ds = true then Res.ok (D.lst ds) r1 else Res.stk) q).mono fun ds r1 q1 xs F1 H1 La x1 R1 E1 _ => ?_⟩
  split at q1
  · rename_i hz
    obtain ⟨L, e1, S1⟩ := E1
    obtain ⟨rr, l⟩ := ds0_rep R1 hz.2 S1
    refine ⟨by rw [l]; exact hz.1, fun p hp => ?_⟩
    have S2 := SttH.closeL ((Stt.hole S1 hp).zcell rr) rr.length
    have S3 := packs (build := .lst) (n := ds.length) (pre := []) (fun ys j x y hl hj => by simp [setJ, hj]) R1 hz.2 (by simp) S2
    exact q1 _ _ _ x1 ⟨L, e1, S3⟩
  · exact q1.elim
/-! {k: v, ..} -/
def PairsOf (C : Cfg) (W : WX) (G : List O) (ks : List Str) (k : SA) (os : List O) (trs : List (TE × TE)) : Prop :=
  ∀ σ H Q, tDM C W G k [] os σ H (fun vs H2 => Q ((ks.map V.str).zip vs) H2) → tPairs trs σ H Q
theorem pairs_nil : PairsOf C W G [] aNil [] [] := fun σ H Q q => by
  obtain ⟨F, P, Lk, r, E, q⟩ := q
  exact q [] F H [] (Ext.refl F) .nil E fun j i h => by simp at h
theorem pairs_cons {key : Str} {f : SE} {o : O} {ks : List Str} {k : SA} {os : List O} {trs : List (TE × TE)} (h : PairsOf C W G ks k os trs) : PairsOf C W G (key :: ks) (aCons f k) (o :: os) ((tC (.str key), tD C W G f o) :: trs) := fun σ H Q q => by
  obtain ⟨F, P, Lk, r, E, q⟩ := q
  show tD C W G f o σ H _
  refine ⟨F, P, Lk, r, E, (RD.bind q).mono fun dx r1 q1 x F1 H1 x1 E1 => ?_⟩
  obtain ⟨P', E1', eP, unp⟩ := E1.park
  refine h _ _ _ ⟨F1, P', Lk, r1, E1', (RD.bind (q1.ext x1 eP)).mono fun ds r2 q2 vs F2 H2 La x2 R2 E2 mv2 => ?_⟩
  have E3 := unp F2 H2 Lk La G r2 σ x2 E2
  exact q2 (x :: vs) F2 H2 ((o, x, dx) :: La) (x1.trans x2) (.have R2) E3 fun j i h => by simp at h
def eDisp (ks : List Str) (os : List O) (k : SA) : SE := fun r => (k r).bind fun ds r1 => if ds.length = ks.length ∧ okO os ds = true then .ok (.dct false ((ks.map D.str).zip ds)) r1 else .stk
theorem mergeK_new : ∀ (more kvs : List (Key × V)), ((kvs ++ more).map (·.1)).Nodup → L2.mergeK kvs more = kvs ++ more
  | [], kvs, _ => by simp [L2.mergeK]
  | p :: more, kvs, h => by
    have e : L2.mergeK kvs (p :: more) = L2.mergeK (putK kvs p.1 p.2) more := rfl
    have np : ¬ (kvs.any fun kv => decide (kv.1 = p.1)) = true := by
      intro z
      obtain ⟨q, hq, e⟩ := List.any_eq_true.mp z
      have e := of_decide_eq_true e
      rw [List.map_append, List.nodup_append] at h
      exact h.2.2 q.1 (List.mem_map_of_mem hq) p.1 (by simp) e
    have e2 : putK kvs p.1 p.2 = kvs ++ [p] := by unfold putK; rw [if_neg np]
    rw [e, e2, mergeK_new more (kvs ++ [p]) (by simpa using h)]
    simp
theorem de_disp {ks : List Str} {os : List O} {k : SA} {keys : List (Option Expr)} {values : List Expr} {trs : List (TE × TE)} (hp : PPs X pos keys values trs) (h : PairsOf C W G ks k os trs) (hnd : ks.Nodup) (hk : ks.length ≤ 15) (hall : keys.all (·.isSome) = true) (hl : keys.length = values.length) (h0 : keys ≠ []) (h15 : keys.length ≤ 15) :
    PE X (.Dict keys values pos) (tD C W G (eDisp ks os k) (packO 0 os (.c .z))) := by
  refine PE_weak (pe_disp hp hall hl h0 h15) fun σ H Q q p hp => ?_
  obtain ⟨F, P, Lk, r, E, q⟩ := q
  obtain ⟨L0, e0, S0⟩ := E
  have S1 : Stt C F P Lk ((.c .z, .ref p, .dct false []) :: L0) (upd H p (.dK [])) := SttH.closeK (kvs := []) (ds := []) (o := .z) (Stt.hole S0 hp) rfl
  have E1 : EnvX C [(.c .z, .ref p, .dct false [])] F P Lk G r σ (upd H p (.dK [])) := ⟨L0, e0, S1⟩
  obtain ⟨P', E1', eP, unp⟩ := E1.park
  refine h _ _ _ ⟨F, P', Lk, r, E1', ((RD.bind (k := fun ds r1 => if ds.length = ks.length ∧ okO os ds = true then Res.ok (D.dct false ((ks.map D.str).zip ds)) r1 else Res.stk) q).ext (Ext.refl F) eP).mono fun ds r1 q1 xs F1 H1 La x1 R1 E2 _ => ?_⟩
  have E3 := unp F1 H1 Lk La G r1 σ x1 E2
  split at q1
  · rename_i hz
    obtain ⟨L, e1, S2⟩ := E3
    have S2 : Stt C F1 P Lk ((.c .z, .ref p, .dct false []) :: (La ++ L)) H1 := S2
    obtain ⟨rr, l⟩ := ds0_rep R1 hz.2 S2.tail
    obtain ⟨a, kvs, es, ea, hd, lk, ez, S3⟩ := Stt.openK S2
    cases ea
    have kn : kvs = [] := by
      cases kvs with
      | nil => rfl
      | cons _ _ => cases es with
        | nil => simp at lk
        | cons _ _ => simp at ez
    subst kn
    have en : es = [] := by cases es with | nil => rfl | cons _ _ => simp at lk
    subst en
    have lx : xs.length = ks.length := by rw [l]; exact hz.1
    refine ⟨hd, (ks.map Sum.inr).zip xs, ?_, by simp [lx]; omega, ?_⟩
    · rw [List.zip_map_left, List.zip_map_left, List.map_map]
      rfl
    · have e2 : L2.mergeK [] ((ks.map (Sum.inr : Str → Key)).zip xs) = (ks.map Sum.inr).zip xs := by
        rw [mergeK_new]
        · rfl
        · rw [List.nil_append, zip_fst (by simp [lx])]
          exact List.pairwise_map.mpr (hnd.imp fun h e => h (Sum.inr.inj e))
      rw [e2]
      have es2 : ((ks.map (Sum.inr : Str → Key)).zip xs).map (·.2) = xs := zip_snd (by simp [lx])
      have ek : ((ks.map (Sum.inr : Str → Key)).zip xs).map (fun p => keyD p.1) = ks.map D.str := by
        have z : ((ks.map (Sum.inr : Str → Key)).zip xs).map (fun p => keyD p.1) = (((ks.map (Sum.inr : Str → Key)).zip xs).map (fun p => p.1)).map keyD := by rw [List.map_map]; rfl
        rw [z, zip_fst (by simp [lx]), List.map_map]
        rfl
      have S4 : SttH C F1 P Lk [p] (cellsOf .z (((ks.map (Sum.inr : Str → Key)).zip xs).map (·.2)) (ds0 os xs ds) ++ (La ++ L)) H1 := by
        rw [es2]
        exact SttH.zcell rr S3
      have S5 := S4.closeK (by rw [List.length_zip, List.length_map, lx, Nat.min_self, ← rr.length, lx])
      rw [ek] at S5
      have S6 := packs (build := fun ys => .dct false ((ks.map D.str).zip ys)) (n := ds.length) (pre := []) (fun ys j x y hl hj => by
        have hkj : j < ks.length := by rw [← hz.1, ← hl]; exact (List.getElem?_eq_some_iff.mp hj).1
        have hk' : (ks.map D.str)[j]? = some (D.str ks[j]) := by simp [hkj]
        have hz2 : ((ks.map D.str).zip ys)[j]? = some (D.str ks[j], x) := List.getElem?_zip_eq_some.mpr ⟨hk', hj⟩
        simp only [setJ, hz2, Option.map_some]
        rw [zip_set_r hk']) R1 hz.2 (by simp) S5
      exact q1 _ _ _ x1 ⟨L, e1, S6⟩
  · exact q1.elim
end
end DL
set_option Elab.async false
set_option linter.all false
set_option autoImplicit false
set_option maxHeartbeats 1000000
/-! the data layer, part 25: x[k].m(..), x a thing one item of which is owned; the arguments may read x -/
namespace DL
open PySem PySem.Spec PyProof.Rows L2
variable {C : Cfg}
mutual
def tfl : D → Bool
  | .non => true
  | .bl _ => true
  | .int _ => true
  | .str _ => true
  | .tup xs => tflL xs
  | _ => false
def tflL : List D → Bool
  | [] => true
  | x :: xs => tfl x && tflL xs
end
def otf : D → Bool
  | .lst xs => tflL xs
  | _ => false
mutual
theorem tfl_rep {F F' : Hp} (k : ∀ a xs, F a = some (.tup xs) → F' a = some (.tup xs)) : ∀ {v : V} {d : D}, Rep C F v d → tfl d = true → Rep C F' v d
  | _, _, .non, _ => .non
  | _, _, .bl b, _ => .bl b
  | _, _, .int b, _ => .int b
  | _, _, .str b, _ => .str b
  | _, _, .tup h r, t => .tup (k _ _ h) (tflL_rep k r (by simpa [tfl] using t))
  | _, _, .opq _, t => by simp [tfl] at t
  | _, _, .lst _ _, t => by simp [tfl] at t
  | _, _, .ktup _ _, t => by simp [tfl] at t
  | _, _, .klst _ _, t => by simp [tfl] at t
  | _, _, .dK _ _, t => by simp [tfl] at t
  | _, _, .dT _ _, t => by simp [tfl] at t
  | _, _, .ins _ _ _, t => by simp [tfl] at t
theorem tflL_rep {F F' : Hp} (k : ∀ a xs, F a = some (.tup xs) → F' a = some (.tup xs)) : ∀ {vs : List V} {ds : List D}, RepL C F vs ds → tflL ds = true → RepL C F' vs ds
  | _, _, .nil, _ => .nil
  | _, _, .cons h r, t => by
    simp [tflL] at t
    exact .cons (tfl_rep k h t.1) (tflL_rep k r t.2)
end
/-- the slots: the frozen ones as they were, the owned lists as they are now -/
def mixE : List O → DL.Env → DL.Env → DL.Env
  | .z :: G, x :: r, _ :: r2 => x :: mixE G r r2
  | .c .z :: G, _ :: r, y :: r2 => y :: mixE G r r2
  | _ :: G, _ :: r, _ :: r2 => none :: mixE G r r2
  | _, _, _ => []
def keepOk : List O → DL.Env → Bool
  | .c .z :: G, some d :: r2 => otf d && keepOk G r2
  | _ :: G, _ :: r2 => keepOk G r2
  | _, _ => true
def sameC : List O → List O → Bool
  | .c .z :: G, g :: G2 => decide (g = .c .z) && sameC G G2
  | _ :: G, _ :: G2 => sameC G G2
  | [], [] => true
  | _, _ => false
theorem sameC_set : ∀ (G : List O) (i : Nat) {j : Nat} {o : O}, G[i]? = some (.k j o) → sameC G (G.set i .z) = true := by
  have refl : ∀ G : List O, sameC G G = true := by
    intro G
    induction G with
    | nil => rfl
    | cons g G ih =>
      cases g with
      | c o => cases o <;> simp [sameC, ih]
      | _ => simp [sameC, ih]
  intro G
  induction G with
  | nil => intro i j o h; simp at h
  | cons g G ih =>
    intro i j o h
    cases i with
    | zero => simp at h; subst h; simp [sameC, refl]
    | succ i =>
      have := ih i (j := j) (o := o) (by simpa using h)
      cases g with
      | c o => cases o <;> simp [sameC, this]
      | _ => simp [sameC, this]
theorem mix_env {F2 F' H2 H3 : Hp} {bad : Addr → Prop} (ho : ∀ v d f, Own C F2 H2 (.c .z) v d f → otf d = true → (∀ a ∈ f, ¬ bad a) → Own C F' H3 (.c .z) v d f) : ∀ {G : List O} {r : DL.Env} {σ : L2.St} {L : List Cell}, EnvR G r σ L → (∀ v d, (O.z, v, d) ∈ L → Rep C F' v d) →
    ∀ {G2 : List O} {r2 : DL.Env} {L2 : List Cell}, EnvR G2 r2 σ L2 → sameC G G2 = true → keepOk G r2 = true → ∀ {f2 : List Addr}, Owns C F2 H2 L2 f2 → (∀ a ∈ f2, ¬ bad a) → ∃ L' f', EnvR G (mixE G r r2) σ L' ∧ Owns C F' H3 L' f' ∧ f'.Sublist f2
  | [], r, σ, L, e, hz, G2, r2, L2, e2, sc, ko, f2, ow, hb => by
    cases e
    cases e2
    exact ⟨[], [], .nil, rfl, List.nil_sublist _⟩
  | g :: G, r, σ, L, e, hz, G2, r2, L2, e2, sc, ko, f2, ow, hb => by
    -- the tails
    have tails : ∃ x r' s σ' Lx L', r = x :: r' ∧ σ = s :: σ' ∧ L = Lx ++ L' ∧ EnvR G r' σ' L' ∧ ((x = none ∧ Lx = []) ∨ ∃ d v, x = some d ∧ s = some v ∧ Lx = [(g, v, d)]) := by
      cases e with
      | skip h => exact ⟨_, _, _, _, [], _, rfl, rfl, rfl, h, .inl ⟨rfl, rfl⟩⟩
      | @«have» _ v d _ _ _ Lq h => exact ⟨_, _, _, _, [(g, v, d)], Lq, rfl, rfl, rfl, h, .inr ⟨d, v, rfl, rfl, rfl⟩⟩
    obtain ⟨x, r', s, σ', Lx, L', rfl, rfl, rfl, e', hx⟩ := tails
    have tails2 : ∃ g2 G2' y r2' Ly L2', G2 = g2 :: G2' ∧ r2 = y :: r2' ∧ L2 = Ly ++ L2' ∧ EnvR G2' r2' σ' L2' ∧ ((y = none ∧ Ly = []) ∨ ∃ d v, y = some d ∧ s = some v ∧ Ly = [(g2, v, d)]) := by
      cases e2 with
      | skip h => exact ⟨_, _, _, _, [], _, rfl, rfl, rfl, h, .inl ⟨rfl, rfl⟩⟩
      | @«have» oq v d _ _ _ Lq h => exact ⟨_, _, _, _, [(_, v, d)], Lq, rfl, rfl, rfl, h, .inr ⟨d, v, rfl, rfl, rfl⟩⟩
    obtain ⟨g2, G2', y, r2', Ly, L2', rfl, rfl, rfl, e2', hy⟩ := tails2
    obtain ⟨f3, f4, rfl, o3, o4⟩ := ow.split
    have hz' : ∀ v d, (O.z, v, d) ∈ L' → Rep C F' v d := fun v d m => hz v d (List.mem_append_right _ m)
    have hb' : ∀ a ∈ f4, ¬ bad a := fun a m => hb a (List.mem_append_right _ m)
    have sc' : sameC G G2' = true := by
      cases g with
      | c o => cases o <;> simp [sameC] at sc <;> first | exact sc.2 | exact sc
      | _ => simpa [sameC] using sc
    have ko' : keepOk G r2' = true := by
      cases g with
      | c o => cases o <;> cases y <;> simp [keepOk] at ko <;> first | exact ko.2 | exact ko
      | _ => simpa [keepOk] using ko
    obtain ⟨Lm, fm, em, om, sm⟩ := mix_env ho e' hz' e2' sc' ko' o4 hb'
    have sm' : fm.Sublist (f3 ++ f4) := sm.trans (List.sublist_append_right f3 f4)
    have other : (∀ X : Prop, X → X) → ∃ L' f', EnvR (g :: G) (none :: mixE G r' r2') (s :: σ') L' ∧ Owns C F' H3 L' f' ∧ f'.Sublist (f3 ++ f4) := fun _ => ⟨Lm, fm, .skip em, om, sm'⟩
    cases g with
    | z =>
      show ∃ L' f', EnvR (.z :: G) (x :: mixE G r' r2') (s :: σ') L' ∧ _
      rcases hx with ⟨rfl, rfl⟩ | ⟨d, v, rfl, rfl, rfl⟩
      · exact other fun _ h => h
      · exact ⟨(.z, v, d) :: Lm, fm, .have em, ⟨[], fm, rfl, ⟨hz v d (by simp), rfl⟩, om⟩, sm'⟩
    | c o =>
      cases o with
      | z =>
        show ∃ L' f', EnvR (.c .z :: G) (y :: mixE G r' r2') (s :: σ') L' ∧ _
        rcases hy with ⟨rfl, rfl⟩ | ⟨d, v, rfl, rfl, rfl⟩
        · exact other fun _ h => h
        · simp [sameC] at sc
          simp [keepOk] at ko
          obtain ⟨rfl, _⟩ := sc
          obtain ⟨h1, h2, rfl, p, q⟩ := o3
          have q : h2 = [] := q
          subst q
          refine ⟨(.c .z, v, d) :: Lm, h1 ++ fm, .have em, ⟨h1, fm, rfl, ho v d h1 p ko.1 (fun a m => hb a (by simp [m])), om⟩, ?_⟩
          rw [List.append_nil]
          exact (List.Sublist.refl h1).append sm
      | _ => exact other fun _ h => h
    | _ => exact other fun _ h => h
section
variable {X : Cx} {W : WX} {G : List O} {e e2 : Expr} {es : List Expr} {F P H : Hp} {Lk : Lock} {r : DL.Env} {σ : L2.St} {i j : Nat} {o : O} {d : D}
theorem set_sameL {α : Type} {xs : List α} {i : Nat} {x : α} (h : xs[i]? = some x) : xs.set i x = xs := set_sameJ h
/-- one owned thing is frozen for a while -/
theorem EnvX.view1 {M : List Cell} {v : V} (h : EnvX C M F P Lk G (r.set i none) σ H) (hG : G[i]? = some (.k j o)) (hr : r[i]? = some (some d)) (hs : σ[i]? = some (some v)) (hR : ∀ G', (∀ x ∈ M, Rep C G' x.2.1 x.2.2) → Rep C G' v d) : ∃ F1 fp, Ext F F1 ∧ EnvX C [] F1 P Lk (G.set i .z) r σ H ∧
    ∀ F2 H2 r2, Ext F1 F2 → EnvX C [] F2 P Lk (G.set i .z) r2 σ H2 → keepOk G r2 = true → Lkd fp H H2 ∧ ∀ H3, (∀ a ∈ fp, H3 a = H a) → (∀ a, a ∉ fp → H3 a = H2 a) →
      ∃ F', Ext F F' ∧ EnvX C M F' P Lk G (mixE G r r2) σ H3 ∧ ∀ vs ds, RepL C F2 vs ds → tflL ds = true → RepL C F' vs ds := by
  obtain ⟨L, e1, s1⟩ := h
  obtain ⟨fpa, oa, nd, dd⟩ := s1.ow
  obtain ⟨f1, f2, rfl, p1, p2⟩ := oa.split
  have nd' := List.nodup_append.mp nd
  have ag : ∀ a ∈ f1, join F (only H f1) a = H a := fun a ha => by rw [join_r (dd a (List.mem_append_left _ ha)).1, only_in ha]
  have jn : ∀ a, a ∉ f1 → join F (only H f1) a = F a := fun a ha => by
    unfold join
    rw [only_out ha]
    simp
  have S1 : Stt C (join F (only H f1)) P Lk L H := by
    refine ⟨fun a ob q => ?_, s1.pe, fun a ob q => ?_, s1.ld, f2, p2.keep join_ext fun _ _ => rfl, nd'.2.1, fun a ha => ⟨?_, (dd a (List.mem_append_right _ ha)).2⟩⟩
    · by_cases ha : a ∈ f1
      · rw [ag a ha] at q
        unfold lk
        rw [s1.ld.1 a]
        exact q
      · rw [jn a ha] at q
        exact s1.le a ob q
    · by_cases ha : a ∈ f1
      · have z := (dd a (List.mem_append_left _ ha)).2
        rw [q] at z; cases z
      · rw [jn a ha]; exact s1.dj a ob q
    · rw [jn a fun z => nd'.2.2 a z a ha rfl]
      exact (dd a (List.mem_append_right _ ha)).1
  have reps : ∀ (M : List Cell) (g : List Addr), (∀ a ∈ g, join F (only H f1) a = H a) → Owns C F H M g → ∀ x ∈ M, Rep C (join F (only H f1)) x.2.1 x.2.2 := by
    intro M
    induction M with
    | nil => intro g _ _ x hx; simp at hx
    | cons y ys ih =>
      rintro g ag ⟨g1, g2, rfl, p, q⟩ x hx
      rcases List.mem_cons.mp hx with rfl | hx
      · exact p.rep join_ext fun a ha => ag a (List.mem_append_left _ ha)
      · exact ih g2 (fun a ha => ag a (List.mem_append_right _ ha)) q x hx
  have Rv : Rep C (join F (only H f1)) v d := hR _ (reps M f1 ag p1)
  have hi : i < r.length := (List.getElem?_eq_some_iff.mp hr).1
  have E1 : EnvX C [] (join F (only H f1)) P Lk (G.set i .z) r σ H := by
    have z : EnvX C [(.z, v, d)] (join F (only H f1)) P Lk G (r.set i none) σ H := ⟨L, e1, S1.zcons Rv⟩
    have y := z.put (i := i) (by simpa using hi)
    rw [List.set_set, set_sameL hr, set_sameL hs] at y
    exact y
  refine ⟨_, f1, join_ext, E1, fun F2 H2 r2 x2 E2 ko => ?_⟩
  obtain ⟨L2, e2, s2⟩ := E2
  have s2 : Stt C F2 P Lk L2 H2 := s2
  have live := p1.live
  have noT := p1.noT
  refine ⟨fun a ha => ?_, fun H3 h3 n3 => ?_⟩
  · obtain ⟨ob, hb⟩ := live a ha
    refine ⟨ob, hb, ?_⟩
    rcases x2 a ob (by rw [ag a ha]; exact hb) with z | ⟨z1, ob2, z⟩
    · exact .inl (s2.at z)
    · exact .inr ⟨z1, ob2, s2.at z⟩
  · have xF : Ext F (fun a => if a ∈ f1 then none else F2 a) := fun a ob q => by
      have ha : a ∉ f1 := fun z => by rw [(dd a (List.mem_append_left _ z)).1] at q; cases q
      dsimp only
      rw [if_neg ha]
      exact x2 a ob (by rw [jn a ha]; exact q)
    have tk : ∀ a xs, F2 a = some (.tup xs) → (fun a => if a ∈ f1 then none else F2 a) a = some (.tup xs) := fun a xs q => by
      have ha : a ∉ f1 := fun z => by
        obtain ⟨ob, hb⟩ := live a z
        rcases x2 a ob (by rw [ag a z]; exact hb) with y | ⟨y1, ob2, y⟩
        · rw [q] at y
          cases y
          exact noT a z xs hb
        · rw [q] at y; cases y
      dsimp only
      rw [if_neg ha]
      exact q
    obtain ⟨g2, og2, ng2, dg2⟩ := s2.ow
    have hbad : ∀ a ∈ g2, ¬ a ∈ f1 := fun a ha z => by
      obtain ⟨ob, hb⟩ := live a z
      have fn := (dg2 a ha).1
      rcases x2 a ob (by rw [ag a z]; exact hb) with y | ⟨_, ob2, y⟩ <;> rw [fn] at y <;> cases y
    have ho : ∀ w dw f, Own C F2 H2 (.c .z) w dw f → otf dw = true → (∀ a ∈ f, ¬ a ∈ f1) → Own C (fun a => if a ∈ f1 then none else F2 a) H3 (.c .z) w dw f := by
      rintro w dw f ⟨a, fps, ew, ef, q⟩ ot nb
      subst ew ef
      have ha : a ∉ f1 := nb a (by simp)
      rcases q with ⟨ws, ds, q1, q2, q3⟩ | ⟨kvs, ds, q1, q2, q3⟩ | ⟨kvs, ds, q1, q2, q4, q3⟩
      · subst q2
        obtain ⟨rr, rfl⟩ := OwnL.z_rep q3
        refine ⟨a, [], rfl, rfl, .inl ⟨ws, ds, by rw [n3 a ha]; exact q1, rfl, ?_⟩⟩
        have z : ∀ {Fx : Hp} {ws : List V} {ds : List D}, RepL C Fx ws ds → OwnL (Own C Fx H3 .z) ws ds [] := by
          intro Fx ws
          induction ws with
          | nil => intro ds r; cases r; rfl
          | cons x xs ih => intro ds r; cases r with | cons p q => exact ⟨[], [], rfl, ⟨p, rfl⟩, ih q⟩
        exact z (tflL_rep tk rr (by simpa [otf] using ot))
      · subst q2; cases ot
      · subst q2; cases ot
    have sc := sameC_set G i hG
    have hz : ∀ w dw, (O.z, w, dw) ∈ L → Rep C (fun a => if a ∈ f1 then none else F2 a) w dw := fun w dw m => (Stt.rep_mem s1.drop m).mono xF
    obtain ⟨L', f', em, om, sm⟩ := mix_env (bad := fun a => a ∈ f1) ho e1 hz e2 sc ko og2 hbad
    have mx : mixE G (r.set i none) r2 = mixE G r r2 := by
      have z : ∀ (G : List O) (r r2 : DL.Env) (i : Nat), G[i]? = some (.k j o) → mixE G (r.set i none) r2 = mixE G r r2 := by
        intro G
        induction G with
        | nil => intro r r2 i h; simp at h
        | cons g G ih =>
          intro r r2 i h
          cases r with
          | nil => rfl
          | cons x r =>
            cases r2 with
            | nil => cases i <;> cases g <;> (try cases ‹O›) <;> rfl
            | cons y r2 =>
              cases i with
              | zero => simp at h; subst h; rfl
              | succ i =>
                have := ih r r2 i (by simpa using h)
                cases g <;> (try cases ‹O›) <;> simp [mixE, this]
      exact z G r r2 i hG
    rw [mx] at em
    refine ⟨_, xF, ⟨L', em, ?_⟩, fun vs ds rr t => tflL_rep tk rr t⟩
    refine ⟨fun a ob q => ?_, fun a ob q => ?_, fun a ob q => ?_, s1.ld, f1 ++ f', (p1.keep xF h3).append om, ?_, fun a ha => ?_⟩
    · have q : (if a ∈ f1 then none else F2 a) = some ob := q
      by_cases ha : a ∈ f1
      · rw [if_pos ha] at q; cases q
      · rw [if_neg ha] at q
        rw [n3 a ha]
        exact s2.le a ob q
    · have ha : a ∉ f1 := fun z => by have := (dd a (List.mem_append_left _ z)).2; rw [q] at this; cases this
      rw [n3 a ha]
      exact s2.pe a ob q
    · show (if a ∈ f1 then none else F2 a) = none
      by_cases ha : a ∈ f1
      · exact if_pos ha
      · rw [if_neg ha]; exact s2.dj a ob q
    · refine List.nodup_append.mpr ⟨nd'.1, ng2.sublist sm, fun a ha b hb e => ?_⟩
      subst e
      exact hbad a (sm.subset hb) ha
    · rcases List.mem_append.mp ha with ha | ha
      · exact ⟨if_pos ha, (dd a (List.mem_append_left _ ha)).2⟩
      · have hb := hbad a (sm.subset ha)
        exact ⟨by show (if a ∈ f1 then none else F2 a) = none; rw [if_neg hb]; exact (dg2 a (sm.subset ha)).1, (dg2 a (sm.subset ha)).2⟩
/-! x[k].m(..) -/
theorem pa_unlockO {t : TA} (h : PA X es t) : PA X es (fun σ H Q => ∃ fp, t σ H fun vs H2 => Lkd fp H H2 ∧ ∀ H3, (∀ a ∈ fp, H3 a = H a) → (∀ a, a ∉ fp → H3 a = H2 a) → Q vs H3) := ⟨fun pos pins s σ H Q I hw => by
  obtain ⟨fp, hw⟩ := hw
  refine thn (h.run pos pins s σ H _ I hw) fun us s1 hv => ?_
  obtain ⟨vs, H2, I2, r2, l, q⟩ := hv
  obtain ⟨H3, I3, h3, n3⟩ := unlock_all (H0 := H) I fp H2 I2 l
  exact ⟨vs, H3, I3, r2, q H3 h3 n3⟩⟩
theorem idx_setJ {d0 d ix x y : D} {j : Nat} (h : setJ d0 j x = some (d, y)) : idxD d ix = idxD d0 ix := by
  cases d0 with
  | lst xs =>
    simp only [setJ] at h
    obtain ⟨p, _, e⟩ := Option.map_eq_some_iff.mp h
    cases e
    cases ix <;> simp [idxD]
  | dct t kvs =>
    simp only [setJ] at h
    obtain ⟨p, hp, e⟩ := Option.map_eq_some_iff.mp h
    cases e
    cases t with
    | true => cases ix <;> rfl
    | false =>
      have z : ∀ (k : D) (kvs : List (D × D)) (j : Nat) (p : D × D), kvs[j]? = some p → (kvs.set j (p.1, x)).findIdx? (fun p => keyB p.1 k) = kvs.findIdx? fun p => keyB p.1 k := by
        intro k kvs
        induction kvs with
        | nil => intro j p h; simp at h
        | cons q kvs ih =>
          intro j p h
          cases j with
          | zero => simp at h; subst h; simp [List.findIdx?_cons]
          | succ j =>
            simp at h
            simp [List.findIdx?_cons, ih j p h]
      simp only [idxD]
      congr 1
      funext ky
      exact z ix kvs j p hp
  | _ => cases h
theorem raw_rep {Fx H : Hp} {v w y : V} {d0 ix x d : D} {j : Nat} (hx : ∀ a o, Fx a = some o → H a = some o) (R : Rep C Fx v d0) (h : setJ d0 j x = some (d, .opq w)) (hi : idxD d0 ix = some j) (Ry : Rep C Fx y ix) : ∃ a, v = .ref a ∧ RawAt H a y w := by
  have rdx : ∀ {a o}, Rd Fx a o → Rd H a o := fun h => by
    rcases h with h | ⟨u, h⟩
    · exact .inl (hx _ _ h)
    · exact .inr ⟨u, hx _ _ h⟩
  cases R with
  | @lst a vs ds h1 r =>
    refine ⟨a, rfl, ?_⟩
    simp only [setJ] at h
    obtain ⟨p, hp, e⟩ := Option.map_eq_some_iff.mp h
    cases e
    obtain ⟨w', hw, rw'⟩ := r.get hp
    cases rw'
    cases ix <;> simp only [idxD] at hi <;> try (cases hi; done)
    rename_i i
    cases rep_int Ry
    refine .inl ⟨vs, i, rfl, rdx h1, ?_⟩
    unfold atI
    rw [r.length, hi]
    exact hw
  | @dK a kvs ds h1 r =>
    refine ⟨a, rfl, ?_⟩
    simp only [setJ] at h
    obtain ⟨p, hp, e⟩ := Option.map_eq_some_iff.mp h
    obtain ⟨pk, pv⟩ := p
    cases e
    obtain ⟨hk, hd⟩ := List.getElem?_zip_eq_some.mp hp
    obtain ⟨w', hw, rw'⟩ := r.get hd
    cases rw'
    simp only [idxD] at hi
    obtain ⟨ky, hky, hi⟩ := Option.bind_eq_some_iff.mp hi
    have ek := toKey_some hky
    subst ek
    obtain ⟨q, hq, hval⟩ := find_rel (by simpa using r.length) hi
    have ey : y = kV ky := by cases ky <;> (cases Ry; rfl)
    subst ey
    have ew : q.2 = w := by
      rw [List.getElem?_map, hq] at hw
      simpa using hw
    rw [ew] at hval
    exact .inr ⟨kvs, ky, rdx h1, rfl, hval⟩
  | @dT a kvs ds h1 r => cases ix <;> cases hi
  | _ => cases h
def eMethK (n i j : Nat) (ix : D) (g : D → List D → Option (D × D)) (k : SA) (G : List O) : SE := fun r => match r[i]? with
  | some (some d) => if idxD d ix = some j then match getJ d j with
    | some (.lst xs) => (k r).bind fun ds r2 => if ds.length = n ∧ tflL ds = true ∧ keepOk G r2 = true then match g (.lst xs) ds with
        | some (dr, .lst ys) => match setJ d j (.lst ys) with
          | some (d', _) => .ok dr ((mixE G r r2).set i (some d'))
          | none => .stk
        | _ => .stk
      else .stk
    | _ => .stk
    else .stk
  | _ => .stk
theorem getJ_setJ {d0 d x y : D} {j : Nat} (h : setJ d0 j x = some (d, y)) : (∀ x2, getJ d j = some x2 → x2 = x) ∧ ∀ z d' o, setJ d j z = some (d', o) → setJ d0 j z = some (d', y) := by
  cases d0 with
  | lst xs =>
    simp only [setJ] at h
    obtain ⟨p, hp, e⟩ := Option.map_eq_some_iff.mp h
    cases e
    have hl : j < xs.length := (List.getElem?_eq_some_iff.mp hp).1
    refine ⟨fun x2 g => ?_, fun z d' o g => ?_⟩
    · simp [getJ, hl] at g
      exact g.symm
    · simp [setJ, hl] at g ⊢
      obtain ⟨rfl, _⟩ := g
      exact ⟨rfl, (List.getElem?_eq_some_iff.mp hp).2⟩
  | dct t kvs =>
    simp only [setJ] at h
    obtain ⟨p, hp, e⟩ := Option.map_eq_some_iff.mp h
    cases e
    have hl : j < kvs.length := (List.getElem?_eq_some_iff.mp hp).1
    refine ⟨fun x2 g => ?_, fun z d' o g => ?_⟩
    · cases t with
      | true => cases g
      | false =>
        simp [getJ, hl] at g
        exact g.symm
    · simp [setJ, hl] at g ⊢
      obtain ⟨rfl, _⟩ := g
      have := (List.getElem?_eq_some_iff.mp hp).2
      rw [this]
      exact ⟨rfl, rfl⟩
  | _ => cases h
theorem mixE_at : ∀ {G : List O} {r r2 : DL.Env} {i j : Nat} {o : O}, G.length = r.length → G.length = r2.length → G[i]? = some (.k j o) → (mixE G r r2)[i]? = some none
  | [], _, _, _, _, _, _, _, h => by simp at h
  | g :: G, [], _, _, _, _, l, _, _ => by simp at l
  | g :: G, x :: r, [], _, _, _, _, l, _ => by simp at l
  | g :: G, x :: r, y :: r2, 0, j, o, l1, l2, h => by simp at h; subst h; rfl
  | g :: G, x :: r, y :: r2, i + 1, j, o, l1, l2, h => by
    have ih := mixE_at (G := G) (r := r) (r2 := r2) (i := i) (j := j) (o := o) (by simpa using l1) (by simpa using l2) (by simpa using h)
    cases g with
    | c o => cases o <;> simpa [mixE] using ih
    | _ => simpa [mixE] using ih
theorem methK_hyp {n : Nat} {oo : O} {ix : D} {y : V} {g : D → List D → Option (D × D)} {k : SA} (hG : G[i]? = some (.k j o)) (hy : ∀ F, Rep C F y ix) {Q : VK} (q : tD C W G (eMethK n i j ix g k G) oo σ H Q) :
    tOp rRaw (tVar i) (tC y) σ H fun x H1 => tyV X.K "list" x H1 ∧ ∃ fp, tDA C W (G.set i .z) k σ H1 fun xs H2 => Lkd fp H1 H2 ∧ ∀ H3, (∀ a ∈ fp, H3 a = H1 a) → (∀ a, a ∉ fp → H3 a = H2 a) → rMe C (.c .z) oo (List.replicate n .z) g x xs H3 Q := by
  obtain ⟨F, P, Lk, r, E, q⟩ := q
  unfold eMethK at q
  split at q
  · rename_i d hd
    split at q
    · rename_i hix
      split at q
      · rename_i xs hgj
        obtain ⟨v, hs, E1⟩ := E.take hd hG
        obtain ⟨L1, e1, s1⟩ := E1
        have s1 : Stt C F P Lk ((.k j o, v, d) :: L1) H := s1
        obtain ⟨b, ds, d0, hset, s2⟩ := s1.openJ
        obtain ⟨gx, gset⟩ := getJ_setJ hset
        have ex := gx _ hgj
        cases ex
        have E2 : EnvX C [(o, v, d0), (.c .z, .ref b, .lst xs)] F P Lk G (r.set i none) σ H := ⟨L1, e1, s2⟩
        obtain ⟨F1, fp, x1, E3, back⟩ := E2.view1 hG hd hs fun G' hM => setJ_rep (hM (o, v, d0) (by simp)) hset (hM (.c .z, .ref b, .lst xs) (by simp))
        -- what the subscript reads
        have raw : ∃ a, v = .ref a ∧ RawAt H a y (.ref b) := by
          obtain ⟨fp0, ⟨f1, f2, rfl, p1, p2⟩, nd, dd⟩ := s2.ow
          have ag : ∀ a ∈ f1, join F (only H f1) a = H a := fun a ha => by rw [join_r (dd a (List.mem_append_left _ ha)).1, only_in ha]
          refine raw_rep (Fx := join F (only H f1)) (fun a ob q => ?_) (p1.rep join_ext ag) hset ?_ (hy _)
          · by_cases hf : F a = none
            · rw [join_r hf] at q
              by_cases ha : a ∈ f1
              · rw [only_in ha] at q; exact q
              · rw [only_out ha] at q; cases q
            · obtain ⟨o', ho'⟩ := Option.ne_none_iff_exists'.mp hf
              rw [join_l ho'] at q
              cases q
              exact s2.at ho'
          · rw [← idx_setJ hset]; exact hix
        obtain ⟨a, rfl, raw⟩ := raw
        have E2' : EnvX C [(.c .z, .ref b, .lst xs), (o, .ref a, d0)] F P Lk G (r.set i none) σ H := E2.perm (List.Perm.swap _ _ _)
        refine ⟨.ref a, hs, a, .ref b, rfl, raw, own_tyL E2' rfl, fp, F1, P, Lk, r, E3, ((RD.bind q).ext x1 (Sub.refl P)).mono fun ds r2 q2 vs F2 H2 x2 R2 E4 => ?_⟩
        split at q2
        · rename_i hc
          obtain ⟨hn, ht, ko⟩ := hc
          obtain ⟨lk, bk⟩ := back F2 H2 r2 x2 E4 ko
          refine ⟨lk, fun H3 h3 n3 => ?_⟩
          obtain ⟨F', x', E5, tr⟩ := bk H3 h3 n3
          split at q2
          · rename_i dr ys hg
            split at q2
            · rename_i d' old hset2
              have hset3 := gset _ _ _ hset2
              obtain ⟨L5, e5, s5⟩ := E5
              have s5 : Stt C F' P Lk ((o, .ref a, d0) :: (.c .z, .ref b, .lst xs) :: L5) H3 := s5
              obtain ⟨La, ra, s6⟩ := zEnv (tr vs ds R2 ht) s5
              have eos : (ds.map fun _ => O.z) = List.replicate n O.z := by rw [List.map_const', hn]
              rw [eos] at ra
              refine ⟨F', P, Lk, (o, .ref a, d0) :: L5, .lst xs, ds, .lst ys, dr, La, ra, s6.perm ?_, hg, fun w F6 H6 x6 s7 => ?_⟩
              · have p1 : (La ++ (o, V.ref a, d0) :: (O.c .z, V.ref b, D.lst xs) :: L5).Perm (La ++ (O.c .z, V.ref b, D.lst xs) :: (o, V.ref a, d0) :: L5) := (List.Perm.swap _ _ _).append_left La
                exact p1.trans List.perm_middle
              · have s8 : Stt C F6 P Lk ((o, .ref a, d0) :: (.c .z, .ref b, .lst ys) :: ((oo, w, dr) :: L5)) H6 := by
                  refine s7.perm ?_
                  refine (List.Perm.swap _ _ _).trans ?_
                  refine (((List.Perm.swap _ _ _)).cons _).trans ?_
                  exact List.Perm.swap _ _ _ |>.trans (List.Perm.refl _)
                have s9 := Stt.closeJ (L := (oo, w, dr) :: L5) s8 hset3
                have ln := E4.len
                have z := EnvX.back (T := [(oo, w, dr)]) (r := mixE G r r2) (d := d') (o := .k j o) (v := .ref a) (i := i) ⟨L5, e5, s9⟩ (mixE_at E.len.1 (by have := ln.1; simpa using this) hG) hG hs
                exact q2 w F6 H6 (x'.trans x6) z
            · exact q2.elim
          · exact q2.elim
        · exact q2.elim
      · exact q.elim
    · exact q.elim
  · exact q.elim
theorem de_methK {n : Nat} {x : Str} {p ip apos cpos : Pos} {name : Str} {id : String} {oo : O} {ix : D} {y : V} {g : D → List D → Option (D × D)} {k : SA} (hu : X.A.units + 1 < cLine) (pa : PlainAttrs "list") (slot : Slot "list" name id) (hty : typeOf (.builtin id) = pure (.type "method_descriptor")) (hm : MtR X id (rMe C (.c .z) oo (List.replicate n .z) g))
    (hG : G[i]? = some (.k j o)) (hN : X.N[i]? = some x) (hv : Vis X.env.scope x) (hi : PE X e2 (tC y)) (hy : ∀ F, Rep C F y ix) (hpl : PlainIx e2) (ha : PA X (e :: es) (tDA C W (G.set i .z) k)) (hd : (x == ("__debug__" : Str)) = false := by decide) (hcd : (x == ("__classdict__" : Str)) = false := by decide)
    (hbase : attributeBase (.Subscript (.Name x p) e2 ip) name X.env (eval (.Subscript (.Name x p) e2 ip) X.env) = eval (.Subscript (.Name x p) e2 ip) X.env := by rfl)
    (hfew : ((backTo cpos (starEach (e :: es) X.env)).all (fun x => !x.1) && (backToKw cpos (keywordEach [] X.env)).all (fun x => x.1.isSome) && decide ((e :: es).length + ([] : List Keyword).length + (if ([] : List Keyword).isEmpty then 0 else 1) < 30)) = true := by rfl)
    (hline : (apos.endLine == cpos.line) = true := by rfl) (hs : starEach (e :: es) X.env = (false, eval e X.env) :: starEach es X.env := by rfl) (hplain : (backTo cpos (starEach es X.env)).any (·.1) = false := by rfl) :
    PE X (.Call (.Attribute (.Subscript (.Name x p) e2 ip) name apos) (e :: es) [] cpos) (tD C W G (eMethK n i j ix g k G) oo) :=
  PE_weak (pe_bm pa slot hty hm (pe_ix (ix_raw hu) (pe_var hN hv hd hcd) hi hpl) (pa_unlockO ha) hbase hfew hline hs hplain) fun σ H Q q => methK_hyp hG hy q
end
end DL
set_option Elab.async false
set_option linter.all false
set_option autoImplicit false
set_option maxHeartbeats 1000000
/-! the data layer, part 26: {k: v for ..} with owned values; dict(pairs); list(range(..)) -/
namespace DL
open PySem PySem.Spec PyProof.Rows L2
variable {C : Cfg}
/-! ### {k: v for .. in ..}, the keys new -/
def dcLN (t : Tg) (vs : List Nat) (ts : ST) (fk f : SE) : List D → List (D × D) → DL.Env → Res (List (D × D))
  | [], acc, r => .ok acc r
  | d :: ds, acc, r => match t.put d r with
    | some r1 => bndN (ts r1) fun b r2 => if b = true then bndN (fk r2) fun k r3 => bndN (f r3) fun x r4 => if (toKey k).isSome = true ∧ acc.length < sizeLine ∧ (acc.any fun p => keyB p.1 k) = false then dcLN t vs ts fk f ds (acc ++ [(k, x)]) (wipeE r4 vs) else .stk
      else dcLN t vs ts fk f ds acc (wipeE r2 vs)
    | none => .stk
def eDcN (it : SI) (vs : List Nat) (t : Tg) (ts : ST) (fk f : SE) : SE := fun r => (it r).bind fun items r1 => bndN (dcLN t vs ts fk f items [] (wipeE r1 vs)) fun kds r2 => .ok (.dct false kds) (restE r1 vs r2)
theorem any_zip {ky : Key} : ∀ {kvs : List (Key × V)} {ds : List D}, kvs.length = ds.length → (((kvs.map fun p => keyD p.1).zip ds).any fun p => keyB p.1 (keyD ky)) = kvs.any fun kv => decide (kv.1 = ky)
  | [], _, _ => by simp
  | p :: kvs, [], l => by simp at l
  | p :: kvs, d :: ds, l => by
    simp only [List.map_cons, List.zip_cons_cons, List.any_cons]
    rw [any_zip (by simpa using l), keyB_key]
theorem Stt.putKN {F P H : Hp} {Lk : Lock} {L : List Cell} {a : Addr} {kds : List (D × D)} {y z : V} {ky : Key} {d : D} {o : O} (S : Stt C F P Lk ((.c o, .ref a, .dct false kds) :: ((o, z, d) :: L)) H) (Rk : Rep C F y (keyD ky)) (nw : (kds.any fun p => keyB p.1 (keyD ky)) = false) :
    ∃ kvs, y = kV ky ∧ H a = some (.dK kvs) ∧ kvs.length = kds.length ∧ Stt C F P Lk ((.c o, .ref a, .dct false (kds ++ [(keyD ky, d)])) :: L) (upd H a (.dK (putK kvs ky z))) := by
  obtain ⟨a', kvs, ds1, ea, h1, l, rfl, S2⟩ := Stt.openK S
  cases ea
  refine ⟨kvs, by cases ky <;> (cases Rk; rfl), h1, by simp [l], ?_⟩
  rw [any_zip l] at nw
  have e1 : putK kvs ky z = kvs ++ [(ky, z)] := by unfold putK; rw [nw]; rfl
  have e2 : ((kvs.map fun p => keyD p.1).zip ds1) ++ [(keyD ky, d)] = ((kvs ++ [(ky, z)]).map fun p => keyD p.1).zip (ds1 ++ [d]) := by
    rw [List.map_append, List.zip_append (by simp [l])]
    rfl
  rw [e1, e2]
  refine SttH.closeK (kvs := kvs ++ [(ky, z)]) (ds := ds1 ++ [d]) (o := o) (S2.perm ?_) (by simp [l])
  rw [List.map_append, cellsOf_append (by simpa using l), List.append_assoc]
  exact List.Perm.refl _
section
variable {X : Cx} {W : WX} {G : List O} {kx vx tg iter e : Expr} {ifs : List Expr} {pos : Pos}
theorem dcN_hyp {oe : O} {it : SI} {t : Tg} {ts : ST} {fk f : SE} {vs : List Nat} (hv : ∀ i ∈ vs, G[i]? = some .z) (ht : t.slots = vs) {σ : L2.St} {H : Hp} {Q : VK} (q : tD C W G (eDcN it vs t ts fk f) (.c oe) σ H Q) :
    tDc (tDI C W G it) (tDG C G t) (tDTs C G ts) (tD C W0 G fk .z) (tD C W0 G f oe) vs σ H Q := by
  obtain ⟨F, P, Lk, r, E, q⟩ := q
  refine ⟨F, P, Lk, r, E, (RD.bind q).mono fun items r1 q1 J F1 H1 x1 E1 Y Da hD => ?_⟩
  cases hl : dcLN t vs ts fk f items [] (wipeE r1 vs) with
  | stk => rw [hl] at q1; exact q1.elim
  | exc c fs => rw [hl] at q1; exact q1.elim
  | ok all r9 =>
    rw [hl] at q1
    have q1 : RD C W F P Lk σ (Res.ok (D.dct false all) (restE r1 vs r9)) _ := q1
    refine ⟨fun i m H' => m = items.length - i ∧ i ≤ items.length ∧ ∃ F' r' acc, Ext F1 F' ∧ EnvX C [(.c oe, .ref Da, .dct false acc)] F' P Lk G r' (wipe σ vs) H' ∧ dcLN t vs ts fk f (items.drop i) acc r' = .ok all r9,
      ⟨items.length, rfl, Nat.zero_le _, F1, _, [], Ext.refl _, ?_, by rw [List.drop_zero]; exact hl⟩, ?_⟩
    · obtain ⟨L, e, s⟩ := EnvX.wipe hv E1
      exact ⟨L, e, SttH.closeK (kvs := []) (ds := []) (o := oe) (Stt.hole s hD) rfl⟩
    · rintro i m H3 ⟨rfl, hi', F3, r3, acc, x3, E3, h3⟩
      obtain ⟨L3, e3, S3⟩ := id E3
      by_cases hlt : i < items.length
      · refine .inr ⟨Y.go i F3 P Lk _ H3 x3 S3 hlt, fun H' => ∃ F' r' acc, Ext F1 F' ∧ EnvX C [(.c oe, .ref Da, .dct false acc)] F' P Lk G r' (wipe σ vs) H' ∧ dcLN t vs ts fk f (items.drop (i + 1)) acc r' = .ok all r9,
          fun H' ⟨F', r', acc', z⟩ => ⟨items.length - (i + 1), by omega, rfl, hlt, F', r', acc', z⟩, fun x H' y => ?_⟩
        obtain ⟨F4, d, x4, hd4, R4, S4⟩ := Y.yld i F3 P Lk _ H3 x H' x3 S3 hlt y
        have e1 : items.drop i = d :: items.drop (i + 1) := by
          rw [List.drop_eq_getElem_cons hlt]
          congr 1
          rw [List.getElem?_eq_getElem hlt] at hd4
          exact Option.some.inj hd4
        rw [e1] at h3
        unfold dcLN at h3
        cases hput : t.put d r3 with
        | none => rw [hput] at h3; cases h3
        | some r4 =>
          rw [hput] at h3
          dsimp only at h3
          have E4 : EnvX C [(.c oe, .ref Da, .dct false acc)] F4 P Lk G r3 (wipe σ vs) H' := ⟨L3, e3, S4⟩
          obtain ⟨P4, E4', eP4, unp4⟩ := E4.park
          refine ⟨F4, P4, Lk, r3, d, r4, E4', R4, hput, fun σ5 o5 F5 H5 x5 E5 => ?_⟩
          rw [ht] at o5
          have ws := wipe_twice o5
          refine ⟨ws, ?_⟩
          cases hts : ts r4 with
          | stk => rw [hts] at h3; cases h3
          | exc c fs => rw [hts] at h3; cases h3
          | ok b r5 =>
            rw [hts] at h3
            refine ⟨F5, P4, Lk, r4, E5, ?_⟩
            rw [hts]
            intro F6 H6 x6 E6
            have x6 := x5.trans x6
            cases b with
            | false =>
              have h3 : dcLN t vs ts fk f (items.drop (i + 1)) acc (wipeE r5 vs) = .ok all r9 := h3
              rw [if_neg Bool.false_ne_true]
              have E7 := EnvX.wipe hv (unp4 _ _ _ _ _ _ _ x6 E6)
              rw [ws, List.append_nil] at E7
              exact ⟨F6, _, acc, x3.trans (x4.trans x6), E7, h3⟩
            | true =>
              rw [if_pos rfl]
              have h3 : (bndN (fk r5) fun k r3 => bndN (f r3) fun x r4 => if (toKey k).isSome = true ∧ acc.length < sizeLine ∧ (acc.any fun p => keyB p.1 k) = false then dcLN t vs ts fk f (items.drop (i + 1)) (acc ++ [(k, x)]) (wipeE r4 vs) else .stk) = .ok all r9 := h3
              cases hfk : fk r5 with
              | stk => rw [hfk] at h3; cases h3
              | exc c fs => rw [hfk] at h3; cases h3
              | ok kd r6 =>
                rw [hfk] at h3
                have h3 : (bndN (f r6) fun x r4 => if (toKey kd).isSome = true ∧ acc.length < sizeLine ∧ (acc.any fun p => keyB p.1 kd) = false then dcLN t vs ts fk f (items.drop (i + 1)) (acc ++ [(kd, x)]) (wipeE r4 vs) else .stk) = .ok all r9 := h3
                cases hf : f r6 with
                | stk => rw [hf] at h3; cases h3
                | exc c fs => rw [hf] at h3; cases h3
                | ok xd r7 =>
                  rw [hf] at h3
                  have h3 : (if (toKey kd).isSome = true ∧ acc.length < sizeLine ∧ (acc.any fun p => keyB p.1 kd) = false then dcLN t vs ts fk f (items.drop (i + 1)) (acc ++ [(kd, xd)]) (wipeE r7 vs) else .stk) = .ok all r9 := h3
                  split at h3
                  · rename_i hk
                    obtain ⟨ky, hky⟩ := Option.isSome_iff_exists.mp hk.1
                    have ek := toKey_some hky
                    subst ek
                    refine ⟨F6, P4, Lk, r5, E6, ?_⟩
                    rw [hfk]
                    intro yk F7 H7 x7 E7
                    obtain ⟨R7, E7⟩ := E7.rep
                    refine ⟨F7, P4, Lk, r6, E7, ?_⟩
                    rw [hf]
                    intro yv F8 H8 x8 E8
                    obtain ⟨L8, e8, s8⟩ := unp4 _ _ _ _ _ _ _ (x6.trans (x7.trans x8)) E8
                    obtain ⟨kvs, ey, hH, lk, s9⟩ := Stt.putKN s8 (R7.mono x8) hk.2.2
                    refine ⟨kvs, ky, ey, hH, by omega, F8, _, _, x3.trans (x4.trans (x6.trans (x7.trans x8))), ?_, h3⟩
                    have s9 : Stt C F8 P Lk ([(.c oe, .ref Da, .dct false (acc ++ [(keyD ky, xd)]))] ++ L8) (upd H8 Da (.dK (putK kvs ky yv))) := s9
                    have E9 := EnvX.wipe hv ⟨L8, e8, s9⟩
                    rw [ws] at E9
                    exact E9
                  · cases h3
      · have e : i = items.length := by omega
        subst e
        rw [List.drop_length] at h3
        cases h3
        refine .inl ⟨Y.stop F3 P Lk _ H3 x3 S3, q1 _ F3 H3 (x1.trans x3) ?_⟩
        exact EnvX.rest hv E1 x3 E3
theorem de_dcN {oe : O} {it : SI} {t : Tg} {ts : ST} {fk f : SE} {scope : Scope} {own : List (Str × Nat)} {vs : List Nat} (hc : X.calm = true) (hN : X.N.Nodup) (hi : PI X tg iter (tDI C W G it)) (ok : BlkOk X.N X.env.scope scope own) (hvs : own.map (·.2) = vs) (hv : (vs.all fun i => decide (G[i]? = some .z)) = true) (ht : t.slots = vs)
    (hg : ∀ (s : Shared) (H : Hp) (C1 : Addr) (cl : List (Str × Addr)) (fp : List Addr), PG (X.blk s H scope (compEnvC scope cl C1 X.env) fp) tg (tDG C G t))
    (htt : ∀ (s : Shared) (H : Hp) (C1 : Addr) (cl : List (Str × Addr)) (fp : List Addr), PTs (X.blk s H scope (compEnvC scope cl C1 X.env) fp) ifs (tDTs C G ts))
    (hk : ∀ (s : Shared) (H : Hp) (C1 : Addr) (cl : List (Str × Addr)) (fp : List Addr), PE (X.blk s H scope (compEnvC scope cl C1 X.env) fp) kx (tD C W0 G fk .z))
    (he : ∀ (s : Shared) (H : Hp) (C1 : Addr) (cl : List (Str × Addr)) (fp : List Addr), PE (X.blk s H scope (compEnvC scope cl C1 X.env) fp) vx (tD C W0 G f oe)) (hs : ∀ x, foldedSetIterable iter X.env x = pure x := by intro _; rfl) :
    PE X (.DictComp kx vx [⟨tg, iter, ifs, 0⟩] scope pos) (tD C W G (eDcN it vs t ts fk f) (.c oe)) := by
  subst hvs
  exact PE_weak (pe_dc hc hN hi ok hg htt hk he hs) fun σ H Q q => dcN_hyp (fun i hi => by simpa using List.all_eq_true.mp hv i hi) ht q
end
/-! ### dict(pairs) -/
def pairsD : List D → Option (List (D × D))
  | [] => some []
  | .tup [k, v] :: xs => (toKey k).bind fun _ => (pairsD xs).map ((k, v) :: ·)
  | _ :: _ => none
def dictD : D → Option D
  | .lst xs => (pairsD xs).map fun ps => .dct false (mergeD [] ps)
  | _ => none
theorem pairs_rep {F P H : Hp} {Lk : Lock} {L : List Cell} {K : PySem.W.Frag} (S : Stt C F P Lk L H) : ∀ {xs : List D} {vs : List V} {kds : List (D × D)}, RepL C F vs xs → pairsD xs = some kds → ∃ (ps : List Addr) (kvs : List (Key × V)) (es : List D), vs = ps.map V.ref ∧ Paired (fun p kv => SqT K H p [kV kv.1, kv.2]) ps kvs ∧ RepL C F (kvs.map (·.2)) es ∧ kds = (kvs.map fun p => keyD p.1).zip es
  | [], vs, kds, r, e => by
    cases r
    cases e
    exact ⟨[], [], [], rfl, .nil, .nil, rfl⟩
  | x :: xs, vs, kds, r, e => by
    cases r with
    | cons a b =>
      unfold pairsD at e
      split at e
      · rename_i h; cases h
      · rename_i k v xs' h
        cases h
        obtain ⟨ky, hky, e⟩ := Option.bind_eq_some_iff.mp e
        obtain ⟨kds', e', rfl⟩ := Option.map_eq_some_iff.mp e
        have ek := toKey_some hky
        subst ek
        obtain ⟨ps, kvs, es, rfl, pr, rr, rfl⟩ := pairs_rep (K := K) S b e'
        cases a with
        | @tup p ws _ hp rw' =>
          cases rw' with
          | @cons wk _ _ _ ra rb =>
            cases rb with
            | @cons wv _ _ _ rv rn =>
              cases rn
              have ey : wk = kV ky := by cases ky <;> (cases ra; rfl)
              subst ey
              exact ⟨p :: ps, (ky, wv) :: kvs, v :: es, rfl, .cons (SqT.of (S.tup hp)) pr, .cons rv rr, rfl⟩
      · cases e
theorem call_dict_D {X : Cx} (hc : X.calm = true) : CallR X (.type "dict") (rON C (g1 dictD) (.c .z)) :=
  cr1 (call_dictP hc) fun F P Lk L H x dx dz Q S R e q => by
    unfold dictD at e
    split at e
    · obtain ⟨kds, hk, rfl⟩ := Option.map_eq_some_iff.mp e
      cases R with
      | lst h r =>
        obtain ⟨ps, kvs, es, rfl, pr, rr, rfl⟩ := pairs_rep (K := X.K) S r hk
        refine ⟨_, ps, kvs, rfl, .inl (S.rdL h), pr, fun p hp => ?_⟩
        obtain ⟨ds', r', e'⟩ := merge_rel (kvs := []) (ds := []) .nil rr
        have z := SttH.closeK ((Stt.hole S hp).zcell r') (by simpa using r'.length)
        rw [e'] at z
        exact q _ F _ (Ext.refl F) z
    · cases e
/-! ### list(range(..)) -/
section
variable {X : Cx} {W : WX} {G : List O} {a b : Expr} {pos p p2 pos2 : Pos}
def okR (i j : Int) : Bool := okI i && okI j && decide ((j - i).toNat ≤ 2 ^ 24)
def eLR1 (f : SE) : SE := fun r => (f r).bind fun d r1 => match d with
  | .int n => if okR 0 n = true then .ok (.lst (rngD 0 n)) r1 else .stk
  | _ => .stk
theorem rg_rep {F : Hp} (i j : Int) : RepL C F (rgV i j) (rngD i j) := by
  unfold rgV rngD
  have z : ∀ l : List Nat, RepL C F (l.map fun k => V.int (i + (k : Nat))) (l.map fun k => D.int (i + (k : Nat))) := by
    intro l
    induction l with
    | nil => exact .nil
    | cons x l ih => exact .cons (.int _) ih
  exact z _
theorem okR_ok {i j : Int} (h : okR i j = true) : RgOk i j := by
  simp only [okR, Bool.and_eq_true, okI_iff, decide_eq_true_eq] at h
  exact ⟨h.1.1.1, h.1.1.2, h.1.2.1, h.1.2.2, h.2⟩
theorem de_lr1 {f : SE} (hc : X.calm = true) (hg : Gl X "list") (hm : X.mg "list" = none) (hg2 : Gl X "range") (hm2 : X.mg "range" = none) (ha : PE X a (tD C W G f .z)) (na : starEach [a] X.env = (false, eval a X.env) :: starEach [] X.env := by rfl)
    (nb : starEach [.Call (.Name "range" p2) [a] [] pos2] X.env = (false, eval (.Call (.Name "range" p2) [a] [] pos2) X.env) :: starEach [] X.env := by rfl) : PE X (.Call (.Name "list" p) [.Call (.Name "range" p2) [a] [] pos2] [] pos) (tD C W G (eLR1 f) (.c .z)) := by
  refine PE_weak (pe_listRg hc hg hm (prg_1 hg2 hm2 ha na) nb) fun σ H Q q => ?_
  obtain ⟨F, P, Lk, r, E, q⟩ := q
  refine ⟨F, P, Lk, r, E, (RD.bind q).mono fun d r1 q1 v F1 H1 x1 E0 => ?_⟩
  obtain ⟨R1, E1⟩ := E0.rep
  cases R1 with
  | int n =>
    have q1 : RD C W F P Lk σ (if okR 0 n = true then Res.ok (D.lst (rngD 0 n)) r1 else Res.stk) _ := q1
    split at q1
    · rename_i hk
      refine ⟨n, rfl, okR_ok hk, fun p hp => ?_⟩
      obtain ⟨L, e1, S1⟩ := E1
      have z := SttH.closeL ((Stt.hole S1 hp).zcell (rg_rep 0 n)) (rg_rep (C := C) (F := F1) 0 n).length
      exact q1 _ F1 _ x1 ⟨L, e1, z⟩
    · exact q1.elim
  | _ => exact q1.elim
end
end DL
set_option Elab.async false
set_option linter.all false
set_option autoImplicit false
set_option maxHeartbeats 1000000
/-! the data layer, part 27: repr of lists and tuples -/
namespace DL
open PySem PySem.Spec PyProof.Rows L2
variable {C : Cfg}
section
variable {X : Cx}
theorem hu64g {n : Nat} {Ar : Around} (z : Room n Ar) : Ar.units + 64 < cLine ∧ Ar.guards = some [] := ⟨z.rm.units, z.gd⟩
def okShow (p : PyData) : Bool := p.showable && (!p.hasDict && (Nat.ble p.depth 60 && decide (p.shown.length ≤ sizeLine)))
def isSeqD : D → Bool
  | .lst _ => true
  | .tup _ => true
  | .ktup _ => true
  | .klst _ => true
  | _ => false
def reprD (d : D) : Option D := match d with
  | .bl b => some (.str (if b then "True" else "False"))
  | d => if isSeqD d = true then (match toPy d with
    | some p => if okShow p = true then some (.str p.shown) else none
    | none => none) else none
theorem call_reprS (z : X.A.units + 64 < cLine ∧ X.A.guards = some []) : CallR X (.builtin "repr") (fun xs H Q => ∃ a p, xs = [.ref a] ∧ Dp X.K H (.ref a) p ∧ okShow p = true ∧ Q (.str p.shown) H) := by
  intro pins s σ H xs us Q I r ⟨a, p, ex, dp, ok, q⟩
  subst ex
  obtain ⟨u, rfl, rx⟩ := vals1 r
  cases rx
  obtain ⟨as, rd⟩ := Dp.reads I _ _ _ dp rfl
  unfold okShow at ok
  simp only [Bool.and_eq_true, Nat.ble_eq, decide_eq_true_eq, Bool.not_eq_true'] at ok
  exact repr_of_reads' rd ok.1 (fun h => by rw [ok.2.1] at h; cases h) z.2 (by have := z.1; omega) (fun b o e => e) (fun h' u tk k => ⟨.str p.shown, H, I.kept k, ⟨_, rfl⟩, q⟩) ok.2.2.2
theorem call_repr_D (hK : X.K = C.K) (z : X.A.units + 64 < cLine ∧ X.A.guards = some []) : CallR X (.builtin "repr") (rON C (g1 reprD) .z) := by
  have both : CallR X (.builtin "repr") (fun xs H Q => (∃ b, xs = [.bl b] ∧ Q (.str (if b then "True" else "False")) H) ∨ ∃ a p, xs = [.ref a] ∧ Dp X.K H (.ref a) p ∧ okShow p = true ∧ Q (.str p.shown) H) := by
    intro pins s σ H xs us Q I r h
    rcases h with h | h
    · exact call_reprB pins s σ H xs us Q I r h
    · exact call_reprS z pins s σ H xs us Q I r h
  refine cr1 both fun F P Lk L H x dx dz Q S R e q => ?_
  unfold reprD at e
  split at e
  · cases e
    cases R
    exact .inl ⟨_, rfl, q _ F H (Ext.refl F) (S.zcons (.str _))⟩
  · split at e
    · rename_i sq
      split at e
      · rename_i p tp
        split at e
        · rename_i ok
          cases e
          have dp := R.dp S tp
          rw [← hK] at dp
          have aw : ∃ a, x = .ref a := by
            cases R <;> first | exact ⟨_, rfl⟩ | cases sq
          obtain ⟨a, rfl⟩ := aw
          exact .inr ⟨a, p, rfl, dp, ok, q _ F H (Ext.refl F) (S.zcons (.str _))⟩
        · cases e
      · cases e
    · cases e
end
end DL
set_option Elab.async false
set_option linter.all false
set_option autoImplicit false
set_option maxRecDepth 100000
set_option maxHeartbeats 1000000
/-! the data layer: the head of a law, for promises that are held where no guard is -/
namespace DL
open PySem PySem.Spec PyProof.Rows L2
variable {P : Program} {w : World} {K : PySem.W.Frag} {mg mb : Str → Option Value} {CX : CXT} {n : Nat} {fa ad : Addr} {fd : FuncData} {x : Str} {pr : Sp} {s : Shared} {vs : List Value} {ns : List Int}
/-- what the caller of the law sees -/
def Done (s : Shared) (r : Result) (s' : Shared) : Prop := r = .ok (.ret (.bool true)) ∧ OldK s.heap s'.heap ∧ s'.os = s.os ∧ AllBare s'.gens
theorem law_from (H : Hp) (hK : K.In s.heap) (g : s.heap.Ns mainGlobals mg) (b : s.heap.Ns builtinsNs mb) (bb : ∀ y : Str, y ≠ "__name__" → mb y = bootBuiltins y) (nl : s.heap.NoLimit) (ge : s.gens = #[])
    (only : Only H) (ok : HOk P w H s.heap) (one : ∀ c u, H c = some u → c = ad ∧ ∃ o xs, u = .frz o (.lst xs)) (fr : H ad ≠ none → K.lookup ad = none)
    (z : Room n callerA) (D : ∀ base : Heap, K.In base → base.Ns mainGlobals mg → FnOk P w K mg base CX n fa fd [x] pr) (bi : ∀ (t : Shared) (u : Value), BindsTo t fd ⟨[u], []⟩ [(x, u)])
    (q : pr [.ref ad] H (fun v _ => v = .bl true) fun _ _ _ => False) (no : ∀ e t, CX [] H s (fun _ _ _ => False) e t → False) :
    codeAny (model P w) callerA (.call (.ref fa) ⟨[.ref ad], []⟩) (Done s) s := by
  have dictFree : ∀ {c : Addr} {o : Obj} {es : Array DictEntry} {ep : Nat}, s.heap.get? c = some o → o.data = .dict es ep → H c = none := by
    intro c o es ep e d
    cases h : H c with
    | none => rfl
    | some u =>
      obtain ⟨_, ob, xs, rfl⟩ := one c u h
      obtain ⟨e1, _, us, ep', _, e2⟩ := ok c _ h
      rw [e] at e1 e2
      cases e1
      cases e2
      cases d
  have stay : ∀ {c : Addr} {m : Str → Option Value}, s.heap.Ns c m → (hidT s.heap H).Ns c m := fun ⟨o, es, ep, e, d, r⟩ => ⟨o, es, ep, hidT_get e (dictFree e d), d, r⟩
  have hKb : K.In (hidT s.heap H) := fun c o e => hidT_get (hK c o e) (by
    cases h : H c with
    | none => rfl
    | some u =>
      obtain ⟨rfl, _⟩ := one c u h
      rw [fr (by rw [h]; exact Option.some_ne_none _)] at e
      cases e)
  have e0 : Env0 P w K mg (hidT s.heap H) callerA [] s H :=
    ⟨rfl, ⟨hKb, stay g, ⟨mb, stay b, bb⟩, nl.elim fun mc h => ⟨mc, stay h.1, h.2⟩⟩, fun c o e => of_hidT e, Nat.le_of_eq (hidT_size _ _), trivial, fun c h => (nomatch h), ok, .of_eq ge⟩
  refine codeAny_mono ((D _ hKb (stay g)).run callerA [] s H ⟨[.ref ad], []⟩ [.ref ad] [.ref ad] _ _ z e0 (bi s (.ref ad)) (.cons rfl .nil) q) fun r s' h => ?_
  cases r with
  | error e => exact (no e s' h).elim
  | ok fl =>
    cases fl with
    | ret u =>
      obtain ⟨v, H', os, bare, un, ok', rv, ev⟩ := h
      have ev : v = .bl true := ev
      subst ev
      cases rv
      refine ⟨rfl, OldK.of_keep fun c o e => ?_, os, bare⟩
      cases h : H c with
      | none => exact un.keep c o e h (fun z => nomatch z) (by simp)
      | some u =>
        obtain ⟨_, ob, xs, rfl⟩ := one c u h
        have e1 := (ok c _ h).1
        rw [e] at e1
        cases e1
        exact (ok' c _ (un.frzs c _ _ h)).1
    | _ => exact h.elim
theorem law_callG (hK : K.In s.heap) (g : s.heap.Ns mainGlobals mg) (b : s.heap.Ns builtinsNs mb) (bb : ∀ y : Str, y ≠ "__name__" → mb y = bootBuiltins y) (nl : s.heap.NoLimit) (ge : s.gens = #[])
    (at_ : s.heap.get? ad = some { cls := .type "list", data := .seq vs.toArray }) (hi : IntsAre vs ns) (le : ns.length ≤ sizeLine)
    (z : Room n callerA) (D : ∀ base : Heap, K.In base → base.Ns mainGlobals mg → FnOk P w K mg base CX n fa fd [x] pr) (bi : ∀ (t : Shared) (u : Value), BindsTo t fd ⟨[u], []⟩ [(x, u)])
    (q : ∀ H : Hp, Only H → SqL K H ad (ns.map V.int) → pr [.ref ad] H (fun v _ => v = .bl true) fun _ _ _ => False) (no : ∀ H e t, CX [] H s (fun _ _ _ => False) e t → False) :
    codeAny (model P w) callerA (.call (.ref fa) ⟨[.ref ad], []⟩) (Done s) s := by
  have rv := vals_ints hi
  cases hk : K.lookup ad with
  | some o =>
    have e := hK ad o hk
    rw [at_] at e
    cases e
    have oN : Only (fun _ => none) := fun _ => .inl rfl
    exact law_from (ad := ad) (fun _ => none) hK g b bb nl ge oN (fun c u h => by cases h) (fun c u h => by cases h) (fun h => absurd rfl h) z D bi
      (q _ oN (.inr ⟨_, vs.toArray, _, hk, rfl, rfl, rfl, by rw [List.size_toArray, hi.length]; exact le, by simpa using rv⟩)) (no _)
  | none =>
    let ob : Obj := { cls := .type "list", data := .seq vs.toArray }
    let H1 : Hp := fun c => if c = ad then some (.frz ob (.lst (ns.map V.int))) else none
    have one : ∀ c u, H1 c = some u → c = ad ∧ u = .frz ob (.lst (ns.map V.int)) := by
      intro c u h
      by_cases e : c = ad
      · exact ⟨e, (Option.some.inj ((if_pos e).symm.trans h)).symm⟩
      · exact absurd ((if_neg e).symm.trans h) nofun
    have oN : Only H1 := fun c => by
      cases h : H1 c with
      | none => exact .inl rfl
      | some u => exact .inr ⟨_, _, by rw [(one c u h).2]⟩
    refine law_from (ad := ad) H1 hK g b bb nl ge oN (fun c u h => ?_) (fun c u h => ⟨(one c u h).1, _, _, (one c u h).2⟩) (fun _ => hk) z D bi (q _ oN (.inl (.inr ⟨ob, if_pos rfl⟩))) (no _)
    obtain ⟨rfl, rfl⟩ := one c u h
    exact ⟨at_, by rw [List.length_map]; exact le, vs, _, rv, at_⟩
/-- the goal that k_head leaves -/
theorem walk_ofG {l : PySem.W.OpenLaw} {m n : Nat} {q : Program} {loose : List Str} {XP : (Str → Option Value) → Heap → Prop} {YP : World → Heap → Prop} {d : DefRec} {Kf : Params → PySem.W.Frag} {Cf : World → CXT} {pf : World → Sp} {x : Str}
    (e1 : l.most = some m) (e2 : m ≤ sizeLine) (e3 : d.params.defaults = []) (z : Room n callerA) (e4 : ∀ (w : World) (h : Heap), YP w h → (Kf w.params).In h)
    (D : ∀ (w : World) (mg : Str → Option Value) (fa : Addr) (h : Heap), (Kf w.params).In h → h.Ns mainGlobals mg → mg d.name = some (.ref fa) →
      ∃ fd : FuncData, (∀ (t : Shared) (u : Value), BindsTo t fd ⟨[u], []⟩ [(x, u)]) ∧ ∀ base : Heap, (Kf w.params).In base → base.Ns mainGlobals mg → FnOk l.prog w (Kf w.params) mg base (Cf w) n fa fd [x] (pf w))
    (pq : ∀ (w : World) (H : Hp) (a : Addr) (ns : List Int), ns.length ≤ m → (∀ z ∈ ns, Builtin.Int.intBits z ≤ 1048576) → Only H → SqL (Kf w.params) H a (ns.map V.int) → pf w [.ref a] H (fun v _ => v = .bl true) fun _ _ _ => False)
    (no : ∀ (w : World) (H : Hp) (s : Shared) (e : Value) (t : Shared), Cf w [] H s (fun _ _ _ => False) e t → False) :
    PySem.W.WalkO q loose XP YP l.row.toRowW d [] (fun f vs => PySem.call f vs) := by
  refine Att.attach_callB e1 e3 fun w s0 s1 mg mb fa o pm cd doc a vs ns G Y ho hd hcd hmg hobj hints hlen hbits hg => ?_
  obtain ⟨fd, bi, hF⟩ := D w mg fa _ (e4 w _ Y) G.T.g hmg
  exact law_callG (e4 w _ Y) G.T.g G.T.b G.T.builtins G.T.nolimit hg hobj hints (Nat.le_trans hlen e2) z hF bi (fun H => pq w H a ns hlen hbits) fun H e t => no w H s1 e t
theorem callerG (n : Nat) (h : 1 + claimMargin + 3 * n + 5 < recursionLimit := by decide) (h2 : 4 + 16 * n + 200 < cLine := by decide) : Room n callerA := ⟨⟨rfl, h, h2⟩, rfl⟩
end DL
set_option Elab.async false
set_option linter.all false
set_option autoImplicit false
set_option maxHeartbeats 1000000
/-! the data layer, part 28: x[e] of an owned thing of frozen ones; x[e][f] = .., x[e] = an owned list -/
namespace DL
open PySem PySem.Spec PyProof.Rows L2
variable {C : Cfg}
section
variable {X : Cx} {W : WX} {R : Rt} {G : List O} {e e1 e2 tg : Expr} {es : List Expr} {F F' P H : Hp} {Lk : Lock} {r : DL.Env} {σ : L2.St}
/-! x[e], a frozen item of an owned thing -/
def itemAt (c ix : D) : Option D := (idxD c ix).bind fun j => getJ c j
def eIxO (i : Nat) (f : SE) : SE := fun r => match r[i]? with
  | some (some _) => (f r).bind fun ix r1 => match r1[i]? with
    | some (some c) => match itemAt c ix with
      | some d => .ok d r1
      | none => .stk
    | _ => .stk
  | _ => .stk
theorem raw_of {L : List Cell} {c ix d : D} {v y : V} (S : Stt C F P Lk ((.c .z, v, c) :: L) H) (Ry : Rep C F y ix) (h : itemAt c ix = some d) : ∃ a w, v = .ref a ∧ RawAt H a y w ∧ Rep C F w d := by
  unfold itemAt at h
  obtain ⟨j, hj, hd⟩ := Option.bind_eq_some_iff.mp h
  cases c with
  | lst ds =>
    obtain ⟨a, vs, rfl, h1, l, S2⟩ := Stt.openL S
    obtain ⟨rr, _⟩ := S2.unz l
    cases ix <;> simp only [idxD] at hj <;> try (cases hj; done)
    rename_i i
    cases rep_int Ry
    simp only [getJ] at hd
    obtain ⟨w, hw, Rw⟩ := rr.get hd
    exact ⟨a, w, rfl, .inl ⟨vs, i, rfl, .inl h1, by unfold atI; rw [l, hj]; exact hw⟩, Rw⟩
  | dct t kds =>
    cases t with
    | true => cases hd
    | false =>
      obtain ⟨a, kvs, ds, rfl, h1, l, rfl, S2⟩ := Stt.openK S
      obtain ⟨rr, _⟩ := S2.unz (by simpa using l)
      simp only [getJ] at hd
      obtain ⟨⟨k0, i0⟩, hz, rfl⟩ := Option.map_eq_some_iff.mp hd
      obtain ⟨hk, hd2⟩ := List.getElem?_zip_eq_some.mp hz
      simp only [idxD] at hj
      obtain ⟨ky, hky, hi⟩ := Option.bind_eq_some_iff.mp hj
      have ek := toKey_some hky
      subst ek
      obtain ⟨p, hp, hval⟩ := find_rel l hi
      have ey : y = kV ky := by cases ky <;> (cases Ry; rfl)
      subst ey
      obtain ⟨w, hw, Rw⟩ := rr.get hd2
      have ew : p.2 = w := by
        rw [List.getElem?_map, hp] at hw
        simpa using hw
      rw [ew] at hval
      exact ⟨a, w, rfl, .inr ⟨kvs, ky, .inl h1, rfl, hval⟩, Rw⟩
  | _ => cases hd
theorem de_ixO {i : Nat} {x : Str} {p ip : Pos} {f : SE} (hu : X.A.units + 1 < cLine) (hG : G[i]? = some (.c .z)) (hN : X.N[i]? = some x) (hv : Vis X.env.scope x) (hi : PE X e (tD C W G f .z)) (hpl : PlainIx e) (hd : (x == ("__debug__" : Str)) = false := by decide) (hcd : (x == ("__classdict__" : Str)) = false := by decide) :
    PE X (.Subscript (.Name x p) e ip) (tD C W G (eIxO i f) .z) := by
  refine PE_weak (pe_ix (ix_raw hu) (pe_var hN hv hd hcd) hi hpl) fun σ H Q q => ?_
  obtain ⟨F, P, Lk, r, E, q⟩ := q
  unfold eIxO at q
  split at q
  · rename_i d0 h0
    obtain ⟨v, hs, _⟩ := E.take h0 hG
    refine ⟨v, hs, F, P, Lk, r, E, (RD.bind q).mono fun ix r1 q1 y F1 H1 x1 E1 => ?_⟩
    obtain ⟨Ry, E1⟩ := E1.rep
    split at q1
    · rename_i c hc
      split at q1
      · rename_i d hit
        obtain ⟨v', hs', E2⟩ := E1.take hc hG
        rw [hs] at hs'
        cases hs'
        obtain ⟨L2, a2, s2⟩ := E2
        obtain ⟨a, w, rfl, raw, Rw⟩ := raw_of (L := L2) s2 Ry hit
        exact ⟨a, w, rfl, raw, q1 w F1 H1 x1 (E1.zcons Rw)⟩
      · exact q1.elim
    · exact q1.elim
  · exact q.elim
/-! x[e][f] = v -/
def putN (i : Nat) (f1 f2 : SE) (d : D) (r : DL.Env) : Option DL.Env := match r[i]? with
  | some (some c) => match f1 (r.set i none) with
    | .ok ix r2 => match spot c ix with
      | some (j, inner) => match f2 r2 with
        | .ok iy r3 => match r3[i]? with
          | some none => match setIx inner iy d with
            | some inner' => match setJ c j inner' with
              | some (c', _) => some (r3.set i (some c'))
              | none => none
            | none => none
          | _ => none
        | _ => none
      | none => none
    | _ => none
  | _ => none
def sStN (i : Nat) (f1 f2 f : SE) : SS := fun r => (f r).fl fun d r1 => match putN i f1 f2 d r1 with
  | some r2 => .nx r2
  | none => .stk
def tDGN (C : Cfg) (G : List O) (i : Nat) (f1 f2 : SE) : TG := fun v σ H Q => ∃ F P Lk r d r', EnvX C [] F P Lk G r σ H ∧ Rep C F v d ∧ putN i f1 f2 d r = some r' ∧ ∀ F' H', Ext F F' → EnvX C [] F' P Lk G r' σ H' → Q σ H'
theorem dg_stN {i : Nat} {x : Str} {p ip pos : Pos} {f1 f2 : SE} (hu : X.A.units + 1 < cLine) (hG : G[i]? = some (.c (.c .z))) (hN : X.N[i]? = some x) (hv : Vis X.env.scope x) (h1 : PE X e1 (tD C W0 G f1 .z)) (hpl : PlainIx e1) (h2 : PE X e2 (tD C W0 G f2 .z)) (hd : (x == ("__debug__" : Str)) = false := by decide) (hcd : (x == ("__classdict__" : Str)) = false := by decide)
    (ha : ∀ v, assign (.Subscript (.Subscript (.Name x p) e1 ip) e2 pos) X.env v = (do
      let ov ← holding [v] (eval (.Subscript (.Name x p) e1 ip) X.env)
      let iv ← holding [v, ov] (eval e2 X.env)
      standAt pos
      holding [v, ov, iv] (setItem ov iv v)
      release [v, ov, iv] []) := by intro _; rfl) : PG X (.Subscript (.Subscript (.Name x p) e1 ip) e2 pos) (tDGN C G i f1 f2) := by
  refine PG_weak (pg_sub (pe_ix (ix_raw hu) (pe_var hN hv hd hcd) h1 hpl) h2 (set_O (C := C) hu) ha) fun v σ H Q q => ?_
  obtain ⟨F, P, Lk, r, d, r', E, R, hp, k⟩ := q
  unfold putN at hp
  split at hp
  · rename_i c hc
    obtain ⟨w0, hs, E1⟩ := E.take hc hG
    obtain ⟨P', E1', eP, unp⟩ := E1.park
    split at hp
    · rename_i ix r2 hf1
      refine ⟨w0, hs, F, P', Lk, _, E1', ?_⟩
      rw [hf1]
      intro y F1 H1 x1 E2
      obtain ⟨Ry, E2⟩ := E2.rep
      have E3 := unp F1 H1 Lk [] G r2 σ x1 E2
      obtain ⟨L3, e3, s3⟩ := E3
      have s3 : Stt C F1 P Lk ((.c (.c .z), w0, c) :: L3) H1 := s3
      split at hp
      · rename_i j inner hsp
        obtain ⟨hix, hj⟩ := spot_some hsp
        obtain ⟨a, w, M, rfl, raw, s4, close⟩ := s3.focus hj
        have E4 : EnvX C ((.c .z, w, inner) :: M) F1 P Lk G r2 σ H1 := ⟨L3, e3, s4⟩
        obtain ⟨P2, E5, eP2, unp2⟩ := E4.park
        split at hp
        · rename_i iy r3 hf2
          refine ⟨a, w, rfl, raw ix y hix Ry, F1, P2, Lk, r2, E5, ?_⟩
          rw [hf2]
          intro y2 F2 H2 x2 E6
          obtain ⟨Ry2, E6⟩ := E6.rep
          have E7 := unp2 F2 H2 Lk [] G r3 σ x2 E6
          obtain ⟨L7, e7, s7⟩ := E7
          have s7 : Stt C F2 P Lk ((.c .z, w, inner) :: (M ++ L7)) H2 := by simpa using s7
          split at hp
          · rename_i hn
            split at hp
            · rename_i inner' hset
              split at hp
              · rename_i c' old hsetJ
                cases hp
                have eo := setJ_old hsetJ hj
                subst eo
                refine ⟨F2, P, Lk, M ++ L7, _, iy, d, inner', s7, Ry2, R.mono (x1.trans x2), hset, fun H3 s8 => ?_⟩
                have s10 := close F2 P Lk L7 H3 inner' c' hsetJ s8
                have z := EnvX.back (T := []) (r := r3) (d := c') (o := .c (.c .z)) (v := .ref a) (i := i) ⟨L7, e7, s10⟩ hn hG hs
                exact k F2 H3 (x1.trans x2) z
              · cases hp
            · cases hp
          · cases hp
        · cases hp
      · cases hp
    · cases hp
  · cases hp
theorem d_stN {i : Nat} {f1 f2 f : SE} {pos : Pos} (hW : WK W R.pm) (he : PE X e (tD C W G f .z)) (hg : PG X tg (tDGN C G i f1 f2))
    (hs : swapsWithSole [tg] e pos.line X.env = pure false := by rfl) (hw : swappedStores [tg] e X.env = pure none := by rfl)
    (h1 : (assignEach [tg] X.env).map (·.2) = [assign tg X.env] := by rfl) : PS X (.Assign [tg] e pos) (tDS C W R G (sStN i f1 f2 f) G) := by
  refine PS_weak (ps_asg he hg hs hw h1) fun D σ H q => ?_
  obtain ⟨F, P, Lk, r, E, q⟩ := q
  refine ⟨F, P, Lk, r, E, (RF.fl q).mono fun d r1 q1 v F1 H1 x1 E1 => ?_⟩
  obtain ⟨R1, E1⟩ := E1.rep
  cases hp : putN i f1 f2 d r1 with
  | none => rw [hp] at q1; exact q1.elim
  | some r2 =>
    rw [hp] at q1
    exact ⟨F1, P, Lk, r1, d, r2, E1, R1, hp, fun F2 H2 x2 E2 => q1 σ F2 H2 (x1.trans x2) Keep.refl E2⟩
/-! x[e] = an owned list, in the place of one that is there -/
def oneAt : D → D → Nat → Bool
  | .dct false kvs, k, j => !((kvs.eraseIdx j).any fun p => keyB p.1 k)
  | _, _, _ => true
def szOk : D → Bool
  | .dct false kvs => decide (kvs.length < sizeLine)
  | _ => true
def putS (i : Nat) (f1 : SE) (d : D) (r : DL.Env) : Option DL.Env := match r[i]? with
  | some (some _) => match f1 r with
    | .ok ix r1 => match r1[i]? with
      | some (some c) => match spot c ix with
        | some (j, _) => if oneAt c ix j = true ∧ szOk c = true then (match setJ c j d with
            | some (c', _) => some (r1.set i (some c'))
            | none => none) else none
        | none => none
      | _ => none
    | _ => none
  | _ => none
theorem cells_swap {o : O} {vs : List V} {ds : List D} {j : Nat} {v : V} {d : D} (l : vs.length = ds.length) (hj : j < ds.length) : (cellsOf o (vs.set j v) (ds.set j d)).Perm ((o, v, d) :: cellsOf o (vs.eraseIdx j) (ds.eraseIdx j)) := by
  have z := cells_take (o := o) (vs := vs.set j v) (ds := ds.set j d) (j := j) (v := v) (d := d) (by simp [l]) (by simp [l, hj]) (by simp [hj])
  rw [List.eraseIdx_set_eq, List.eraseIdx_set_eq] at z
  exact z
theorem putK_one {ky : Key} {v : V} : ∀ {kvs : List (Key × V)} {ds : List D} {j : Nat}, kvs.length = ds.length → (((kvs.map fun p => keyD p.1).zip ds).findIdx? fun p => keyB p.1 (keyD ky)) = some j → ((((kvs.map fun p => keyD p.1).zip ds).eraseIdx j).any fun p => keyB p.1 (keyD ky)) = false →
    ∃ w, kvs[j]? = some (ky, w) ∧ putK kvs ky v = kvs.set j (ky, v) := by
  intro kvs ds j l h n
  have key : ∀ {kvs : List (Key × V)} {ds : List D}, kvs.length = ds.length → (((kvs.map fun p => keyD p.1).zip ds).any fun p => keyB p.1 (keyD ky)) = false → (kvs.map fun kv => if kv.1 = ky then (kv.1, v) else kv) = kvs := by
    intro kvs
    induction kvs with
    | nil => intro ds l h; rfl
    | cons p kvs ih =>
      intro ds l h
      cases ds with
      | nil => simp at l
      | cons d ds =>
        simp only [List.map_cons, List.zip_cons_cons, List.any_cons, Bool.or_eq_false_iff, keyB_key, decide_eq_false_iff_not] at h
        rw [List.map_cons, if_neg h.1, ih (by simpa using l) h.2]
  have main : ∀ {kvs : List (Key × V)} {ds : List D} {j : Nat}, kvs.length = ds.length → (((kvs.map fun p => keyD p.1).zip ds).findIdx? fun p => keyB p.1 (keyD ky)) = some j → ((((kvs.map fun p => keyD p.1).zip ds).eraseIdx j).any fun p => keyB p.1 (keyD ky)) = false →
      ∃ w, kvs[j]? = some (ky, w) ∧ (kvs.map fun kv => if kv.1 = ky then (kv.1, v) else kv) = kvs.set j (ky, v) := by
    intro kvs
    induction kvs with
    | nil => intro ds j l h; simp at h
    | cons p kvs ih =>
      intro ds j l h n
      cases ds with
      | nil => simp at l
      | cons d ds =>
        simp only [List.map_cons, List.zip_cons_cons, List.findIdx?_cons, keyB_key] at h
        by_cases q : p.1 = ky
        · rw [decide_eq_true q] at h
          simp at h
          subst h
          obtain ⟨pk, pv⟩ := p
          dsimp only at q
          subst q
          refine ⟨pv, rfl, ?_⟩
          simp only [List.map_cons, List.zip_cons_cons, List.eraseIdx_cons_zero] at n
          rw [List.map_cons, if_pos rfl, key (by simpa using l) n, List.set_cons_zero]
        · rw [decide_eq_false q] at h
          simp only [Bool.false_eq_true, if_false] at h
          obtain ⟨i, hi, rfl⟩ := Option.map_eq_some_iff.mp h
          simp only [List.map_cons, List.zip_cons_cons, List.eraseIdx_cons_succ, List.any_cons, Bool.or_eq_false_iff] at n
          obtain ⟨w, h1, h2⟩ := ih (by simpa using l) hi n.2
          refine ⟨w, by simpa using h1, ?_⟩
          rw [List.map_cons, if_neg q, h2, List.set_cons_succ]
  obtain ⟨w, h1, h2⟩ := main l h n
  refine ⟨w, h1, ?_⟩
  have an : (kvs.any fun kv => decide (kv.1 = ky)) = true := List.any_eq_true.mpr ⟨_, List.mem_of_getElem? h1, by simp⟩
  unfold putK
  rw [an]
  exact h2
def rSetS (C : Cfg) (o : O) : TSet := fun a i v H Q => ∃ F P Lk L c ix d c' j x y, Stt C F P Lk ((.c o, a, c) :: (o, v, d) :: L) H ∧ Rep C F i ix ∧ spot c ix = some (j, x) ∧ oneAt c ix j = true ∧ szOk c = true ∧ setJ c j d = some (c', y) ∧ ∀ H', Stt C F P Lk ((.c o, a, c') :: L) H' → Q H'
theorem set_S {o : O} (hu : X.A.units + 1 < cLine) : PSet X (rSetS C o) := by
  intro pins s σ H a i v ov iv u Q I ro ri rv h
  obtain ⟨F, P, Lk, L, c, ix, d, c', j, x, y, S, Ri, hsp, one, sz, hset, k⟩ := h
  obtain ⟨hix, hj⟩ := spot_some hsp
  cases c with
  | lst zs =>
    cases ix <;> simp only [idxD] at hix <;> try (cases hix; done)
    rename_i n
    cases rep_int Ri
    simp only [getJ] at hj
    simp only [setJ, hj] at hset
    cases hset
    obtain ⟨b, vs, rfl, h1, l, S2⟩ := Stt.openL S
    have hl : j < zs.length := (List.getElem?_eq_some_iff.mp hj).1
    have hv : vs[j]? = some (vs[j]'(by rw [l]; exact hl)) := List.getElem?_eq_getElem _
    refine set_list pins s σ H _ _ v ov iv u Q I ro ri rv ⟨b, vs, n, j, rfl, rfl, h1, by rw [l]; exact hix, k _ (SttH.closeL ?_ (by simp [l]))⟩
    have S3 := S2.perm ((cells_take l hv hj).append_right _)
    have S4 : SttH C F P Lk [b] (cellsOf o (vs.eraseIdx j) (zs.eraseIdx j) ++ (o, v, d) :: L) H := S3.tail
    refine S4.perm (List.perm_middle.trans ?_)
    exact ((cells_swap (o := o) (v := v) (d := d) l hl).symm).append_right L
  | dct t kds =>
    cases t with
    | true => cases hj
    | false =>
      obtain ⟨b, kvs, ds, rfl, h1, l, rfl, S2⟩ := Stt.openK S
      simp only [idxD] at hix
      obtain ⟨ky, hky, hi⟩ := Option.bind_eq_some_iff.mp hix
      have ek := toKey_some hky
      subst ek
      simp only [oneAt, Bool.not_eq_true'] at one
      obtain ⟨w, hw, ep⟩ := putK_one (v := v) l hi one
      simp only [getJ] at hj
      obtain ⟨⟨k0, i0⟩, hz, ex⟩ := Option.map_eq_some_iff.mp hj
      simp only [setJ, hz] at hset
      cases hset
      obtain ⟨hk, hd⟩ := List.getElem?_zip_eq_some.mp hz
      have e0 : k0 = keyD ky := by
        rw [List.getElem?_map, hw] at hk
        exact (Option.some.inj hk).symm
      subst e0
      have iv' : i = kV ky := by cases ky <;> (cases Ri; rfl)
      subst iv'
      have hl : j < ds.length := (List.getElem?_eq_some_iff.mp hd).1
      have l' : (kvs.map (·.2)).length = ds.length := by simpa using l
      have hv : (kvs.map (·.2))[j]? = some w := by rw [List.getElem?_map, hw]; rfl
      have sz' : kvs.length < sizeLine := by simpa [szOk, l] using sz
      refine set_dict hu pins s σ H _ _ v ov _ u Q I ro ri rv ⟨b, _, rfl, DPut.k h1 sz', k _ ?_⟩
      rw [ep, zip_set_r hk]
      have e1 : (kvs.map fun p => keyD p.1) = (kvs.set j (ky, v)).map fun p => keyD p.1 := by
        apply List.ext_getElem?
        intro m
        rw [List.getElem?_map, List.getElem?_map]
        by_cases q : j = m
        · subst q
          rw [hw, List.getElem?_set_self (List.getElem?_eq_some_iff.mp hw).1]
          rfl
        · rw [List.getElem?_set_ne q]
      rw [e1]
      refine SttH.closeK ?_ (by simp [l])
      have e2 : (kvs.set j (ky, v)).map (·.2) = (kvs.map (·.2)).set j v := by rw [List.map_set]
      rw [e2]
      have S3 := S2.perm ((cells_take l' hv hd).append_right _)
      have S4 : SttH C F P Lk [b] (cellsOf o ((kvs.map (·.2)).eraseIdx j) (ds.eraseIdx j) ++ (o, v, d) :: L) H := S3.tail
      refine S4.perm (List.perm_middle.trans ?_)
      exact ((cells_swap (o := o) (v := v) (d := d) l' hl).symm).append_right L
  | _ => cases hj
def sSetN (i : Nat) (f1 f : SE) : SS := fun r => (f r).fl fun d r1 => match putS i f1 d r1 with
  | some r2 => .nx r2
  | none => .stk
def tDGS (C : Cfg) (G : List O) (i : Nat) (o : O) (f1 : SE) : TG := fun v σ H Q => ∃ F P Lk r d r', EnvX C [(o, v, d)] F P Lk G r σ H ∧ putS i f1 d r = some r' ∧ ∀ F' H', Ext F F' → EnvX C [] F' P Lk G r' σ H' → Q σ H'
theorem dg_setN {i : Nat} {x : Str} {p pos : Pos} {o : O} {f1 : SE} (hu : X.A.units + 1 < cLine) (hG : G[i]? = some (.c o)) (hN : X.N[i]? = some x) (hv : Vis X.env.scope x) (h1 : PE X e1 (tD C W0 G f1 .z)) (hd : (x == ("__debug__" : Str)) = false := by decide) (hcd : (x == ("__classdict__" : Str)) = false := by decide)
    (ha : ∀ v, assign (.Subscript (.Name x p) e1 pos) X.env v = (do
      let ov ← holding [v] (eval (.Name x p) X.env)
      let iv ← holding [v, ov] (eval e1 X.env)
      standAt pos
      holding [v, ov, iv] (setItem ov iv v)
      release [v, ov, iv] []) := by intro _; rfl) : PG X (.Subscript (.Name x p) e1 pos) (tDGS C G i o f1) := by
  refine PG_weak (pg_sub (pe_var hN hv hd hcd) h1 (set_S (C := C) (o := o) hu) ha) fun v σ H Q q => ?_
  obtain ⟨F, P, Lk, r, d, r', E, hp, k⟩ := q
  unfold putS at hp
  split at hp
  · rename_i c0 hc0
    obtain ⟨w, hs, _⟩ := E.take hc0 hG
    obtain ⟨P2, E2, eP2, unp⟩ := E.park
    split at hp
    · rename_i ix r1 hf1
      refine ⟨w, hs, F, P2, Lk, r, E2, ?_⟩
      rw [hf1]
      intro y F1 H1 x1 E3
      obtain ⟨Ry, E3⟩ := E3.rep
      have E4 := unp F1 H1 Lk [] G r1 σ x1 E3
      split at hp
      · rename_i c hc
        split at hp
        · rename_i j x hsp
          split at hp
          · rename_i hok
            split at hp
            · rename_i c' old hset
              cases hp
              obtain ⟨w', hs', E5⟩ := E4.take hc hG
              rw [hs] at hs'
              cases hs'
              obtain ⟨L5, e5, s5⟩ := E5
              have s5 : Stt C F1 P Lk ((.c o, w, c) :: (o, v, d) :: L5) H1 := s5
              refine ⟨F1, P, Lk, L5, c, ix, d, c', j, x, old, s5, Ry, hsp, hok.1, hok.2, hset, fun H' s6 => ?_⟩
              have z := EnvX.back (T := []) (r := r1.set i none) (d := c') (o := .c o) (v := w) (i := i) ⟨L5, e5, s6⟩ (by rw [List.getElem?_set_self (List.getElem?_eq_some_iff.mp hc).1]) hG hs
              rw [List.set_set] at z
              exact k F1 H' x1 z
            · cases hp
          · cases hp
        · cases hp
      · cases hp
    · cases hp
  · cases hp
theorem d_setN {i : Nat} {o : O} {f1 f : SE} {pos : Pos} (hW : WK W R.pm) (he : PE X e (tD C W G f o)) (hg : PG X tg (tDGS C G i o f1))
    (hs : swapsWithSole [tg] e pos.line X.env = pure false := by rfl) (hw : swappedStores [tg] e X.env = pure none := by rfl)
    (h1 : (assignEach [tg] X.env).map (·.2) = [assign tg X.env] := by rfl) : PS X (.Assign [tg] e pos) (tDS C W R G (sSetN i f1 f) G) := by
  refine PS_weak (ps_asg he hg hs hw h1) fun D σ H q => ?_
  obtain ⟨F, P, Lk, r, E, q⟩ := q
  refine ⟨F, P, Lk, r, E, (RF.fl q).mono fun d r1 q1 v F1 H1 x1 E1 => ?_⟩
  cases hp : putS i f1 d r1 with
  | none => rw [hp] at q1; exact q1.elim
  | some r2 =>
    rw [hp] at q1
    exact ⟨F1, P, Lk, r1, d, r2, E1, hp, fun F2 H2 x2 E2 => q1 σ F2 H2 (x1.trans x2) Keep.refl E2⟩
end
end DL
set_option Elab.async false
set_option linter.all false
set_option autoImplicit false
set_option maxHeartbeats 1000000
/-! the data layer, part 29: dict([(k, v) for ..]) with owned values -/
namespace DL
open PySem PySem.Spec PyProof.Rows L2
variable {C : Cfg}
section
variable {X : Cx} {W : WX} {G : List O} {kx vx tg iter e : Expr} {ifs : List Expr} {pos p lpos tpos : Pos}
theorem extTup {F F' : Hp} (x : Ext F F') {a : Addr} {xs : List V} (z : F a = some (.tup xs)) : F' a = some (.tup xs) := by
  rcases x a _ z with h | ⟨h, _⟩
  · exact h
  · cases h
structure PairsAt (C : Cfg) (F : Hp) (ps : List Addr) (kvs : List (Key × V)) (ds : List D) (acc : List (D × D)) : Prop where
  tup : Paired (fun q (kv : Key × V) => F q = some (.tup [kV kv.1, kv.2])) ps kvs
  len : kvs.length = ds.length
  acc : acc = (kvs.map fun q => keyD q.1).zip ds
  nd : (kvs.map (·.1)).Nodup
theorem PairsAt.mono {F F' : Hp} {ps : List Addr} {kvs : List (Key × V)} {ds : List D} {acc : List (D × D)} (h : PairsAt C F ps kvs ds acc) (x : ∀ a xs, F a = some (.tup xs) → F' a = some (.tup xs)) : PairsAt C F' ps kvs ds acc :=
  ⟨Paired.mapP h.tup fun _ _ z => x _ _ z, h.len, h.acc, h.nd⟩
theorem PairsAt.add {F : Hp} {ps : List Addr} {kvs : List (Key × V)} {ds : List D} {acc : List (D × D)} {q : Addr} {ky : Key} {v : V} {d : D} (h : PairsAt C F ps kvs ds acc) (e : F q = some (.tup [kV ky, v])) (nw : (acc.any fun p => keyB p.1 (keyD ky)) = false) :
    PairsAt C F (ps ++ [q]) (kvs ++ [(ky, v)]) (ds ++ [d]) (acc ++ [(keyD ky, d)]) := by
  refine ⟨Paired.snoc h.tup e, by simp [h.len], ?_, ?_⟩
  · rw [h.acc, List.map_append, List.zip_append (by simp [h.len])]
    rfl
  · rw [h.acc, any_zip h.len] at nw
    rw [List.map_append, List.nodup_append]
    refine ⟨h.nd, by simp, fun a ha b hb ne => ?_⟩
    have eb : b = ky := by simpa using hb
    subst eb
    subst ne
    obtain ⟨kv, hk, ek⟩ := List.mem_map.mp ha
    have := List.any_eq_false.mp nw kv hk
    simp [ek] at this
theorem dcP_hyp {oe : O} {it : SI} {t : Tg} {ts : ST} {fk f : SE} {vs : List Nat} (hv : ∀ i ∈ vs, G[i]? = some .z) (ht : t.slots = vs) {σ : L2.St} {H : Hp} {Q : VK} (q : tD C W G (eDcN it vs t ts fk f) (.c oe) σ H Q) :
    tLc (tDI C W G it) (tDG C G t) (tDTs C G ts) (tTup (tCons (tD C W0 G fk .z) (tCons (tD C W0 G f oe) tNil))) vs σ H fun x H1 => ∃ (a : Addr) (ps : List Addr) (kvs : List (Key × V)), [x] = [V.ref a] ∧ SqL X.K H1 a (ps.map V.ref) ∧ Paired (fun p kv => SqT X.K H1 p [kV kv.1, kv.2]) ps kvs ∧
      ∀ p, H1 p = none → Q (.ref p) (upd H1 p (.dK (L2.mergeK [] kvs))) := by
  obtain ⟨F, P, Lk, r, E, q⟩ := q
  refine ⟨F, P, Lk, r, E, (RD.bind q).mono fun items r1 q1 J F1 H1 x1 E1 Y Da hD => ?_⟩
  cases hl : dcLN t vs ts fk f items [] (wipeE r1 vs) with
  | stk => rw [hl] at q1; exact q1.elim
  | exc c fs => rw [hl] at q1; exact q1.elim
  | ok all r9 =>
    rw [hl] at q1
    have q1 : RD C W F P Lk σ (Res.ok (D.dct false all) (restE r1 vs r9)) _ := q1
    refine ⟨fun i m H' => m = items.length - i ∧ i ≤ items.length ∧ ∃ F' r' acc ps kvs ds, Ext F1 F' ∧ PairsAt C F' ps kvs ds acc ∧ EnvX C ((.c .z, .ref Da, .lst (opqs (ps.map V.ref))) :: cellsOf oe (kvs.map (·.2)) ds) F' P Lk G r' (wipe σ vs) H' ∧ dcLN t vs ts fk f (items.drop i) acc r' = .ok all r9,
      ⟨items.length, rfl, Nat.zero_le _, F1, _, [], [], [], [], Ext.refl _, ⟨.nil, rfl, rfl, List.nodup_nil⟩, ?_, by rw [List.drop_zero]; exact hl⟩, ?_⟩
    · obtain ⟨L, e, s⟩ := EnvX.wipe hv E1
      exact ⟨L, e, s.newE hD⟩
    · rintro i m H3 ⟨rfl, hi', F3, r3, acc, ps, kvs, ds, x3, pa, E3, h3⟩
      obtain ⟨L3, e3, S3⟩ := id E3
      by_cases hlt : i < items.length
      · refine .inr ⟨Y.go i F3 P Lk _ H3 x3 S3 hlt, fun H' => ∃ F' r' acc ps kvs ds, Ext F1 F' ∧ PairsAt C F' ps kvs ds acc ∧ EnvX C ((.c .z, .ref Da, .lst (opqs (ps.map V.ref))) :: cellsOf oe (kvs.map (·.2)) ds) F' P Lk G r' (wipe σ vs) H' ∧ dcLN t vs ts fk f (items.drop (i + 1)) acc r' = .ok all r9,
          fun H' ⟨F', r', acc', z⟩ => ⟨items.length - (i + 1), by omega, rfl, hlt, F', r', acc', z⟩, fun x H' y => ?_⟩
        obtain ⟨F4, d, x4, hd4, R4, S4⟩ := Y.yld i F3 P Lk _ H3 x H' x3 S3 hlt y
        have e1 : items.drop i = d :: items.drop (i + 1) := by
          rw [List.drop_eq_getElem_cons hlt]
          congr 1
          rw [List.getElem?_eq_getElem hlt] at hd4
          exact Option.some.inj hd4
        rw [e1] at h3
        unfold dcLN at h3
        cases hput : t.put d r3 with
        | none => rw [hput] at h3; cases h3
        | some r4 =>
          rw [hput] at h3
          dsimp only at h3
          have E4 : EnvX C ((.c .z, .ref Da, .lst (opqs (ps.map V.ref))) :: cellsOf oe (kvs.map (·.2)) ds) F4 P Lk G r3 (wipe σ vs) H' := ⟨L3, e3, S4⟩
          obtain ⟨P4, E4', eP4, unp4⟩ := E4.park
          refine ⟨F4, P4, Lk, r3, d, r4, E4', R4, hput, fun σ5 o5 F5 H5 x5 E5 => ?_⟩
          rw [ht] at o5
          have ws := wipe_twice o5
          refine ⟨ws, ?_⟩
          cases hts : ts r4 with
          | stk => rw [hts] at h3; cases h3
          | exc c fs => rw [hts] at h3; cases h3
          | ok b r5 =>
            rw [hts] at h3
            refine ⟨F5, P4, Lk, r4, E5, ?_⟩
            rw [hts]
            intro F6 H6 x6 E6
            have x6 := x5.trans x6
            cases b with
            | false =>
              have h3 : dcLN t vs ts fk f (items.drop (i + 1)) acc (wipeE r5 vs) = .ok all r9 := h3
              rw [if_neg Bool.false_ne_true]
              have E7 := EnvX.wipe hv (unp4 _ _ _ _ _ _ _ x6 E6)
              rw [ws, List.append_nil] at E7
              exact ⟨F6, _, acc, ps, kvs, ds, x3.trans (x4.trans x6), pa.mono fun a xs z => extTup (x4.trans x6) z, E7, h3⟩
            | true =>
              rw [if_pos rfl]
              have h3 : (bndN (fk r5) fun k r3 => bndN (f r3) fun x r4 => if (toKey k).isSome = true ∧ acc.length < sizeLine ∧ (acc.any fun p => keyB p.1 k) = false then dcLN t vs ts fk f (items.drop (i + 1)) (acc ++ [(k, x)]) (wipeE r4 vs) else .stk) = .ok all r9 := h3
              cases hfk : fk r5 with
              | stk => rw [hfk] at h3; cases h3
              | exc c fs => rw [hfk] at h3; cases h3
              | ok kd r6 =>
                rw [hfk] at h3
                have h3 : (bndN (f r6) fun x r4 => if (toKey kd).isSome = true ∧ acc.length < sizeLine ∧ (acc.any fun p => keyB p.1 kd) = false then dcLN t vs ts fk f (items.drop (i + 1)) (acc ++ [(kd, x)]) (wipeE r4 vs) else .stk) = .ok all r9 := h3
                cases hf : f r6 with
                | stk => rw [hf] at h3; cases h3
                | exc c fs => rw [hf] at h3; cases h3
                | ok xd r7 =>
                  rw [hf] at h3
                  have h3 : (if (toKey kd).isSome = true ∧ acc.length < sizeLine ∧ (acc.any fun p => keyB p.1 kd) = false then dcLN t vs ts fk f (items.drop (i + 1)) (acc ++ [(kd, xd)]) (wipeE r7 vs) else .stk) = .ok all r9 := h3
                  split at h3
                  · rename_i hk
                    obtain ⟨ky, hky⟩ := Option.isSome_iff_exists.mp hk.1
                    have ek := toKey_some hky
                    subst ek
                    refine ⟨F6, P4, Lk, r5, E6, ?_⟩
                    rw [hfk]
                    intro yk F7 H7 x7 E7
                    obtain ⟨R7, E7b⟩ := E7.rep
                    clear E7
                    have eyk : yk = kV ky := by cases ky <;> (cases R7; rfl)
                    subst eyk
                    refine ⟨F7, P4, Lk, r6, E7b, ?_⟩
                    rw [hf]
                    intro yv F8 H8 x8 E8
                    refine ⟨show 2 ≤ sizeLine by decide, fun p9 hp9 => ?_⟩
                    have x9 := x4.trans (x6.trans (x7.trans x8))
                    obtain ⟨L8, e8, s8⟩ := unp4 _ _ _ _ _ _ _ (x6.trans (x7.trans x8)) E8
                    obtain ⟨xn, s9⟩ := s8.newZ (o := .tup [kV ky, yv]) hp9
                    have pa9 := (pa.mono (C := C) fun a xs z => extTup (x9.trans xn) z).add (q := p9) (v := yv) (d := xd) upd_same hk.2.2
                    have s9 : Stt C (upd F8 p9 (.tup [kV ky, yv])) P Lk ((.c .z, .ref Da, .lst (opqs (ps.map V.ref))) :: (cellsOf oe (kvs.map (·.2)) ds ++ (oe, yv, xd) :: L8)) (upd H8 p9 (.tup [kV ky, yv])) := by
                      have z := s9
                      simp only [List.append_assoc, List.cons_append, List.nil_append] at z
                      exact z
                    obtain ⟨a, vs0, ea, h0, l0, s10⟩ := Stt.openL s9
                    cases ea
                    obtain ⟨rr, s11⟩ := s10.unz l0
                    have ev := repL_opq_eq rr
                    subst ev
                    have lp : ps.length = kvs.length := pa.tup.length
                    refine ⟨_, h0, ?_, _, _, _, ps ++ [p9], kvs ++ [(ky, yv)], ds ++ [xd], x3.trans (x9.trans xn), pa9, ?_, h3⟩
                    · have : acc.length = kvs.length := by rw [pa.acc, List.length_zip, List.length_map, ← pa.len, Nat.min_self]
                      rw [List.length_map]
                      omega
                    · have s12 : SttH C (upd F8 p9 (.tup [kV ky, yv])) P Lk [Da] (cellsOf oe ((kvs ++ [(ky, yv)]).map (·.2)) (ds ++ [xd]) ++ L8) (upd H8 p9 (.tup [kV ky, yv])) := by
                        rw [List.map_append, cellsOf_append (by simpa using pa.len), List.append_assoc]
                        exact s11
                      have s13 := SttH.closeL (o := .z) (SttH.zcell (repL_opq (C := C) (ps.map V.ref ++ [V.ref p9])) s12) (by simp [opqs])
                      have E9 := EnvX.wipe hv (T := (.c .z, .ref Da, .lst (opqs (ps.map V.ref ++ [V.ref p9]))) :: cellsOf oe ((kvs ++ [(ky, yv)]).map (·.2)) (ds ++ [xd])) (r := r7) ⟨L8, e8, s13⟩
                      rw [ws] at E9
                      rw [List.map_append]
                      exact E9
                  · cases h3
      · have e : i = items.length := by omega
        subst e
        rw [List.drop_length] at h3
        cases h3
        refine .inl ⟨Y.stop F3 P Lk _ H3 x3 S3, Da, ps, kvs, rfl, ?_, ?_, fun p hp => ?_⟩
        · obtain ⟨a, vs0, ea, h0, l0, s10⟩ := Stt.openL S3
          cases ea
          obtain ⟨rr, _⟩ := s10.unz l0
          rw [← repL_opq_eq rr]
          exact .inl (.inl h0)
        · exact Paired.mapP pa.tup fun q kv z => SqT.of (S3.tup z)
        · have em : L2.mergeK [] kvs = kvs := by
            rw [mergeK_new]
            · rfl
            · exact pa.nd
          rw [em]
          have ER := EnvX.rest hv E1 x3 E3
          obtain ⟨L4, e4, S4⟩ := ER
          have S5 : Stt C F3 P Lk (cellsOf oe (kvs.map (·.2)) ds ++ L4) H3 := S4.tail
          have S6 := SttH.closeK (S5.hole hp) pa.len
          have eacc := pa.acc
          rw [← eacc] at S6
          exact q1 _ F3 _ (x1.trans x3) ⟨L4, e4, S6⟩
theorem de_dcP {oe : O} {it : SI} {t : Tg} {ts : ST} {fk f : SE} {scope : Scope} {own : List (Str × Nat)} {vs : List Nat} {x1 : Nat} (hgl : Gl X "dict") (hm : X.mg "dict" = none) (hc : X.calm = true) (hN : X.N.Nodup) (hi : PI X tg iter (tDI C W G it)) (ok : BlkOk X.N X.env.scope scope own) (hvs : own.map (·.2) = vs) (hv : (vs.all fun i => decide (G[i]? = some .z)) = true) (ht : t.slots = vs)
    (hg : ∀ (s : Shared) (H : Hp) (C1 : Addr) (cl : List (Str × Addr)) (fp : List Addr), PG (X.blk s H scope (compEnvC scope cl C1 X.env) fp) tg (tDG C G t))
    (htt : ∀ (s : Shared) (H : Hp) (C1 : Addr) (cl : List (Str × Addr)) (fp : List Addr), PTs (X.blk s H scope (compEnvC scope cl C1 X.env) fp) ifs (tDTs C G ts))
    (hk : ∀ (s : Shared) (H : Hp) (C1 : Addr) (cl : List (Str × Addr)) (fp : List Addr), PE (X.blk s H scope (compEnvC scope cl C1 X.env) fp) kx (tD C W0 G fk .z))
    (he : ∀ (s : Shared) (H : Hp) (C1 : Addr) (cl : List (Str × Addr)) (fp : List Addr), PE (X.blk s H scope (compEnvC scope cl C1 X.env) fp) vx (tD C W0 G f oe)) (hs : ∀ x, foldedSetIterable iter X.env x = pure x := by intro _; rfl)
    (na : starEach [.ListComp (.Tuple [kx, vx] x1 tpos) [⟨tg, iter, ifs, 0⟩] scope lpos] X.env = (false, eval (.ListComp (.Tuple [kx, vx] x1 tpos) [⟨tg, iter, ifs, 0⟩] scope lpos) X.env) :: starEach [] X.env := by rfl)
    (nb : ∀ (s : Shared) (H : Hp) (C1 : Addr) (cl : List (Str × Addr)) (fp : List Addr) (e : PySem.Env), e = (X.blk s H scope (compEnvC scope cl C1 X.env) fp).env → starEach [kx, vx] e = (false, eval kx e) :: starEach [vx] e := by intros; rfl)
    (nc : ∀ (s : Shared) (H : Hp) (C1 : Addr) (cl : List (Str × Addr)) (fp : List Addr) (e : PySem.Env), e = (X.blk s H scope (compEnvC scope cl C1 X.env) fp).env → starEach [vx] e = (false, eval vx e) :: starEach [] e := by intros; rfl) :
    PE X (.Call (.Name "dict" p) [.ListComp (.Tuple [kx, vx] x1 tpos) [⟨tg, iter, ifs, 0⟩] scope lpos] [] pos) (tD C W G (eDcN it vs t ts fk f) (.c oe)) := by
  subst hvs
  exact PE_weak (pe_callTy (call_dictP hc) hgl hm bt_dict (pa_cons (pe_lc hc hN hi ok hg htt (fun s H C1 cl fp => pe_tup (pa_cons (hk s H C1 cl fp) (pa_cons (he s H C1 cl fp) pa_nil (nc s H C1 cl fp _ rfl)) (nb s H C1 cl fp _ rfl))) hs) pa_nil na)) fun σ H Q q => dcP_hyp (X := X) (fun i hi => by simpa using List.all_eq_true.mp hv i hi) ht q
end
end DL
set_option Elab.async false
set_option linter.all false
set_option autoImplicit false
set_option maxHeartbeats 1000000
/-! the data layer, part 30: name = {k: v for ..}; a, b, c = x, y, z -/
namespace DL
open PySem PySem.Spec PyProof.Rows L2
variable {C : Cfg}
section
variable {X : Cx} {W : WX} {R : Rt} {G : List O} {kx vx tg iter a b c : Expr} {ifs : List Expr} {pos : Pos}
theorem ps_setDc {i : Nat} {y : Str} {py spos : Pos} {scope : Scope} {own : List (Str × Nat)} {wi : TI} {g : TG} {tt : TT} {tk tv : TE} (calm : X.calm = true) (nd : X.N.Nodup) (ny : X.N[i]? = some y) (ly : X.env.scope.names.lookup y = some .local)
    (sw : swapsWith (.DictComp kx vx [⟨tg, iter, ifs, 0⟩] scope pos) (some (.Name y py)) spos.line X.env = pure true) (pi : PI X tg iter wi) (blk : BlkOk X.N X.env.scope scope own)
    (pg : ∀ (s : Shared) (H : Hp) (C1 : Addr) (cl : List (Str × Addr)) (fp : List Addr), PG (X.blk s H scope (compEnvC scope cl C1 X.env) fp) tg g) (pt : ∀ (s : Shared) (H : Hp) (C1 : Addr) (cl : List (Str × Addr)) (fp : List Addr), PTs (X.blk s H scope (compEnvC scope cl C1 X.env) fp) ifs tt)
    (pk : ∀ (s : Shared) (H : Hp) (C1 : Addr) (cl : List (Str × Addr)) (fp : List Addr), PE (X.blk s H scope (compEnvC scope cl C1 X.env) fp) kx tk) (pv : ∀ (s : Shared) (H : Hp) (C1 : Addr) (cl : List (Str × Addr)) (fp : List Addr), PE (X.blk s H scope (compEnvC scope cl C1 X.env) fp) vx tv)
    (fs : ∀ x, foldedSetIterable iter X.env x = pure x := by intro _; rfl) : PS X (.Assign [.Name y py] (.DictComp kx vx [⟨tg, iter, ifs, 0⟩] scope pos) spos) (tAsg (tDc wi g tt tk tv (own.map (·.2))) (gName i)) := by
  refine ⟨fun pins s σ H D I q => ?_⟩
  rw [exec_Assign_Name_used _ _ _ _ sw]
  refine wpAny_bind (wpAny_standAt (wpAny_bind ?_))
  show wpAny _ X.A (do let _ ← comprehension (.DictComp kx vx [⟨tg, iter, ifs, 0⟩] scope pos) scope X.env (firstIterPos [⟨tg, iter, ifs, 0⟩] pos) newDict false (eval iter X.env) (some (assign (.Name y py) X.env))) _ _ s
  have q : tDc wi g tt tk tv (own.map (·.2)) σ H (fun x H1 => gName i x σ H1 D.nx) := q
  refine wpAny_bind (thn (dc_core (Qf := fun _ s' => SP X pins D .next s') calm nd I pi blk pg pt pk pv fs q fun M c1 s' m H' I' q' ns f => ?_) fun _ s' z => wpAny_pure (wpAny_pure z))
  show wpAny _ _ (assign (.Name y py) X.env (.ref M)) _ _ _
  obtain ⟨f0, f1, f2, f3, f4, f5⟩ := f
  refine wpAny_assign_Name (store_ok2 (v := V.ref M) I' nd ny (.inl ly) rfl (fun s2 I2 ⟨ad, sb, ha⟩ => ⟨m, ns.sameBut sb (ha.elim (fun z => z ▸ f1) fun z e => f4 y ad z e.symm), fun h3 sb3 => ⟨_, H', I2.turned (t' := s2.toks) (fun b o hb e => (sb3.2 b hb).trans e) f0 f1 f3 f4 f5, q'⟩⟩) (.inr ly))
theorem swD_true {gs : List Comprehension} {scope : Scope} {py : Pos} {y : Str} {l : Nat} {env : PySem.Env} (fn : env.scope.kind = .function) (ly : env.scope.names.lookup y = some .local) (sl : (py.line == pos.line) = true)
    (no : (scope.names.any fun (n, k) => n == y && (k == .local || k == .cell)) = false) : swapsWith (.DictComp kx vx gs scope pos) (some (.Name y py)) l env = pure true := by
  have e1 : env.blockKind = .function := by unfold PySem.Env.blockKind; rw [fn]; rfl
  have e2 : env.kindOf y = some .local := ly
  unfold swapsWith
  simp only [e1, e2, no, Expr.pos, sl]
  rfl
theorem d_setDcN {i : Nat} {y : Str} {py spos : Pos} {oe : O} {it : SI} {t : Tg} {ts : ST} {fk f : SE} {scope : Scope} {own : List (Str × Nat)} {vs : List Nat} (hc : X.calm = true) (hN : X.N.Nodup) (hy : X.N[i]? = some y) (hyl : X.env.scope.names.lookup y = some .local)
    (hsw : swapsWith (.DictComp kx vx [⟨tg, iter, ifs, 0⟩] scope pos) (some (.Name y py)) spos.line X.env = pure true) (hi : PI X tg iter (tDI C W G it)) (ok : BlkOk X.N X.env.scope scope own) (hvs : own.map (·.2) = vs) (hv : (vs.all fun i => decide (G[i]? = some .z)) = true) (ht : t.slots = vs)
    (hg : ∀ (s : Shared) (H : Hp) (C1 : Addr) (cl : List (Str × Addr)) (fp : List Addr), PG (X.blk s H scope (compEnvC scope cl C1 X.env) fp) tg (tDG C G t))
    (htt : ∀ (s : Shared) (H : Hp) (C1 : Addr) (cl : List (Str × Addr)) (fp : List Addr), PTs (X.blk s H scope (compEnvC scope cl C1 X.env) fp) ifs (tDTs C G ts))
    (hk : ∀ (s : Shared) (H : Hp) (C1 : Addr) (cl : List (Str × Addr)) (fp : List Addr), PE (X.blk s H scope (compEnvC scope cl C1 X.env) fp) kx (tD C W0 G fk .z))
    (he : ∀ (s : Shared) (H : Hp) (C1 : Addr) (cl : List (Str × Addr)) (fp : List Addr), PE (X.blk s H scope (compEnvC scope cl C1 X.env) fp) vx (tD C W0 G f oe)) (hp : R.pm.contains i = false) (hG : i < G.length) (hs : ∀ x, foldedSetIterable iter X.env x = pure x := by intro _; rfl) :
    PS X (.Assign [.Name y py] (.DictComp kx vx [⟨tg, iter, ifs, 0⟩] scope pos) spos) (tDS C W R G (sAsg i (eDcN it vs t ts fk f)) (G.set i (.c oe))) := by
  subst hvs
  refine PS_weak (ps_setDc hc hN hy hyl hsw hi ok hg htt hk he hs) fun D σ H q => dcN_hyp (fun i hi => by simpa using List.all_eq_true.mp hv i hi) ht ?_
  obtain ⟨F, P, Lk, r, E, q⟩ := q
  exact ⟨F, P, Lk, r, E, (RF.fl q).mono fun d r1 q1 v F1 H1 x1 E1 => q1 _ F1 H1 x1 (Keep.set (by simpa using hp)) (E1.put (by have := E1.len; omega))⟩
theorem d_setDc {i : Nat} {y : Str} {py spos : Pos} {it : SI} {t : Tg} {ts : ST} {fk f : SE} {scope : Scope} {own : List (Str × Nat)} {vs : List Nat} (hc : X.calm = true) (hN : X.N.Nodup) (hy : X.N[i]? = some y) (hyl : X.env.scope.names.lookup y = some .local)
    (hsw : swapsWith (.DictComp kx vx [⟨tg, iter, ifs, 0⟩] scope pos) (some (.Name y py)) spos.line X.env = pure true) (hi : PI X tg iter (tDI C W G it)) (ok : BlkOk X.N X.env.scope scope own) (hvs : own.map (·.2) = vs) (hv : (vs.all fun i => decide (G[i]? = some .z)) = true) (ht : t.slots = vs)
    (hg : ∀ (s : Shared) (H : Hp) (C1 : Addr) (cl : List (Str × Addr)) (fp : List Addr), PG (X.blk s H scope (compEnvC scope cl C1 X.env) fp) tg (tDG C G t))
    (htt : ∀ (s : Shared) (H : Hp) (C1 : Addr) (cl : List (Str × Addr)) (fp : List Addr), PTs (X.blk s H scope (compEnvC scope cl C1 X.env) fp) ifs (tDTs C G ts))
    (hk : ∀ (s : Shared) (H : Hp) (C1 : Addr) (cl : List (Str × Addr)) (fp : List Addr), PE (X.blk s H scope (compEnvC scope cl C1 X.env) fp) kx (tD C W0 G fk .z))
    (he : ∀ (s : Shared) (H : Hp) (C1 : Addr) (cl : List (Str × Addr)) (fp : List Addr), PE (X.blk s H scope (compEnvC scope cl C1 X.env) fp) vx (tD C W0 G f .z)) (hp : R.pm.contains i = false) (hG : i < G.length) (hs : ∀ x, foldedSetIterable iter X.env x = pure x := by intro _; rfl) :
    PS X (.Assign [.Name y py] (.DictComp kx vx [⟨tg, iter, ifs, 0⟩] scope pos) spos) (tDS C W R G (sAsg i (eDc it vs t ts fk f)) (G.set i (.c .z))) := by
  subst hvs
  refine PS_weak (ps_setDc hc hN hy hyl hsw hi ok hg htt hk he hs) fun D σ H q => dc_hyp (fun i hi => by simpa using List.all_eq_true.mp hv i hi) ht ?_
  obtain ⟨F, P, Lk, r, E, q⟩ := q
  exact ⟨F, P, Lk, r, E, (RF.fl q).mono fun d r1 q1 v F1 H1 x1 E1 => q1 _ F1 H1 x1 (Keep.set (by simpa using hp)) (E1.put (by have := E1.len; omega))⟩
/-! three names -/
theorem EnvX.putT {F P H : Hp} {Lk : Lock} {r : DL.Env} {σ : L2.St} {i : Nat} {o : O} {v : V} {d : D} {T : List Cell} (h : EnvX C ((o, v, d) :: T) F P Lk G r σ H) (hi : i < r.length) : EnvX C T F P Lk (G.set i o) (r.set i (some d)) (σ.set i (some v)) H := by
  obtain ⟨L, e, s⟩ := h
  obtain ⟨L', T', a, b⟩ := e.put hi o v d
  refine ⟨L', a, Stt.drop (M := T') (s.perm ?_)⟩
  have z1 : ((o, v, d) :: T ++ L).Perm (T ++ ((o, v, d) :: L)) := by simpa using (List.perm_middle (l₁ := T) (l₂ := L) (a := (o, v, d))).symm
  have z2 : (T ++ (T' ++ L')).Perm (T' ++ (T ++ L')) := by
    rw [← List.append_assoc, ← List.append_assoc]
    exact List.perm_append_comm.append_right L'
  exact (z1.trans (b.append_left T)).trans z2
theorem EnvR.three {o1 o2 o3 : O} {ds : List D} {vs : List V} {La : List Cell} (h : EnvR [o1, o2, o3] (ds.map some) (vs.map some) La) : ∃ d1 v1 d2 v2 d3 v3, ds = [d1, d2, d3] ∧ vs = [v1, v2, v3] ∧ La = [(o1, v1, d1), (o2, v2, d2), (o3, v3, d3)] := by
  cases ds with
  | nil => cases h
  | cons d ds =>
    cases vs with
    | nil => cases h
    | cons v vs =>
      cases h with
      | «have» h =>
        obtain ⟨d2, v2, d3, v3, rfl, rfl, rfl⟩ := h.two
        exact ⟨d, v, d2, v2, d3, v3, rfl, rfl, rfl⟩
def sPar3 (i j l : Nat) (k : SA) : SS := fun r => (k r).fl fun ds r1 => match ds with
  | [x, y, z] => .nx (((r1.set i (some x)).set j (some y)).set l (some z))
  | _ => .stk
theorem d_par3 {i j l : Nat} {x y z : Str} {k : SA} {oi oj ol : O} {mv : List (Option Nat)} {px py pz pt : Pos} {kt k2 pt2} (hc : X.calm = true) (hN : X.N.Nodup) (hi : X.N[i]? = some x) (hj : X.N[j]? = some y) (hl : X.N[l]? = some z) (n1 : i ≠ j) (n2 : i ≠ l) (n3 : j ≠ l)
    (hx : X.env.scope.names.lookup x = some .local) (hy : X.env.scope.names.lookup y = some .local) (hz : X.env.scope.names.lookup z = some .local) (ha : PA X [a, b, c] (tDM C W G k mv [oi, oj, ol])) (p1 : R.pm.contains i = false) (p2 : R.pm.contains j = false) (p3 : R.pm.contains l = false) (l1 : i < G.length) (l2 : j < G.length) (l3 : l < G.length)
    (hw : swappedStores [.Tuple [.Name x px, .Name y py, .Name z pz] kt pt] (.Tuple [a, b, c] k2 pt2) X.env = pure (some [x, y, z]))
    (hs : swapsWithSole [.Tuple [.Name x px, .Name y py, .Name z pz] kt pt] (.Tuple [a, b, c] k2 pt2) pos.line X.env = pure false := by rfl) :
    PS X (.Assign [.Tuple [.Name x px, .Name y py, .Name z pz] kt pt] (.Tuple [a, b, c] k2 pt2) pos) (tDS C W R G (sPar3 i j l k) (((G.set i oi).set j oj).set l ol)) := by
  refine PS_weak (ps_par3 hc hN hi hj hl n1 n2 n3 hx hy hz ha hw hs) fun D σ H q => ?_
  obtain ⟨F, P, Lk, r, E, q⟩ := q
  refine ⟨F, P, Lk, r, E, (RF.fl q).mono fun ds r1 q1 vs F1 H1 La x1 R1 E1 m => ?_⟩
  obtain ⟨d1, v1, d2, v2, d3, v3, rfl, rfl, rfl⟩ := R1.three
  refine ⟨v1, v2, v3, rfl, q1 _ F1 H1 x1 (((Keep.set (by simpa using p1)).trans (Keep.set (by simpa using p2))).trans (Keep.set (by simpa using p3))) ?_⟩
  have ln := E1.len
  have E2 : EnvX C [(oi, v1, d1), (oj, v2, d2), (ol, v3, d3)] F1 P Lk G r1 σ H1 := E1
  have S1 := EnvX.putT (i := i) E2 (by omega)
  have S2 := EnvX.putT (i := j) S1 (by simp; omega)
  have S3 := EnvX.putT (i := l) S2 (by simp; omega)
  exact S3
end
end DL
set_option Elab.async false
set_option linter.all false
set_option autoImplicit false
/-! equations of the newer combinators -/
namespace DL
open PySem PySem.Spec PyProof.Rows L2
section
variable {α β : Type} {r : DL.Env} {i j l n : Nat} {d : D} {f f1 f2 h : SE} {t u : ST} {k kk : SA} {s s' : SS}
@[simp] theorem eIxO_ap : eIxO i f r = match r[i]? with
  | some (some _) => (f r).bind fun ix r1 => match r1[i]? with
    | some (some c) => match itemAt c ix with
      | some d => .ok d r1
      | none => .stk
    | _ => .stk
  | _ => .stk := nrfl rfl
theorem itemAt_lst {xs : List D} {j : Nat} {x : D} (h : xs[j]? = some x) : itemAt (.lst xs) (.int j) = some x := by
  have hl := (List.getElem?_eq_some_iff.mp h).1
  have e := (List.getElem?_eq_some_iff.mp h).2
  simp [itemAt, idxD, ixN, hl, getJ, e]
@[simp] theorem itemAt0 (x : D) (xs : List D) : itemAt (.lst (x :: xs)) (.int 0) = some x := by simp [itemAt, idxD, ixN, getJ]
@[simp] theorem itemAt1 (x y : D) (xs : List D) : itemAt (.lst (x :: y :: xs)) (.int 1) = some y := by
  have : (1 : Int) < (xs.length + 1 + 1 : Int) := by omega
  simp [itemAt, idxD, ixN, getJ, this]
@[simp] theorem sStN_ap : sStN i f1 f2 f r = (f r).fl fun d r1 => match putN i f1 f2 d r1 with
  | some r2 => .nx r2
  | none => .stk := nrfl rfl
@[simp] theorem sSetN_ap : sSetN i f1 f r = (f r).fl fun d r1 => match putS i f1 d r1 with
  | some r2 => .nx r2
  | none => .stk := nrfl rfl
theorem putN_ap : putN i f1 f2 d r = match r[i]? with
  | some (some c) => match f1 (r.set i none) with
    | .ok ix r2 => match spot c ix with
      | some (j, inner) => match f2 r2 with
        | .ok iy r3 => match r3[i]? with
          | some none => match setIx inner iy d with
            | some inner' => match setJ c j inner' with
              | some (c', _) => some (r3.set i (some c'))
              | none => none
            | none => none
          | _ => none
        | _ => none
      | none => none
    | _ => none
  | _ => none := nrfl rfl
theorem putS_ap : putS i f1 d r = match r[i]? with
  | some (some _) => match f1 r with
    | .ok ix r1 => match r1[i]? with
      | some (some c) => match spot c ix with
        | some (j, _) => if oneAt c ix j = true ∧ szOk c = true then (match setJ c j d with
            | some (c', _) => some (r1.set i (some c'))
            | none => none) else none
        | none => none
      | _ => none
    | _ => none
  | _ => none := nrfl rfl
@[simp] theorem sPar3_ap : sPar3 i j l k r = (k r).fl fun ds r1 => match ds with
  | [x, y, z] => .nx (((r1.set i (some x)).set j (some y)).set l (some z))
  | _ => .stk := nrfl rfl
theorem eDcN_ap (it : SI) (vs : List Nat) (t : Tg) (ts : ST) (fk f : SE) (r : DL.Env) : eDcN it vs t ts fk f r = (it r).bind fun items r1 => bndN (dcLN t vs ts fk f items [] (wipeE r1 vs)) fun kds r2 => .ok (.dct false kds) (restE r1 vs r2) := nrfl rfl
@[simp] theorem eDisp_ap (ks : List Str) (os : List O) : eDisp ks os k r = (k r).bind fun ds r1 => if ds.length = ks.length ∧ okO os ds = true then .ok (.dct false ((ks.map D.str).zip ds)) r1 else .stk := nrfl rfl
@[simp] theorem iKs_ap : iKs f r = (f r).bind fun d r1 => opt (keysD d) r1 := nrfl rfl
@[simp] theorem keysD_dct (b : Bool) (kvs : List (D × D)) : keysD (.dct b kvs) = some (kvs.map (·.1)) := nrfl rfl
@[simp] theorem killE_nilU (r : DL.Env) : killE [] r = r := nrfl rfl
theorem sWhile_ap : sWhile n t s r = whileL t s n r := nrfl rfl
theorem whileL_succ : whileL t s (n + 1) r = (t r).fl fun b r1 => if b = true then (s r1).seq (whileL t s n) else .nx r1 := nrfl rfl
@[simp] theorem eMethN_ap (g : D → List D → Option (D × D)) : eMethN n i f g k r = match r[i]? with
  | some (some d) => (f (r.set i none)).bind fun ix r1 => match spot d ix with
    | some (j, inner) => if isLst inner = true then (k r1).bind fun ds r2 => match r2[i]? with
        | some none => if ds.length = n then match g inner ds with
          | some (dr, inner') => match setJ d j inner' with
            | some (d', _) => .ok dr (r2.set i (some d'))
            | none => .stk
          | none => .stk
          else .stk
        | _ => .stk
      else .stk
    | none => .stk
  | _ => .stk := nrfl rfl
end
/-- what repr shows is let -/
theorem reprD_lst (xs : List D) : reprD (.lst xs) = match toPy (.lst xs) with
    | some p => if okShow p = true then some (.str p.shown) else none
    | none => none := by
  unfold reprD
  rfl
end DL
set_option Elab.async false
set_option linter.all false
set_option autoImplicit false
/-! dicts whose keys are words -/
namespace DL
open PySem PySem.Spec PyProof.Rows L2
def dS (bs : List Str) (g : Str → D) : D := .dct false (bs.map fun b => (D.str b, g b))
theorem keyB_str (a b : Str) : keyB (.str a) (.str b) = decide (a = b) := by
  have := keyB_key (.inr a) (.inr b)
  have e : ((Sum.inr a : Key) = Sum.inr b) ↔ a = b := ⟨fun h => Sum.inr.inj h, fun h => by rw [h]⟩
  rw [show keyB (.str a) (.str b) = keyB (keyD (.inr a)) (keyD (.inr b)) from rfl, this]
  exact decide_eq_decide.mpr e
theorem find_dS {a : Str} {g : Str → D} : ∀ {bs : List Str}, a ∈ bs → (bs.map fun b => (D.str b, g b)).find? (fun p => keyB p.1 (.str a)) = some (.str a, g a)
  | [], h => nomatch h
  | b :: bs, h => by
    rw [List.map_cons, List.find?_cons, keyB_str]
    by_cases q : b = a
    · subst q; simp
    · have h' : a ∈ bs := by rcases List.mem_cons.mp h with z | z; exact absurd z.symm q; exact z
      simp only [q, decide_false]
      exact find_dS h'
theorem ix_dS {bs : List Str} {g : Str → D} {a : Str} (h : a ∈ bs) : ixD (dS bs g) (.str a) = some (g a) := by
  unfold dS ixD
  simp only [toKey, Option.bind_some, lookD, find_dS h, Option.map_some]
theorem idx_dS {bs : List Str} {g : Str → D} {a : Str} (h : a ∈ bs) : ∃ j, idxD (dS bs g) (.str a) = some j ∧ bs[j]? = some a := by
  have key : ∀ {bs : List Str}, a ∈ bs → ∃ j, ((bs.map fun b => (D.str b, g b)).findIdx? fun p => keyB p.1 (.str a)) = some j ∧ bs[j]? = some a := by
    intro bs
    induction bs with
    | nil => intro h; cases h
    | cons b bs ih =>
      intro h
      rw [List.map_cons, List.findIdx?_cons, keyB_str]
      by_cases q : b = a
      · subst q; exact ⟨0, by simp, rfl⟩
      · have h' : a ∈ bs := by rcases List.mem_cons.mp h with z | z; exact absurd z.symm q; exact z
        obtain ⟨j, e, e2⟩ := ih h'
        exact ⟨j + 1, by simp [q, e], by simpa using e2⟩
  obtain ⟨j, e, e2⟩ := key h
  exact ⟨j, by unfold dS idxD; simp only [toKey, Option.bind_some]; exact e, e2⟩
theorem get_dS {bs : List Str} {g : Str → D} {a : Str} {j : Nat} (h : bs[j]? = some a) : getJ (dS bs g) j = some (g a) := by
  unfold dS getJ
  simp [h]
theorem item_dS {bs : List Str} {g : Str → D} {a : Str} (h : a ∈ bs) : itemAt (dS bs g) (.str a) = some (g a) := by
  obtain ⟨j, e, e2⟩ := idx_dS (g := g) h
  unfold itemAt
  rw [e, Option.bind_some, get_dS e2]
theorem spot_dS {bs : List Str} {g : Str → D} {a : Str} (h : a ∈ bs) : ∃ j, spot (dS bs g) (.str a) = some (j, g a) ∧ bs[j]? = some a := by
  obtain ⟨j, e, e2⟩ := idx_dS (g := g) h
  refine ⟨j, ?_, e2⟩
  unfold spot
  rw [e, Option.bind_some, get_dS e2]
  rfl
theorem set_map_dS {g : Str → D} {a : Str} {d : D} : ∀ {bs : List Str} {j : Nat}, bs.Nodup → bs[j]? = some a → (bs.map fun b => (D.str b, g b)).set j (.str a, d) = bs.map fun b => (D.str b, if b = a then d else g b)
  | [], j, _, h => by simp at h
  | b :: bs, 0, n, h => by
    have e : b = a := by simpa using h
    subst e
    simp only [List.map_cons, List.set_cons_zero, if_pos]
    congr 1
    refine List.map_congr_left fun x hx => ?_
    have : x ≠ b := fun z => (List.nodup_cons.mp n).1 (z ▸ hx)
    simp [this]
  | b :: bs, j + 1, n, h => by
    have h' : bs[j]? = some a := by simpa using h
    have hb : b ≠ a := fun z => (List.nodup_cons.mp n).1 (z ▸ List.mem_of_getElem? h')
    simp only [List.map_cons, List.set_cons_succ, if_neg hb]
    rw [set_map_dS (List.nodup_cons.mp n).2 h']
theorem setJ_dS {bs : List Str} {g : Str → D} {a : Str} {d : D} {j : Nat} (n : bs.Nodup) (h : bs[j]? = some a) : setJ (dS bs g) j d = some (dS bs fun b => if b = a then d else g b, g a) := by
  unfold dS setJ
  simp only [List.getElem?_map, h, Option.map_some]
  rw [set_map_dS n h]
theorem erase_dS {g : Str → D} {a : Str} : ∀ {bs : List Str} {j : Nat}, bs.Nodup → bs[j]? = some a → (((bs.map fun b => (D.str b, g b)).eraseIdx j).any fun p => keyB p.1 (.str a)) = false
  | [], j, _, h => by simp at h
  | b :: bs, 0, n, h => by
    have e : b = a := by simpa using h
    subst e
    simp only [List.map_cons, List.eraseIdx_cons_zero, List.any_map]
    rw [List.any_eq_false]
    intro x hx
    have : x ≠ b := fun z => (List.nodup_cons.mp n).1 (z ▸ hx)
    simp [keyB_str, this]
  | b :: bs, j + 1, n, h => by
    have h' : bs[j]? = some a := by simpa using h
    have hb : b ≠ a := fun z => (List.nodup_cons.mp n).1 (z ▸ List.mem_of_getElem? h')
    simp only [List.map_cons, List.eraseIdx_cons_succ, List.any_cons, keyB_str, hb, decide_false, Bool.false_or]
    exact erase_dS (List.nodup_cons.mp n).2 h'
theorem one_dS {bs : List Str} {g : Str → D} {a : Str} {j : Nat} (n : bs.Nodup) (h : bs[j]? = some a) : oneAt (dS bs g) (.str a) j = true := by
  have e := erase_dS (g := g) n h
  show (!(((bs.map fun b => (D.str b, g b)).eraseIdx j).any fun p => keyB p.1 (.str a))) = true
  rw [e]
  rfl
theorem sz_dS {bs : List Str} {g : Str → D} (h : bs.length ≤ 100) : szOk (dS bs g) = true := by
  unfold dS szOk
  simp only [List.length_map, decide_eq_true_eq]
  exact Nat.lt_of_le_of_lt h (by decide)
theorem any_dS {bs : List Str} {g : Str → D} {a : Str} : ((bs.map fun b => (D.str b, g b)).any fun p => keyB p.1 (.str a)) = decide (a ∈ bs) := by
  induction bs with
  | nil => simp
  | cons b bs ih =>
    rw [List.map_cons, List.any_cons, ih, keyB_str]
    by_cases q : b = a
    · subst q; simp
    · have : a ≠ b := fun z => q z.symm
      simp [q, this]
theorem put_dS {bs : List Str} {g : Str → D} {a : Str} {d : D} (h : a ∈ bs) : putD (bs.map fun b => (D.str b, g b)) (.str a) d = bs.map fun b => (D.str b, if b = a then d else g b) := by
  unfold putD
  rw [any_dS, if_pos (by simpa using h), List.map_map]
  refine List.map_congr_left fun x _ => ?_
  simp only [Function.comp, keyB_str]
  by_cases q : x = a <;> simp [q]
theorem put_new {bs : List Str} {g : Str → D} {a : Str} {d : D} (h : a ∉ bs) : putD (bs.map fun b => (D.str b, g b)) (.str a) d = (bs.map fun b => (D.str b, g b)) ++ [(.str a, d)] := by
  unfold putD
  rw [any_dS, if_neg (by simpa using h)]
theorem setIx_dS {bs : List Str} {g : Str → D} {a : Str} {d : D} (h : a ∈ bs) (l : bs.length ≤ 100) : setIx (dS bs g) (.str a) d = some (dS bs fun b => if b = a then d else g b) := by
  unfold dS setIx
  have : bs.length < sizeLine := Nat.lt_of_le_of_lt l (by decide)
  simp only [List.length_map, this, if_true, toKey, Option.map_some, put_dS h]
theorem setIx_new {bs : List Str} {g : Str → D} {a : Str} {d : D} (h : a ∉ bs) (l : bs.length ≤ 100) (e : g a = d) : setIx (dS bs g) (.str a) d = some (dS (bs ++ [a]) g) := by
  unfold dS setIx
  have : bs.length < sizeLine := Nat.lt_of_le_of_lt l (by decide)
  simp only [List.length_map, this, if_true, toKey, Option.map_some, put_new h, List.map_append, List.map_cons, List.map_nil, e]
/-- {b: g b for b in bs} -/
theorem dcL_dS {t : Tg} {vs : List Nat} {fk f : SE} {r : DL.Env} {g : Str → D} {bs : List Str} (n : bs.Nodup) (l : bs.length ≤ 100) (h : ∀ b ∈ bs, ∃ r1 r2 r3, t.put (.str b) r = some r1 ∧ fk r1 = .ok (.str b) r2 ∧ f r2 = .ok (g b) r3 ∧ wipeE r3 vs = r) :
    dcL t vs tYesD fk f (bs.map D.str) [] r = .ok (bs.map fun b => (D.str b, g b)) r := by
  have key : ∀ (xs ys : List Str), ys ++ xs = bs → dcL t vs tYesD fk f (xs.map D.str) (ys.map fun b => (D.str b, g b)) r = .ok (bs.map fun b => (D.str b, g b)) r := by
    intro xs
    induction xs with
    | nil => intro ys e; rw [List.append_nil] at e; subst e; rfl
    | cons x xs ih =>
      intro ys e
      have hx : x ∈ bs := by rw [← e]; simp
      obtain ⟨r1, r2, r3, h1, h2, h3, h4⟩ := h x hx
      have nx : x ∉ ys := by
        rw [← e] at n
        have := (List.nodup_append.mp n).2.2
        exact fun z => this x z x (by simp) rfl
      have sz : (ys.map fun b => (D.str b, g b)).length < sizeLine := by
        rw [List.length_map]
        have : ys.length ≤ bs.length := by rw [← e]; simp
        exact Nat.lt_of_le_of_lt (Nat.le_trans this l) (by decide)
      rw [List.map_cons]
      unfold dcL
      simp only [h1, tYesD_ap, bndN_ok, if_true, h2, h3]
      rw [if_pos ⟨rfl, sz⟩, put_new nx, h4]
      have := ih (ys ++ [x]) (by simpa using e)
      rwa [List.map_append] at this
  exact key bs [] rfl
theorem dcLN_dS {t : Tg} {vs : List Nat} {fk f : SE} {r : DL.Env} {g : Str → D} {bs : List Str} (n : bs.Nodup) (l : bs.length ≤ 100) (h : ∀ b ∈ bs, ∃ r1 r2 r3, t.put (.str b) r = some r1 ∧ fk r1 = .ok (.str b) r2 ∧ f r2 = .ok (g b) r3 ∧ wipeE r3 vs = r) :
    dcLN t vs tYesD fk f (bs.map D.str) [] r = .ok (bs.map fun b => (D.str b, g b)) r := by
  have key : ∀ (xs ys : List Str), ys ++ xs = bs → dcLN t vs tYesD fk f (xs.map D.str) (ys.map fun b => (D.str b, g b)) r = .ok (bs.map fun b => (D.str b, g b)) r := by
    intro xs
    induction xs with
    | nil => intro ys e; rw [List.append_nil] at e; subst e; rfl
    | cons x xs ih =>
      intro ys e
      have hx : x ∈ bs := by rw [← e]; simp
      obtain ⟨r1, r2, r3, h1, h2, h3, h4⟩ := h x hx
      have nx : x ∉ ys := by
        rw [← e] at n
        have := (List.nodup_append.mp n).2.2
        exact fun z => this x z x (by simp) rfl
      have sz : (ys.map fun b => (D.str b, g b)).length < sizeLine := by
        rw [List.length_map]
        have : ys.length ≤ bs.length := by rw [← e]; simp
        exact Nat.lt_of_le_of_lt (Nat.le_trans this l) (by decide)
      rw [List.map_cons]
      unfold dcLN
      simp only [h1, tYesD_ap, bndN_ok, if_true, h2, h3]
      rw [if_pos ⟨rfl, sz, by rw [any_dS]; simpa using nx⟩, h4]
      have := ih (ys ++ [x]) (by simpa using e)
      rwa [List.map_append] at this
  exact key bs [] rfl
theorem dict_dS {g : Str → D} {bs : List Str} (n : bs.Nodup) : dictD (.lst (bs.map fun b => .tup [.str b, g b])) = some (dS bs g) := by
  have e1 : ∀ bs : List Str, pairsD (bs.map fun b => .tup [.str b, g b]) = some (bs.map fun b => (D.str b, g b)) := by
    intro bs
    induction bs with
    | nil => rfl
    | cons b bs ih =>
      rw [List.map_cons]
      unfold pairsD
      rw [ih]
      rfl
  have e2 : ∀ (xs ys : List Str), (ys ++ xs).Nodup → mergeD (ys.map fun b => (D.str b, g b)) (xs.map fun b => (D.str b, g b)) = (ys ++ xs).map fun b => (D.str b, g b) := by
    intro xs
    induction xs with
    | nil => intro ys _; simp [mergeD]
    | cons x xs ih =>
      intro ys n
      have nx : x ∉ ys := fun z => (List.nodup_append.mp n).2.2 x z x (by simp) rfl
      have := ih (ys ++ [x]) (by simpa using n)
      unfold mergeD at this ⊢
      rw [List.map_cons, List.foldl_cons, put_new nx]
      simpa using this
  unfold dictD
  dsimp only
  rw [e1, Option.map_some]
  have := e2 bs [] (by simpa using n)
  rw [List.map_nil, List.nil_append] at this
  rw [this]
  rfl
theorem keys_dS {bs : List Str} {g : Str → D} : keysD (dS bs g) = some (bs.map D.str) := by
  unfold dS
  rw [keysD_dct, List.map_map]
  rfl
end DL
set_option Elab.async false
set_option linter.all false
set_option autoImplicit false
set_option maxRecDepth 100000
set_option maxHeartbeats 4000000
namespace K20
open PySem PySem.Spec PyProof.Rows L2 DL
/-! ### the text -/
def topS (i : Nat) : Stmt := PySem.Challenge.pw_neverdug_k20_days_drawn_in.main.body.getD i (.Pass ⟨0, 0, 0, 0⟩)
def inC : Stmt → Nat → Stmt
  | .ClassDef _ _ _ b _ _ _ _ _ _ _, j => b.getD j (.Pass ⟨0, 0, 0, 0⟩)
  | st, _ => st
abbrev s_law_draw : Stmt := topS 45
abbrev s_law_pick : Stmt := topS 46
abbrev s_law_folk : Stmt := topS 48
abbrev s_law_fact : Stmt := topS 49
abbrev s_law_mixed : Stmt := topS 47
abbrev s_law_flat : Stmt := topS 52
abbrev s_law_noon : Stmt := topS 51
abbrev s_law_left : Stmt := topS 50
abbrev s_law_fitting : Stmt := topS 53
abbrev s_law_planted : Stmt := topS 54
abbrev s_law_model : Stmt := topS 55
abbrev s_is_list : Stmt := topS 20
abbrev s_is_box : Stmt := topS 21
abbrev s_want_boxes : Stmt := topS 27
abbrev s_is_integer : Stmt := topS 18
abbrev s_want_days : Stmt := topS 28
abbrev s_is_known : Stmt := topS 22
abbrev s_is_ahead_told : Stmt := topS 23
abbrev s_are_days_told : Stmt := topS 24
abbrev s_is_count : Stmt := topS 19
abbrev s_is_gone_told : Stmt := topS 25
abbrev s_is_fact : Stmt := topS 26
abbrev s_want_facts : Stmt := topS 29
abbrev s_Yardu_initu : Stmt := inC (topS 30) 2
abbrev s_law_yard : Stmt := topS 56
abbrev s_Yardu_containsu : Stmt := inC (topS 30) 11
abbrev s_want_box : Stmt := topS 31
abbrev s_drawn_by : Stmt := topS 40
abbrev s_Yard_boxes : Stmt := inC (topS 30) 5
abbrev s_next_boxes : Stmt := topS 37
abbrev s_boxes_behind : Stmt := topS 38
abbrev s_ways_of : Stmt := topS 39
abbrev s_Yard_days : Stmt := inC (topS 30) 4
abbrev s_told_days : Stmt := topS 36
abbrev s_drawn_days : Stmt := topS 41
abbrev s_Yard_facts : Stmt := inC (topS 30) 6
abbrev s_drawn : Stmt := topS 42
abbrev s_law_drawn : Stmt := topS 58
abbrev s_law_told : Stmt := topS 59
abbrev s_law_due : Stmt := topS 60
abbrev s_law_with : Stmt := topS 57
abbrev s_Yardu_addu : Stmt := inC (topS 30) 12
abbrev s_law_right : Stmt := topS 61
abbrev s_law_pot : Stmt := topS 44
abbrev s_law : Stmt := topS 62
abbrev nm_law_draw : List Str := ["_law_pot_here", "_law_size", "_law_digit"]
theorem sc_law_draw : FnScope nm_law_draw ["_law_pot_here", "_law_size"] (defScope s_law_draw) := ⟨rfl, rfl, rfl, by decide +kernel, rfl, by decide +kernel, by decide +kernel⟩
abbrev nm_law_pick : List Str := ["_law_pot_here", "_law_some"]
theorem sc_law_pick : FnScope nm_law_pick ["_law_pot_here", "_law_some"] (defScope s_law_pick) := ⟨rfl, rfl, rfl, by decide +kernel, rfl, by decide +kernel, by decide +kernel⟩
abbrev nm_law_folk : List Str := ["_law_pot_here", "_law_size", "_law_turn", "_law_menu", "_law_found", "_law_label"]
theorem sc_law_folk : FnScope nm_law_folk ["_law_pot_here", "_law_size"] (defScope s_law_folk) := ⟨rfl, rfl, rfl, by decide +kernel, rfl, by decide +kernel, by decide +kernel⟩
abbrev nm_law_fact : List Str := ["_law_pot_here", "_law_folk_here", "_law_span", "_law_way", "_law_few", "_law_at", "_law_noon_here"]
theorem sc_law_fact : FnScope nm_law_fact ["_law_pot_here", "_law_folk_here", "_law_span"] (defScope s_law_fact) := ⟨rfl, rfl, rfl, by decide +kernel, rfl, by decide +kernel, by decide +kernel⟩
abbrev nm_law_mixed : List Str := ["_law_pot_here", "_law_some", "_law_pack", "_law_turn"]
theorem sc_law_mixed : FnScope nm_law_mixed ["_law_pot_here", "_law_some"] (defScope s_law_mixed) := ⟨rfl, rfl, rfl, by decide +kernel, rfl, by decide +kernel, by decide +kernel⟩
abbrev nm_law_flat : List Str := ["_law_lists", "_law_found", "_law_some"]
theorem sc_law_flat : FnScope nm_law_flat ["_law_lists"] (defScope s_law_flat) := ⟨rfl, rfl, rfl, by decide +kernel, rfl, by decide +kernel, by decide +kernel⟩
abbrev nm_law_noon : List Str := ["_law_told_here", "_law_label", "_law_k", "_law_some"]
theorem sc_law_noon : FnScope nm_law_noon ["_law_told_here", "_law_label"] (defScope s_law_noon) := ⟨rfl, rfl, rfl, by decide +kernel, rfl, by decide +kernel, by decide +kernel⟩
abbrev nm_law_left : List Str := ["_law_told_here", "_law_noon_here", "_law_some"]
theorem sc_law_left : FnScope nm_law_left ["_law_told_here", "_law_noon_here"] (defScope s_law_left) := ⟨rfl, rfl, rfl, by decide +kernel, rfl, by decide +kernel, by decide +kernel⟩
abbrev nm_law_fitting : List Str := ["_law_pot_here", "_law_folk_here", "_law_told_here", "_law_noon_here", "_law_here", "_law_few", "_law_way", "_law_row", "_law_span", "_law_at", "_law_label", "_law_early"]
theorem sc_law_fitting : FnScope nm_law_fitting ["_law_pot_here", "_law_folk_here", "_law_told_here"] (defScope s_law_fitting) := ⟨rfl, rfl, rfl, by decide +kernel, rfl, by decide +kernel, by decide +kernel⟩
abbrev nm_law_planted : List Str := ["_law_pot_here", "_law_size", "_law_top", "_law_long", "_law_row", "_law_ends", "_law_told_here", "_law_tale", "_law_folk_here", "_law_span", "_law_k", "_law_turn"]
theorem sc_law_planted : FnScope nm_law_planted ["_law_pot_here", "_law_size", "_law_top", "_law_long"] (defScope s_law_planted) := ⟨rfl, rfl, rfl, by decide +kernel, rfl, by decide +kernel, by decide +kernel⟩
abbrev nm_law_model : List Str := ["_law_pot_here", "_law_size", "_law_top", "_law_long", "_law_way", "_law_found", "_law_tale", "_law_folk_here", "_law_span", "_law_turn"]
theorem sc_law_model : FnScope nm_law_model ["_law_pot_here", "_law_size", "_law_top", "_law_long"] (defScope s_law_model) := ⟨rfl, rfl, rfl, by decide +kernel, rfl, by decide +kernel, by decide +kernel⟩
abbrev nm_is_list : List Str := ["value"]
theorem sc_is_list : FnScope nm_is_list ["value"] (defScope s_is_list) := ⟨rfl, rfl, rfl, by decide +kernel, rfl, by decide +kernel, by decide +kernel⟩
abbrev nm_is_box : List Str := ["value", "sign"]
theorem sc_is_box : FnScope nm_is_box ["value"] (defScope s_is_box) := ⟨rfl, rfl, rfl, by decide +kernel, rfl, by decide +kernel, by decide +kernel⟩
abbrev nm_want_boxes : List Str := ["value", "place", "box"]
theorem sc_want_boxes : FnScope nm_want_boxes ["value"] (defScope s_want_boxes) := ⟨rfl, rfl, rfl, by decide +kernel, rfl, by decide +kernel, by decide +kernel⟩
abbrev nm_is_integer : List Str := ["value"]
theorem sc_is_integer : FnScope nm_is_integer ["value"] (defScope s_is_integer) := ⟨rfl, rfl, rfl, by decide +kernel, rfl, by decide +kernel, by decide +kernel⟩
abbrev nm_want_days : List Str := ["value"]
theorem sc_want_days : FnScope nm_want_days ["value"] (defScope s_want_days) := ⟨rfl, rfl, rfl, by decide +kernel, rfl, by decide +kernel, by decide +kernel⟩
abbrev nm_is_known : List Str := ["boxes", "value"]
theorem sc_is_known : FnScope nm_is_known ["boxes", "value"] (defScope s_is_known) := ⟨rfl, rfl, rfl, by decide +kernel, rfl, by decide +kernel, by decide +kernel⟩
abbrev nm_is_ahead_told : List Str := ["boxes", "rest"]
theorem sc_is_ahead_told : FnScope nm_is_ahead_told ["boxes", "rest"] (defScope s_is_ahead_told) := ⟨rfl, rfl, rfl, by decide +kernel, rfl, by decide +kernel, by decide +kernel⟩
abbrev nm_are_days_told : List Str := ["boxes", "days", "rest"]
theorem sc_are_days_told : FnScope nm_are_days_told ["boxes", "days", "rest"] (defScope s_are_days_told) := ⟨rfl, rfl, rfl, by decide +kernel, rfl, by decide +kernel, by decide +kernel⟩
abbrev nm_is_count : List Str := ["value"]
theorem sc_is_count : FnScope nm_is_count ["value"] (defScope s_is_count) := ⟨rfl, rfl, rfl, by decide +kernel, rfl, by decide +kernel, by decide +kernel⟩
abbrev nm_is_gone_told : List Str := ["many", "days", "rest", "part"]
theorem sc_is_gone_told : FnScope nm_is_gone_told ["many", "days", "rest"] (defScope s_is_gone_told) := ⟨rfl, rfl, rfl, by decide +kernel, rfl, by decide +kernel, by decide +kernel⟩
abbrev nm_is_fact : List Str := ["boxes", "days", "value"]
theorem sc_is_fact : FnScope nm_is_fact ["boxes", "days", "value"] (defScope s_is_fact) := ⟨rfl, rfl, rfl, by decide +kernel, rfl, by decide +kernel, by decide +kernel⟩
abbrev nm_want_facts : List Str := ["boxes", "days", "value", "place", "fact"]
theorem sc_want_facts : FnScope nm_want_facts ["boxes", "days", "value"] (defScope s_want_facts) := ⟨rfl, rfl, rfl, by decide +kernel, rfl, by decide +kernel, by decide +kernel⟩
abbrev nm_Yardu_initu : List Str := ["self", "boxes", "days", "facts"]
theorem sc_Yardu_initu : FnScope nm_Yardu_initu ["self", "boxes", "days", "facts"] (defScope s_Yardu_initu) := ⟨rfl, rfl, rfl, by decide +kernel, rfl, by decide +kernel, by decide +kernel⟩
abbrev nm_law_yard : List Str := ["_law_model_here"]
theorem sc_law_yard : FnScope nm_law_yard ["_law_model_here"] (defScope s_law_yard) := ⟨rfl, rfl, rfl, by decide +kernel, rfl, by decide +kernel, by decide +kernel⟩
abbrev nm_Yardu_containsu : List Str := ["self", "value"]
theorem sc_Yardu_containsu : FnScope nm_Yardu_containsu ["self", "value"] (defScope s_Yardu_containsu) := ⟨rfl, rfl, rfl, by decide +kernel, rfl, by decide +kernel, by decide +kernel⟩
abbrev nm_want_box : List Str := ["yard", "value"]
theorem sc_want_box : FnScope nm_want_box ["yard", "value"] (defScope s_want_box) := ⟨rfl, rfl, rfl, by decide +kernel, rfl, by decide +kernel, by decide +kernel⟩
abbrev nm_drawn_by : List Str := ["told", "ways", "found", "box", "early", "other"]
theorem sc_drawn_by : FnScope nm_drawn_by ["told", "ways"] (defScope s_drawn_by) := ⟨rfl, rfl, rfl, by decide +kernel, rfl, by decide +kernel, by decide +kernel⟩
abbrev nm_Yard_boxes : List Str := ["self"]
theorem sc_Yard_boxes : FnScope nm_Yard_boxes ["self"] (defScope s_Yard_boxes) := ⟨rfl, rfl, rfl, by decide +kernel, rfl, by decide +kernel, by decide +kernel⟩
abbrev nm_next_boxes : List Str := ["yard", "facts", "found", "fact", "box"]
theorem sc_next_boxes : FnScope nm_next_boxes ["yard", "facts"] (defScope s_next_boxes) := ⟨rfl, rfl, rfl, by decide +kernel, rfl, by decide +kernel, by decide +kernel⟩
abbrev nm_boxes_behind : List Str := ["nexts", "box", "found", "at", "other"]
theorem sc_boxes_behind : FnScope nm_boxes_behind ["nexts", "box"] (defScope s_boxes_behind) := ⟨rfl, rfl, rfl, by decide +kernel, rfl, by decide +kernel, by decide +kernel⟩
abbrev nm_ways_of : List Str := ["yard", "facts", "nexts", "box"]
theorem sc_ways_of : FnScope nm_ways_of ["yard", "facts"] (defScope s_ways_of) := ⟨rfl, rfl, rfl, by decide +kernel, rfl, by decide +kernel, by decide +kernel⟩
abbrev nm_Yard_days : List Str := ["self"]
theorem sc_Yard_days : FnScope nm_Yard_days ["self"] (defScope s_Yard_days) := ⟨rfl, rfl, rfl, by decide +kernel, rfl, by decide +kernel, by decide +kernel⟩
abbrev nm_told_days : List Str := ["yard", "facts", "found", "fact", "box", "kind", "first", "last", "told_first", "told_last"]
theorem sc_told_days : FnScope nm_told_days ["yard", "facts"] (defScope s_told_days) := ⟨rfl, rfl, rfl, by decide +kernel, rfl, by decide +kernel, by decide +kernel⟩
abbrev nm_drawn_days : List Str := ["yard", "facts"]
theorem sc_drawn_days : FnScope nm_drawn_days ["yard", "facts"] (defScope s_drawn_days) := ⟨rfl, rfl, rfl, by decide +kernel, rfl, by decide +kernel, by decide +kernel⟩
abbrev nm_Yard_facts : List Str := ["self"]
theorem sc_Yard_facts : FnScope nm_Yard_facts ["self"] (defScope s_Yard_facts) := ⟨rfl, rfl, rfl, by decide +kernel, rfl, by decide +kernel, by decide +kernel⟩
abbrev nm_drawn : List Str := ["yard", "box"]
theorem sc_drawn : FnScope nm_drawn ["yard", "box"] (defScope s_drawn) := ⟨rfl, rfl, rfl, by decide +kernel, rfl, by decide +kernel, by decide +kernel⟩
abbrev nm_law_drawn : List Str := ["_law_model_here", "_law_found", "_law_told_here", "_law_pairs", "_law_turn", "_law_this", "_law_mate", "_law_label"]
theorem sc_law_drawn : FnScope nm_law_drawn ["_law_model_here"] (defScope s_law_drawn) := ⟨rfl, rfl, rfl, by decide +kernel, rfl, by decide +kernel, by decide +kernel⟩
abbrev nm_law_told : List Str := ["_law_made", "_law_model_here", "_law_label"]
theorem sc_law_told : FnScope nm_law_told ["_law_made", "_law_model_here"] (defScope s_law_told) := ⟨rfl, rfl, rfl, by decide +kernel, rfl, by decide +kernel, by decide +kernel⟩
abbrev nm_law_due : List Str := ["_law_model_here", "_law_runs", "_law_label"]
theorem sc_law_due : FnScope nm_law_due ["_law_model_here"] (defScope s_law_due) := ⟨rfl, rfl, rfl, by decide +kernel, rfl, by decide +kernel, by decide +kernel⟩
abbrev nm_law_with : List Str := ["_law_model_here", "_law_rest"]
theorem sc_law_with : FnScope nm_law_with ["_law_model_here", "_law_rest"] (defScope s_law_with) := ⟨rfl, rfl, rfl, by decide +kernel, rfl, by decide +kernel, by decide +kernel⟩
abbrev nm_Yardu_addu : List Str := ["self", "other"]
theorem sc_Yardu_addu : FnScope nm_Yardu_addu ["self", "other"] (defScope s_Yardu_addu) := ⟨rfl, rfl, rfl, by decide +kernel, rfl, by decide +kernel, by decide +kernel⟩
abbrev nm_law_right : List Str := ["_law_pot_here", "_law_model_here", "_law_tale", "_law_turned", "_law_plain", "_law_turn", "_law_made", "_law_label", "_law_grown", "_law_elder", "_law_told_here"]
theorem sc_law_right : FnScope nm_law_right ["_law_pot_here"] (defScope s_law_right) := ⟨rfl, rfl, rfl, by decide +kernel, rfl, by decide +kernel, by decide +kernel⟩
abbrev nm_law_pot : List Str := ["_law_script", "_law_k", "_law_cell"]
theorem sc_law_pot : FnScope nm_law_pot ["_law_script", "_law_k"] (defScope s_law_pot) := ⟨rfl, rfl, rfl, by decide +kernel, rfl, by decide +kernel, by decide +kernel⟩
abbrev nm_law : List Str := ["_law_script", "_law_k"]
theorem sc_law : FnScope nm_law ["_law_script"] (defScope s_law) := ⟨rfl, rfl, rfl, by decide +kernel, rfl, by decide +kernel, by decide +kernel⟩
/-! ### what each def computes -/
def b_law_draw : SS := sSeq (sIf (tView (boolT (e2 (gB (iB fun i j => decide (j < i))) (e2 ixD (eVar 0) (eC (.int 0))) (eC (.int 0))))) (sSeq (sAsgT (.tp [.sb 0 (eC (.int 0)), .nm 2]) (eA (g2 divmodD) (aCons (eIxO 0 (eC (.int 0))) (aCons (eVar 1) aNil)))) (sRet (eVar 2))) sNx) (sSeq (sAsgT (.sb 0 (eC (.int 1))) (e2 modD (eA (g1 intD) (aCons (e2 addD (e2 mulI (eIxO 0 (eC (.int 1))) (eC (.int 48271))) (eC (.int 20023))) aNil)) (eC (.int 2147483587)))) (sRet (e2 modD (eA (g1 intD) (aCons (e2 fdivD (e2 modD (eA (g1 intD) (aCons (e2 mulI (eIxO 0 (eC (.int 1))) (eIxO 0 (eC (.int 1)))) aNil)) (eC (.int 2147483549))) (eC (.int 13))) aNil)) (eVar 1))))
def mir_law_draw : List D → Out := mkF false 1 [true, false] b_law_draw
def b_law_pick : SS := sRet (e2 ixD (eVar 1) (eCall mir_law_draw [some 0, none] (mMv 0 (aCons (eA (g1 lenD) (aCons (eVar 1) aNil)) aNil))))
def mir_law_pick : List D → Out := mkF false 0 [true, false] b_law_pick
def ct_law_folk_0 : ST := tView (boolT (e2 (gB ninD) (eVar 5) (eVar 4)))
def ce_law_folk_0 : SE := eVar 5
def lb_law_folk_0 : SS := sSeq (sDrop (eMeth isLst 4 gAppend (aCons (eCall mir_law_pick [some 0, none] (mMv 0 (aCons (eLc (iE (eVar 3)) [5] (.nm 5) ct_law_folk_0 ce_law_folk_0) aNil))) aNil))) (sKill [2])
def b_law_folk : SS := sSeq (sTup [3, 4] (aCons (eA mkLst (aCons (eC (.str "a")) (aCons (eC (.str "b")) (aCons (eC (.str "c")) (aCons (eC (.str "x")) (aCons (eC (.str "y")) (aCons (eC (.str "zz")) (aCons (eC (.str "ab")) (aCons (eC (.str "ba")) (aCons (eC (.str "ahead")) (aCons (eC (.str "days")) (aCons (eC (.str "gone")) (aCons (eC (.str "put")) (aCons (eC (.str "undo")) (aCons (eC (.str "stacks")) aNil))))))))))))))) (aCons (eC (.lst [])) aNil))) (sSeq (sFor (iRg1 (aCons (eVar 1) aNil)) (.nm 2) lb_law_folk_0) (sRet (eMv 4)))
def mir_law_folk : List D → Out := mkF false 4 [true, false] b_law_folk
def b_law_fact : SS := sSeq (sAsg 3 (eCall mir_law_draw [some 0, none] (mMv 0 (aCons (eC (.int 5)) aNil)))) (sSeq (sIf (tAnd (boolT (e2 (gB ltD) (eVar 3) (eC (.int 2)))) (boolT (e2 (gB (iB fun i j => decide (j < i))) (eA (g1 lenD) (aCons (eVar 1) aNil)) (eC (.int 1))))) (sSeq (sAsg 5 (eCall mir_law_draw [some 0, none] (mMv 0 (aCons (eA (g1 lenD) (aCons (eVar 1) aNil)) aNil)))) (sRet (eA mkTup (aCons (eC (.str "ahead")) (aCons (e2 ixD (eVar 1) (eVar 5)) (aCons (e2 ixD (eVar 1) (e2 modD (e2 addD (e2 addD (eVar 5) (eC (.int 1))) (eCall mir_law_draw [some 0, none] (mMv 0 (aCons (e2 subD (eA (g1 lenD) (aCons (eVar 1) aNil)) (eC (.int 1))) aNil)))) (eA (g1 lenD) (aCons (eVar 1) aNil)))) aNil)))))) sNx) (sSeq (sIf (boolT (e2 (gB ltD) (eVar 3) (eC (.int 4)))) (sSeq (sAsg 6 (e2 addD (eC (.int 1)) (eCall mir_law_draw [some 0, none] (mMv 0 (aCons (eVar 2) aNil))))) (sRet (eA mkTup (aCons (eC (.str "days")) (aCons (eCall mir_law_pick [some 0, none] (mMv 0 (aCons (eVar 1) aNil))) (aCons (eVar 6) (aCons (e2 addD (eVar 6) (eCall mir_law_draw [some 0, none] (mMv 0 (aCons (e2 addD (e2 subD (eVar 2) (eVar 6)) (eC (.int 1))) aNil)))) aNil))))))) sNx) (sSeq (sAsg 4 (eCall mir_law_draw [some 0, none] (mMv 0 (aCons (e2 addD (eA (g1 lenD) (aCons (eVar 1) aNil)) (eC (.int 1))) aNil)))) (sRet (eA mkTup (aCons (eC (.str "gone")) (aCons (e2 addD (eC (.int 1)) (eCall mir_law_draw [some 0, none] (mMv 0 (aCons (eVar 2) aNil)))) (aCons (eVar 4) (aCons (e2 addD (eVar 4) (eCall mir_law_draw [some 0, none] (mMv 0 (aCons (e2 addD (e2 subD (eA (g1 lenD) (aCons (eVar 1) aNil)) (eVar 4)) (eC (.int 1))) aNil)))) aNil)))))))))
def mir_law_fact : List D → Out := mkF false 4 [true, false, false] b_law_fact
def ce_law_mixed_0 : SE := eMeth isLst 2 gPopAt (aCons (eCall mir_law_draw [some 0, none] (mMv 0 (aCons (eView (eA (g1 lenD) (aCons (eVar 2) aNil))) aNil))) aNil)
def b_law_mixed : SS := sSeq (sAsg 2 (eA (g1 listD) (aCons (eVar 1) aNil))) (sRet (eLc (iRg1 (aCons (eA (g1 lenD) (aCons (eVar 1) aNil)) aNil)) [3] (.nm 3) tYesD ce_law_mixed_0))
def mir_law_mixed : List D → Out := mkF false 2 [true, false] b_law_mixed
def lb_law_flat_0 : SS := sSeq (sDrop (eMeth isLst 1 gExtend (aCons (eVar 2) aNil))) (sKill [2])
def b_law_flat : SS := sSeq (sAsg 1 (eC (.lst []))) (sSeq (sFor (iE (eVar 0)) (.nm 2) lb_law_flat_0) (sRet (eMv 1)))
def mir_law_flat : List D → Out := mkF false 2 [false] b_law_flat
def ct_law_noon_0 : ST := boolT (e2 (gB inD) (eVar 1) (eVar 3))
def ce_law_noon_0 : SE := e2 addD (eVar 2) (eC (.int 1))
def b_law_noon : SS := sRet (e2 ixD (eLc (iEn 0 (aCons (eVar 0) aNil)) [2, 3] (.tp [.nm 2, .nm 3]) ct_law_noon_0 ce_law_noon_0) (eC (.int 0)))
def mir_law_noon : List D → Out := mkF false 2 [false, false] b_law_noon
def ce_law_left_0 : SE := eA (g1 lenD) (aCons (eVar 2) aNil)
def b_law_left : SS := sRet (eA (g1 sumD) (aCons (eLc (iE (eSl (eVar 0) oNone (oInt (eVar 1)))) [2] (.nm 2) tYesD ce_law_left_0) aNil))
def mir_law_left : List D → Out := mkF false 1 [false, false] b_law_left
def b_law_fitting : SS := sSeq (sPar3 6 7 8 (aCons (eCall mir_law_draw [some 0, none] (mMv 0 (aCons (eC (.int 6)) aNil))) (aCons (eCall mir_law_flat [none] (aCons (eVar 2) aNil)) (aCons (eA (g1 lenD) (aCons (eVar 2) aNil)) aNil)))) (sSeq (sIf (tAnd (boolT (e2 (gB ltD) (eVar 6) (eC (.int 2)))) (boolT (e2 (gB (iB fun i j => decide (j < i))) (eA (g1 lenD) (aCons (eVar 1) aNil)) (eC (.int 1))))) (sSeq (sAsg 9 (eCall mir_law_draw [some 0, none] (mMv 0 (aCons (e2 subD (eA (g1 lenD) (aCons (eVar 7) aNil)) (eC (.int 1))) aNil)))) (sRet (eA mkTup (aCons (eC (.str "ahead")) (aCons (e2 ixD (eVar 7) (eVar 9)) (aCons (e2 ixD (eVar 7) (e2 addD (e2 addD (eVar 9) (eC (.int 1))) (eCall mir_law_draw [some 0, none] (mMv 0 (aCons (e2 subD (e2 subD (eA (g1 lenD) (aCons (eVar 7) aNil)) (eVar 9)) (eC (.int 1))) aNil))))) aNil)))))) sNx) (sSeq (sIf (boolT (e2 (gB ltD) (eVar 6) (eC (.int 4)))) (sSeq (sAsg 10 (eCall mir_law_pick [some 0, none] (mMv 0 (aCons (eVar 1) aNil)))) (sSeq (sAsg 3 (eCall mir_law_noon [none, none] (aCons (eVar 2) (aCons (eVar 10) aNil)))) (sSeq (sAsg 11 (e2 subD (eVar 3) (e2 mulI (eCall mir_law_draw [some 0, none] (mMv 0 (aCons (eC (.int 2)) aNil))) (eCall mir_law_draw [some 0, none] (mMv 0 (aCons (eVar 3) aNil)))))) (sRet (eA mkTup (aCons (eC (.str "days")) (aCons (eVar 10) (aCons (eVar 11) (aCons (e2 addD (eVar 3) (e2 mulI (eCall mir_law_draw [some 0, none] (mMv 0 (aCons (eC (.int 2)) aNil))) (eCall mir_law_draw [some 0, none] (mMv 0 (aCons (e2 addD (e2 subD (eVar 8) (eVar 3)) (eC (.int 1))) aNil))))) aNil))))))))) sNx) (sSeq (sAsg 3 (e2 addD (eC (.int 1)) (eCall mir_law_draw [some 0, none] (mMv 0 (aCons (eVar 8) aNil))))) (sSeq (sAsg 4 (eCall mir_law_left [none, none] (aCons (eVar 2) (aCons (eVar 3) aNil)))) (sSeq (sAsg 5 (e2 subD (eVar 4) (e2 mulI (eCall mir_law_draw [some 0, none] (mMv 0 (aCons (eC (.int 2)) aNil))) (eCall mir_law_draw [some 0, none] (mMv 0 (aCons (e2 addD (eVar 4) (eC (.int 1))) aNil)))))) (sRet (eA mkTup (aCons (eC (.str "gone")) (aCons (eVar 3) (aCons (eVar 5) (aCons (e2 addD (eVar 4) (e2 mulI (eCall mir_law_draw [some 0, none] (mMv 0 (aCons (eC (.int 2)) aNil))) (eCall mir_law_draw [some 0, none] (mMv 0 (aCons (e2 addD (e2 subD (eA (g1 lenD) (aCons (eVar 1) aNil)) (eVar 4)) (eC (.int 1))) aNil))))) aNil)))))))))))
def mir_law_fitting : List D → Out := mkF false 9 [true, false, false] b_law_fitting
def ce_law_planted_0 : SE := eCall mir_law_draw [some 0, none] (mMv 0 (aCons (e2 addD (eA (g1 lenD) (aCons (eVar 8) aNil)) (eC (.int 1))) aNil))
def ce_law_planted_1 : SE := eSl (eVar 4) (oInt (e2 ixD (eVar 5) (eVar 10))) (oInt (e2 ixD (eVar 5) (e2 addD (eVar 10) (eC (.int 1)))))
def ce_law_planted_2 : SE := eCall mir_law_fitting [some 0, none, none] (mMv 0 (aCons (eVar 8) (aCons (eVar 6) aNil)))
def b_law_planted : SS := sSeq (sTup [8, 9] (aCons (eCall mir_law_folk [some 0, none] (mLt 0 (aCons (e2 addD (eC (.int 1)) (eCall mir_law_draw [some 0, none] (mMv 0 (aCons (eVar 1) aNil)))) aNil))) (aCons (e2 addD (eC (.int 1)) (eCall mir_law_draw [some 0, none] (mMv 0 (aCons (eVar 2) aNil)))) aNil))) (sSeq (sAsg 4 (eCall mir_law_mixed [some 0, none] (mMv 0 (aCons (eVar 8) aNil)))) (sSeq (sAsg 5 (e2 addD (e2 addD (eA mkLst (aCons (eC (.int 0)) aNil)) (eA (g1 sortID) (aCons (eLc (iRg1 (aCons (e2 subD (eVar 9) (eC (.int 1))) aNil)) [11] (.nm 11) tYesD ce_law_planted_0) aNil))) (eA mkLst (aCons (eA (g1 lenD) (aCons (eVar 8) aNil)) aNil)))) (sSeq (sAsg 6 (eLc (iRg1 (aCons (eVar 9) aNil)) [10] (.nm 10) tYesD ce_law_planted_1)) (sSeq (sAsg 7 (eLc (iRg1 (aCons (eCall mir_law_draw [some 0, none] (mMv 0 (aCons (e2 addD (eVar 3) (eC (.int 1))) aNil))) aNil)) [11] (.nm 11) tYesD ce_law_planted_2)) (sRet (eDisp ["folk", "span", "tale", "told"] [.z, .z, (.c .z), .z] (aCons (eVar 8) (aCons (eVar 9) (aCons (eMv 7) (aCons (eVar 6) aNil))))))))))
def mir_law_planted : List D → Out := mkF false 8 [true, false, false, false] b_law_planted
def ce_law_model_0 : SE := eCall mir_law_fact [some 0, none, none] (mMv 0 (aCons (eVar 7) (aCons (eVar 8) aNil)))
def b_law_model : SS := sSeq (sAsg 4 (eCall mir_law_draw [some 0, none] (mMv 0 (aCons (eC (.int 3)) aNil)))) (sSeq (sIf (boolT (e2 (gB eqD) (eVar 4) (eC (.int 0)))) (sSeq (sTup [7, 8] (aCons (eCall mir_law_folk [some 0, none] (mLt 0 (aCons (e2 addD (eC (.int 1)) (eCall mir_law_draw [some 0, none] (mMv 0 (aCons (eVar 1) aNil)))) aNil))) (aCons (e2 addD (eC (.int 1)) (eCall mir_law_draw [some 0, none] (mMv 0 (aCons (eVar 2) aNil)))) aNil))) (sSeq (sAsg 6 (eLc (iRg1 (aCons (eCall mir_law_draw [some 0, none] (mMv 0 (aCons (e2 addD (eVar 3) (eC (.int 1))) aNil))) aNil)) [9] (.nm 9) tYesD ce_law_model_0)) (sRet (eDisp ["folk", "span", "tale"] [.z, .z, .z] (aCons (eVar 7) (aCons (eVar 8) (aCons (eVar 6) aNil))))))) sNx) (sSeq (sAsg 5 (eCall mir_law_planted [some 0, none, none, none] (mMv 0 (aCons (eVar 1) (aCons (eVar 2) (aCons (eVar 3) aNil)))))) (sSeq (sIf (boolT (e2 (gB eqD) (eVar 4) (eC (.int 2)))) (sDrop (eMethK 2 5 2 (.str "tale") gInsert (aCons (eCall mir_law_draw [some 0, none] (mMv 0 (aCons (e2 addD (eA (g1 lenD) (aCons (e2 ixD (eVar 5) (eC (.str "tale"))) aNil)) (eC (.int 1))) aNil))) (aCons (eCall mir_law_fact [some 0, none, none] (mMv 0 (aCons (e2 ixD (eVar 5) (eC (.str "folk"))) (aCons (e2 ixD (eVar 5) (eC (.str "span"))) aNil)))) aNil)) [(.c .z), .z, .z, .z, .z, (.k 2 (.c .z)), .z, .z, .z, .z])) sNx) (sRet (eMv 5)))))
def mir_law_model : List D → Out := mkF false 6 [true, false, false, false] b_law_model
def b_is_list : SS := sRet (eIsiT ["list", "tuple"] (eVar 0))
def mir_is_list : List D → Out := mkF false 0 [false] b_is_list
def ce_is_box_0 : SE := e2 (gB inD) (eVar 1) (eC (.str "abcdefghijklmnopqrstuvwxyz"))
def b_is_box : SS := sSeq (sIf (tOr (tNot (tE (eIsi "str" (eVar 0)))) (tNot (boolT (eCh2 (gB (iB fun i j => decide (i ≤ j))) (gB (iB fun i j => decide (i ≤ j))) (eC (.int 1)) (eA (g1 lenD) (aCons (eVar 0) aNil)) (eC (.int 6)))))) (sRet (eC (.bl false))) sNx) (sRet (eA (g1 allD) (aCons (eLc (iE (eVar 0)) [1] (.nm 1) tYesD ce_is_box_0) aNil)))
def mir_is_box : List D → Out := mkF false 1 [false] b_is_box
def lb_want_boxes_0 : SS := sSeq (sIf (tOr (tNot (tE (eCall mir_is_box [none] (aCons (eVar 2) aNil)))) (boolT (e2 (gB inD) (eVar 2) (eSl (eVar 0) oNone (oInt (eVar 1)))))) sStk sNx) (sKill [1, 2])
def b_want_boxes : SS := sSeq (sIf (tOr (tNot (tE (eCall mir_is_list [none] (aCons (eVar 0) aNil)))) (tNot (boolT (eCh2 (gB (iB fun i j => decide (i ≤ j))) (gB (iB fun i j => decide (i ≤ j))) (eC (.int 1)) (eA (g1 lenD) (aCons (eVar 0) aNil)) (eC (.int 10)))))) sStk sNx) (sFor (iEn 0 (aCons (eVar 0) aNil)) (.tp [.nm 1, .nm 2]) lb_want_boxes_0)
def mir_want_boxes : List D → Out := mkF true 2 [false] b_want_boxes
def b_is_integer : SS := sRet (eAnd (eIsi "int" (eVar 0)) (eNot (eIsi "bool" (eVar 0))))
def mir_is_integer : List D → Out := mkF false 0 [false] b_is_integer
def b_want_days : SS := sIf (tOr (tNot (tE (eCall mir_is_integer [none] (aCons (eVar 0) aNil)))) (tNot (boolT (eCh2 (gB (iB fun i j => decide (i ≤ j))) (gB (iB fun i j => decide (i ≤ j))) (eC (.int 1)) (eVar 0) (eC (.int 9)))))) sStk sNx
def mir_want_days : List D → Out := mkF true 0 [false] b_want_days
def b_is_known : SS := sRet (eAnd (eIsi "str" (eVar 1)) (e2 (gB inD) (eVar 1) (eVar 0)))
def mir_is_known : List D → Out := mkF false 0 [false, false] b_is_known
def b_is_ahead_told : SS := sRet (eAnd (e2 (gB eqD) (eA (g1 lenD) (aCons (eVar 1) aNil)) (eC (.int 2))) (eAnd (eCall mir_is_known [none, none] (aCons (eVar 0) (aCons (e2 ixD (eVar 1) (eC (.int 0))) aNil))) (eAnd (eCall mir_is_known [none, none] (aCons (eVar 0) (aCons (e2 ixD (eVar 1) (eC (.int 1))) aNil))) (e2 (gB neD) (e2 ixD (eVar 1) (eC (.int 0))) (e2 ixD (eVar 1) (eC (.int 1)))))))
def mir_is_ahead_told : List D → Out := mkF false 0 [false, false] b_is_ahead_told
def b_are_days_told : SS := sSeq (sIf (tOr (boolT (e2 (gB neD) (eA (g1 lenD) (aCons (eVar 2) aNil)) (eC (.int 3)))) (tNot (tE (eCall mir_is_known [none, none] (aCons (eVar 0) (aCons (e2 ixD (eVar 2) (eC (.int 0))) aNil)))))) (sRet (eC (.bl false))) sNx) (sRet (eAnd (eCall mir_is_integer [none] (aCons (e2 ixD (eVar 2) (eC (.int 1))) aNil)) (eAnd (eCall mir_is_integer [none] (aCons (e2 ixD (eVar 2) (eC (.int 2))) aNil)) (eCh3 (gB (iB fun i j => decide (i ≤ j))) (gB (iB fun i j => decide (i ≤ j))) (gB (iB fun i j => decide (i ≤ j))) (eC (.int 1)) (e2 ixD (eVar 2) (eC (.int 1))) (e2 ixD (eVar 2) (eC (.int 2))) (eVar 1)))))
def mir_are_days_told : List D → Out := mkF false 0 [false, false, false] b_are_days_told
def b_is_count : SS := sRet (eAnd (eCall mir_is_integer [none] (aCons (eVar 0) aNil)) (e2 (gB (iB fun i j => decide (j ≤ i))) (eVar 0) (eC (.int 0))))
def mir_is_count : List D → Out := mkF false 0 [false] b_is_count
def ce_is_gone_told_0 : SE := eCall mir_is_count [none] (aCons (eVar 3) aNil)
def b_is_gone_told : SS := sSeq (sIf (tOr (boolT (e2 (gB neD) (eA (g1 lenD) (aCons (eVar 2) aNil)) (eC (.int 3)))) (tNot (tE (eA (g1 allD) (aCons (eLc (iE (eVar 2)) [3] (.nm 3) tYesD ce_is_gone_told_0) aNil))))) (sRet (eC (.bl false))) sNx) (sRet (eAnd (eCh2 (gB (iB fun i j => decide (i ≤ j))) (gB (iB fun i j => decide (i ≤ j))) (eC (.int 1)) (e2 ixD (eVar 2) (eC (.int 0))) (eVar 1)) (eCh2 (gB (iB fun i j => decide (i ≤ j))) (gB (iB fun i j => decide (i ≤ j))) (e2 ixD (eVar 2) (eC (.int 1))) (e2 ixD (eVar 2) (eC (.int 2))) (eVar 0))))
def mir_is_gone_told : List D → Out := mkF false 1 [false, false, false] b_is_gone_told
def b_is_fact : SS := sSeq (sIf (tOr (tNot (tE (eIsi "tuple" (eVar 2)))) (tOr (boolT (e2 (gB eqD) (eA (g1 lenD) (aCons (eVar 2) aNil)) (eC (.int 0)))) (tNot (tE (eIsi "str" (e2 ixD (eVar 2) (eC (.int 0)))))))) (sRet (eC (.bl false))) sNx) (sSeq (sIf (boolT (e2 (gB eqD) (e2 ixD (eVar 2) (eC (.int 0))) (eC (.str "ahead")))) (sRet (eCall mir_is_ahead_told [none, none] (aCons (eVar 0) (aCons (eSl (eVar 2) (oInt (eC (.int 1))) oNone) aNil)))) sNx) (sSeq (sIf (boolT (e2 (gB eqD) (e2 ixD (eVar 2) (eC (.int 0))) (eC (.str "days")))) (sRet (eCall mir_are_days_told [none, none, none] (aCons (eVar 0) (aCons (eVar 1) (aCons (eSl (eVar 2) (oInt (eC (.int 1))) oNone) aNil))))) sNx) (sRet (eAnd (e2 (gB eqD) (e2 ixD (eVar 2) (eC (.int 0))) (eC (.str "gone"))) (eCall mir_is_gone_told [none, none, none] (aCons (eA (g1 lenD) (aCons (eVar 0) aNil)) (aCons (eVar 1) (aCons (eSl (eVar 2) (oInt (eC (.int 1))) oNone) aNil))))))))
def mir_is_fact : List D → Out := mkF false 0 [false, false, false] b_is_fact
def lb_want_facts_0 : SS := sSeq (sIf (tNot (tE (eCall mir_is_fact [none, none, none] (aCons (eVar 0) (aCons (eVar 1) (aCons (eVar 4) aNil)))))) sStk sNx) (sKill [3, 4])
def b_want_facts : SS := sSeq (sIf (tNot (tE (eCall mir_is_list [none] (aCons (eVar 2) aNil)))) sStk sNx) (sFor (iEn 0 (aCons (eVar 2) aNil)) (.tp [.nm 3, .nm 4]) lb_want_facts_0)
def mir_want_facts : List D → Out := mkF true 2 [false, false, false] b_want_facts
def b_Yardu_initu : SS := sSeq (sDrop (eCall mir_want_boxes [none] (aCons (eVar 1) aNil))) (sSeq (sDrop (eCall mir_want_days [none] (aCons (eVar 2) aNil))) (sSeq (sDrop (eCall mir_want_facts [none, none, none] (aCons (eVar 1) (aCons (eVar 2) (aCons (eVar 3) aNil))))) (sSeq (sIf (boolT (e2 (gB (iB fun i j => decide (j < i))) (eA (g1 lenD) (aCons (eVar 3) aNil)) (eC (.int 40)))) sStk sNx) (sSeq (sFldI 0 "own_boxes" (eA (g1 tupleD) (aCons (eVar 1) aNil))) (sSeq (sFldI 0 "own_days" (eVar 2)) (sFldI 0 "own_facts" (eA (g1 tupleD) (aCons (eVar 3) aNil))))))))
def mir_Yardu_initu : List D → Out := mkF true 0 [true, false, false, false] b_Yardu_initu
def b_law_yard : SS := sRet (eMake "Yard" 3 mir_Yardu_initu (aCons (eA (g1 listD) (aCons (e2 ixD (eVar 0) (eC (.str "folk"))) aNil)) (aCons (e2 ixD (eVar 0) (eC (.str "span"))) (aCons (eA (g1 listD) (aCons (e2 ixD (eVar 0) (eC (.str "tale"))) aNil)) aNil))))
def mir_law_yard : List D → Out := mkF false 0 [false] b_law_yard
def b_Yardu_containsu : SS := sRet (eCall mir_is_known [none, none] (aCons (e1 (fldD "Yard" "own_boxes") (eVar 0)) (aCons (eVar 1) aNil)))
def mir_Yardu_containsu : List D → Out := mkF false 0 [false, false] b_Yardu_containsu
def b_want_box : SS := sIf (boolT (eInI true "Yard" mir_Yardu_containsu (eVar 1) (eVar 0))) sStk sNx
def mir_want_box : List D → Out := mkF true 0 [false, false] b_want_box
def ct_drawn_by_0 : ST := tOr (boolT (e2 (gB eqD) (eVar 5) (eVar 3))) (boolT (e2 (gB inD) (eVar 3) (e2 ixD (eVar 1) (eVar 5))))
def ce_drawn_by_0 : SE := e2 ixD (e2 ixD (eVar 0) (eVar 5)) (eC (.int 0))
def ce_drawn_by_1 : SE := e2 ixD (e2 ixD (eVar 0) (eVar 5)) (eC (.int 1))
def lb_drawn_by_0 : SS := sSeq (sSeq (sAsg 4 (eA (g1 maxLD) (aCons (eLc (iKs (eVar 0)) [5] (.nm 5) ct_drawn_by_0 ce_drawn_by_0) aNil))) (sAsgT (.sb 2 (eVar 3)) (eA mkTup (aCons (eVar 4) (aCons (eA (g1 minLD) (aCons (eLc (iE (e2 addD (eA mkLst (aCons (eVar 3) aNil)) (e2 ixD (eVar 1) (eVar 3)))) [5] (.nm 5) tYesD ce_drawn_by_1) aNil)) aNil))))) (sKill [3, 4])
def b_drawn_by : SS := sSeq (sAsg 2 (eC (.dct false []))) (sSeq (sFor (iKs (eVar 0)) (.nm 3) lb_drawn_by_0) (sRet (eMv 2)))
def mir_drawn_by : List D → Out := mkF false 4 [false, false] b_drawn_by
def b_Yard_boxes : SS := sRet (eA (g1 listD) (aCons (e1 (fldD "Yard" "own_boxes") (eVar 0)) aNil))
def mir_Yard_boxes : List D → Out := mkF false 0 [false] b_Yard_boxes
def ck_next_boxes_0 : SE := eVar 4
def cv_next_boxes_0 : SE := eC (.lst [])
def lb_next_boxes_0 : SS := sSeq (sIf (tAnd (boolT (e2 (gB eqD) (e2 ixD (eVar 3) (eC (.int 0))) (eC (.str "ahead")))) (tView (boolT (e2 (gB ninD) (e2 ixD (eVar 3) (eC (.int 2))) (e2 ixD (eVar 2) (e2 ixD (eVar 3) (eC (.int 1)))))))) (sDrop (eMethN 1 2 (e2 ixD (eVar 3) (eC (.int 1))) gAppend (aCons (e2 ixD (eVar 3) (eC (.int 2))) aNil))) sNx) (sKill [3])
def b_next_boxes : SS := sSeq (sAsg 2 (eDcN (iE (eMethI "Yard" "boxes" 1 mir_Yard_boxes (eVar 0) aNil)) [4] (.nm 4) tYesD ck_next_boxes_0 cv_next_boxes_0)) (sSeq (sFor (iE (eVar 1)) (.nm 3) lb_next_boxes_0) (sRet (eMv 2)))
def mir_next_boxes : List D → Out := mkF false 3 [false, false] b_next_boxes
def ct_boxes_behind_0 : ST := tView (boolT (e2 (gB ninD) (eVar 4) (eVar 2)))
def ce_boxes_behind_0 : SE := eVar 4
def lb_boxes_behind_0 : SS := sSeq (sDrop (eMeth isLst 2 gExtend (aCons (eLc (iE (e2 ixD (eVar 0) (eIxO 2 (eVar 3)))) [4] (.nm 4) ct_boxes_behind_0 ce_boxes_behind_0) aNil))) (sAugI 3 (fun i j => i + j) (eC (.int 1)))
def b_boxes_behind : SS := sSeq (sTup [2, 3] (aCons (eA (g1 listD) (aCons (e2 ixD (eVar 0) (eVar 1)) aNil)) (aCons (eC (.int 0)) aNil))) (sSeq (sWhile 100 (tView (boolT (e2 (gB ltD) (eVar 3) (eA (g1 lenD) (aCons (eVar 2) aNil))))) lb_boxes_behind_0) (sRet (eMv 2)))
def mir_boxes_behind : List D → Out := mkF false 3 [false, false] b_boxes_behind
def ck_ways_of_0 : SE := eVar 3
def cv_ways_of_0 : SE := eCall mir_boxes_behind [none, none] (aCons (eVar 2) (aCons (eVar 3) aNil))
def b_ways_of : SS := sSeq (sAsg 2 (eCall mir_next_boxes [none, none] (aCons (eVar 0) (aCons (eVar 1) aNil)))) (sRet (eDc (iE (eMethI "Yard" "boxes" 1 mir_Yard_boxes (eVar 0) aNil)) [3] (.nm 3) tYesD ck_ways_of_0 cv_ways_of_0))
def mir_ways_of : List D → Out := mkF false 2 [false, false] b_ways_of
def b_Yard_days : SS := sRet (e1 (fldD "Yard" "own_days") (eVar 0))
def mir_Yard_days : List D → Out := mkF false 0 [false] b_Yard_days
def ck_told_days_0 : SE := eVar 4
def cv_told_days_0 : SE := eA mkTup (aCons (eC (.int 1)) (aCons (eProp "Yard" mir_Yard_days (eVar 0)) aNil))
def lb_told_days_0 : SS := sSeq (sIf (boolT (e2 (gB eqD) (e2 ixD (eVar 3) (eC (.int 0))) (eC (.str "days")))) (sSeq (sAsgT (.tp [.nm 5, .nm 4, .nm 6, .nm 7]) (eVar 3)) (sSeq (sAsgT (.tp [.nm 8, .nm 9]) (eIxO 2 (eVar 4))) (sAsgT (.sb 2 (eVar 4)) (eA mkTup (aCons (eA (g2 max2D) (aCons (eVar 8) (aCons (eVar 6) aNil))) (aCons (eA (g2 min2D) (aCons (eVar 9) (aCons (eVar 7) aNil))) aNil)))))) sNx) (sKill [3, 4, 5, 6, 7, 8, 9])
def b_told_days : SS := sSeq (sAsg 2 (eDc (iE (eMethI "Yard" "boxes" 1 mir_Yard_boxes (eVar 0) aNil)) [4] (.nm 4) tYesD ck_told_days_0 cv_told_days_0)) (sSeq (sFor (iE (eVar 1)) (.nm 3) lb_told_days_0) (sRet (eMv 2)))
def mir_told_days : List D → Out := mkF false 8 [false, false] b_told_days
def b_drawn_days : SS := sRet (eCall mir_drawn_by [none, none] (aCons (eCall mir_told_days [none, none] (aCons (eVar 0) (aCons (eVar 1) aNil))) (aCons (eCall mir_ways_of [none, none] (aCons (eVar 0) (aCons (eVar 1) aNil))) aNil)))
def mir_drawn_days : List D → Out := mkF false 0 [false, false] b_drawn_days
def b_Yard_facts : SS := sRet (eA (g1 listD) (aCons (e1 (fldD "Yard" "own_facts") (eVar 0)) aNil))
def mir_Yard_facts : List D → Out := mkF false 0 [false] b_Yard_facts
def b_drawn : SS := sSeq (sDrop (eCall mir_want_box [none, none] (aCons (eVar 0) (aCons (eVar 1) aNil)))) (sRet (e2 ixD (eCall mir_drawn_days [none, none] (aCons (eVar 0) (aCons (eMethI "Yard" "facts" 1 mir_Yard_facts (eVar 0) aNil) aNil))) (eVar 1)))
def mir_drawn : List D → Out := mkF false 0 [false, false] b_drawn
def ck_law_drawn_0 : SE := eVar 7
def cv_law_drawn_0 : SE := eA mkLst (aCons (eC (.int 1)) (aCons (e2 ixD (eVar 0) (eC (.str "span"))) aNil))
def ct_law_drawn_0 : ST := boolT (e2 (gB eqD) (e2 ixD (eVar 2) (eC (.int 0))) (eC (.str "days")))
def ce_law_drawn_0 : SE := eVar 2
def lb_law_drawn_0 : SS := sSeq (sSetN 1 (e2 ixD (eVar 2) (eC (.int 1))) (eA mkLst (aCons (eA (g2 max2D) (aCons (eView (e2 ixD (e2 ixD (eVar 1) (e2 ixD (eVar 2) (eC (.int 1)))) (eC (.int 0)))) (aCons (e2 ixD (eVar 2) (eC (.int 2))) aNil))) (aCons (eA (g2 min2D) (aCons (eView (e2 ixD (e2 ixD (eVar 1) (e2 ixD (eVar 2) (eC (.int 1)))) (eC (.int 1)))) (aCons (e2 ixD (eVar 2) (eC (.int 3))) aNil))) aNil)))) (sKill [2])
def ct_law_drawn_1 : ST := boolT (e2 (gB eqD) (e2 ixD (eVar 2) (eC (.int 0))) (eC (.str "ahead")))
def ce_law_drawn_1 : SE := eSl (eVar 2) (oInt (eC (.int 1))) oNone
def lb_law_drawn_1 : SS := sSeq (sSeq (sStN 1 (eVar 6) (eC (.int 0)) (eA (g2 max2D) (aCons (eView (e2 ixD (e2 ixD (eVar 1) (eVar 6)) (eC (.int 0)))) (aCons (eView (e2 ixD (e2 ixD (eVar 1) (eVar 5)) (eC (.int 0)))) aNil)))) (sStN 1 (eVar 5) (eC (.int 1)) (eA (g2 min2D) (aCons (eView (e2 ixD (e2 ixD (eVar 1) (eVar 5)) (eC (.int 1)))) (aCons (eView (e2 ixD (e2 ixD (eVar 1) (eVar 6)) (eC (.int 1)))) aNil))))) (sKill [5, 6])
def lb_law_drawn_2 : SS := sSeq (sFor (iE (eVar 3)) (.tp [.nm 5, .nm 6]) lb_law_drawn_1) (sKill [4, 5, 6])
def ce_law_drawn_2 : SE := eA mkTup (aCons (eVar 7) (aCons (eA (g1 tupleD) (aCons (e2 ixD (eVar 1) (eVar 7)) aNil)) aNil))
def b_law_drawn : SS := sSeq (sAsg 1 (eDcN (iE (e2 ixD (eVar 0) (eC (.str "folk")))) [7] (.nm 7) tYesD ck_law_drawn_0 cv_law_drawn_0)) (sSeq (sFor (iE (eLc (iE (e2 ixD (eVar 0) (eC (.str "tale")))) [2] (.nm 2) ct_law_drawn_0 ce_law_drawn_0)) (.nm 2) lb_law_drawn_0) (sSeq (sAsg 3 (eLc (iE (e2 ixD (eVar 0) (eC (.str "tale")))) [2] (.nm 2) ct_law_drawn_1 ce_law_drawn_1)) (sSeq (sFor (iE (e2 ixD (eVar 0) (eC (.str "folk")))) (.nm 4) lb_law_drawn_2) (sRet (eA (g1 dictD) (aCons (eLc (iE (e2 ixD (eVar 0) (eC (.str "folk")))) [7] (.nm 7) tYesD ce_law_drawn_2) aNil))))))
def mir_law_drawn : List D → Out := mkF false 7 [false] b_law_drawn
def ce_law_told_0 : SE := eCall mir_drawn [none, none] (aCons (eVar 0) (aCons (eVar 2) aNil))
def b_law_told : SS := sRet (eA (g1 reprD) (aCons (eLc (iE (e2 ixD (eVar 1) (eC (.str "folk")))) [2] (.nm 2) tYesD ce_law_told_0) aNil))
def mir_law_told : List D → Out := mkF false 1 [false, false] b_law_told
def ce_law_due_0 : SE := e2 ixD (eVar 1) (eVar 2)
def b_law_due : SS := sSeq (sAsg 1 (eCall mir_law_drawn [none] (aCons (eVar 0) aNil))) (sRet (eA (g1 reprD) (aCons (eLc (iE (e2 ixD (eVar 0) (eC (.str "folk")))) [2] (.nm 2) tYesD ce_law_due_0) aNil)))
def mir_law_due : List D → Out := mkF false 2 [false] b_law_due
def b_law_with : SS := sRet (eDisp ["folk", "span", "tale"] [.z, .z, .z] (aCons (e2 ixD (eVar 0) (eC (.str "folk"))) (aCons (e2 ixD (eVar 0) (eC (.str "span"))) (aCons (e2 addD (e2 ixD (eVar 0) (eC (.str "tale"))) (eVar 1)) aNil))))
def mir_law_with : List D → Out := mkF false 0 [false, false] b_law_with
def b_Yardu_addu : SS := sSeq (sIf (tNot (tE (eCall mir_is_fact [none, none, none] (aCons (e1 (fldD "Yard" "own_boxes") (eVar 0)) (aCons (e1 (fldD "Yard" "own_days") (eVar 0)) (aCons (eVar 1) aNil)))))) sStk sNx) (sRet (eMake "Yard" 3 mir_Yardu_initu (aCons (e1 (fldD "Yard" "own_boxes") (eVar 0)) (aCons (e1 (fldD "Yard" "own_days") (eVar 0)) (aCons (eA mkTup (aStar (e1 (fldD "Yard" "own_facts") (eVar 0)) (aCons (eVar 1) aNil))) aNil)))))
def mir_Yardu_addu : List D → Out := mkF false 0 [false, false] b_Yardu_addu
def ct_law_right_0 : ST := boolT (e2 (gB neD) (e2 ixD (eVar 10) (eC (.int 0))) (eC (.str "gone")))
def ce_law_right_0 : SE := eVar 10
def lb_law_right_0 : SS := sSeq (sSeq (sAsg 1 (eCall mir_law_with [none, none] (aCons (eVar 1) (aCons (eA mkLst (aCons (eCall mir_law_fact [some 0, none, none] (mMv 0 (aCons (e2 ixD (eVar 1) (eC (.str "folk"))) (aCons (e2 ixD (eVar 1) (eC (.str "span"))) aNil)))) aNil)) aNil)))) (sSeq (sAsg 8 (eBinI "Yard" "tuple" mir_Yardu_addu (eVar 6) (e2 ixD (e2 ixD (eVar 1) (eC (.str "tale"))) (e1 negD (eC (.int 1)))))) (sSeq (sIf (boolT (e2 (gB neD) (eCall mir_law_told [none, none] (aCons (eVar 8) (aCons (eVar 1) aNil))) (eCall mir_law_due [none] (aCons (eVar 1) aNil)))) (sRet (eC (.bl false))) sNx) (sSeq (sAsg 9 (eDisp ["folk", "span", "tale"] [.z, .z, .z] (aCons (e2 ixD (eVar 1) (eC (.str "folk"))) (aCons (e2 ixD (eVar 1) (eC (.str "span"))) (aCons (eSl (e2 ixD (eVar 1) (eC (.str "tale"))) oNone (oInt (e1 negD (eC (.int 1))))) aNil))))) (sSeq (sIf (boolT (e2 (gB neD) (eCall mir_law_told [none, none] (aCons (eVar 6) (aCons (eVar 9) aNil))) (eCall mir_law_due [none] (aCons (eVar 9) aNil)))) (sRet (eC (.bl false))) sNx) (sAsg 6 (eVar 8))))))) (sKill [5, 8, 9])
def b_law_right : SS := sSeq (sAsg 1 (eCall mir_law_model [some 0, none, none, none] (mMv 0 (aCons (eC (.int 10)) (aCons (eC (.int 9)) (aCons (eC (.int 12)) aNil)))))) (sSeq (sPar 6 7 (aCons (eCall mir_law_yard [none] (aCons (eVar 1) aNil)) (aCons (eCall mir_law_pick [some 0, none] (mMv 0 (aCons (e2 ixD (eVar 1) (eC (.str "folk"))) aNil))) aNil))) (sSeq (sIf (tOr (boolT (e2 (gB neD) (eCall mir_law_told [none, none] (aCons (eVar 6) (aCons (eVar 1) aNil))) (eCall mir_law_due [none] (aCons (eVar 1) aNil)))) (boolT (e2 (gB neD) (eCallK 2 mir_drawn 0 [1, 0] aNil (aCons (eVar 7) (aCons (eVar 6) aNil))) (e2 ixD (eCall mir_law_drawn [none] (aCons (eVar 1) aNil)) (eVar 7))))) (sRet (eC (.bl false))) sNx) (sSeq (sAsg 2 (eCall mir_law_mixed [some 0, none] (mLt 0 (aCons (e2 addD (e2 ixD (eVar 1) (eC (.str "tale"))) (eSl (e2 ixD (eVar 1) (eC (.str "tale"))) oNone (oInt (eCall mir_law_draw [some 0, none] (mMv 0 (aCons (eC (.int 4)) aNil)))))) aNil)))) (sSeq (sAsg 3 (eDisp ["folk", "span", "tale"] [.z, .z, .z] (aCons (eCall mir_law_mixed [some 0, none] (mMv 0 (aCons (e2 ixD (eVar 1) (eC (.str "folk"))) aNil))) (aCons (e2 ixD (eVar 1) (eC (.str "span"))) (aCons (eVar 2) aNil))))) (sSeq (sIf (boolT (e2 (gB neD) (eCall mir_law_told [none, none] (aCons (eCall mir_law_yard [none] (aCons (eVar 3) aNil)) (aCons (eVar 1) aNil))) (eCall mir_law_due [none] (aCons (eVar 1) aNil)))) (sRet (eC (.bl false))) sNx) (sSeq (sAsg 4 (eDisp ["folk", "span", "tale"] [.z, .z, .z] (aCons (e2 ixD (eVar 1) (eC (.str "folk"))) (aCons (e2 ixD (eVar 1) (eC (.str "span"))) (aCons (eLc (iE (eVar 2)) [10] (.nm 10) ct_law_right_0 ce_law_right_0) aNil))))) (sSeq (sIf (boolT (e2 (gB neD) (eCall mir_law_told [none, none] (aCons (eCall mir_law_yard [none] (aCons (eVar 4) aNil)) (aCons (eVar 1) aNil))) (eCall mir_law_due [none] (aCons (eVar 1) aNil)))) (sRet (eC (.bl false))) sNx) (sSeq (sFor (iRg1 (aCons (eC (.int 3)) aNil)) (.nm 5) lb_law_right_0) (sRet (eC (.bl true)))))))))))
def mir_law_right : List D → Out := mkF false 10 [true] b_law_right
def b_law_pot : SS := sSeq (sAsg 2 (e2 addD (e2 mulI (eC (.int 43)) (eVar 1)) (eC (.int 17)))) (sSeq (sIf (boolT (e2 (gB ltD) (eVar 1) (eA (g1 lenD) (aCons (eVar 0) aNil)))) (sAsg 2 (eA (g1 absD) (aCons (e2 ixD (eVar 0) (eVar 1)) aNil))) sNx) (sRet (eA mkLst (aCons (eA (g2 max2D) (aCons (eC (.int 0)) (aCons (e2 subD (eVar 2) (e2 powD (eC (.int 10)) (eC (.int 18)))) aNil))) (aCons (e2 addD (e2 modD (eA (g1 intD) (aCons (e2 addD (e2 addD (e2 mulI (e2 modD (eA (g1 intD) (aCons (eVar 2) aNil)) (eC (.int 2147483549))) (eC (.int 40487))) (e2 mulI (eC (.int 6011)) (eVar 1))) (eC (.int 29))) aNil)) (eC (.int 2147483587))) (eC (.int 1))) aNil)))))
def mir_law_pot : List D → Out := mkF false 1 [false, false] b_law_pot
def ce_law_0 : SE := eCall mir_law_right [none] (aCons (eCall mir_law_pot [none, none] (aCons (eVar 0) (aCons (eVar 1) aNil))) aNil)
def b_law : SS := sRet (eA (g1 allD) (aCons (eLc (iRg1 (aCons (eA (g2 max2D) (aCons (eC (.int 1)) (aCons (eA (g2 min2D) (aCons (eC (.int 4)) (aCons (eA (g1 lenD) (aCons (eVar 0) aNil)) aNil))) aNil))) aNil)) [1] (.nm 1) tYesD ce_law_0) aNil))
def mir_law : List D → Out := mkF false 1 [false] b_law
abbrev sg_law_draw : Sig := ⟨[(.c .z), .z], [true, false], .z⟩
abbrev sg_law_pick : Sig := ⟨[(.c .z), .z], [true, false], .z⟩
abbrev sg_law_folk : Sig := ⟨[(.c .z), .z], [true, false], .z⟩
abbrev sg_law_fact : Sig := ⟨[(.c .z), .z, .z], [true, false, false], .z⟩
abbrev sg_law_mixed : Sig := ⟨[(.c .z), .z], [true, false], .z⟩
abbrev sg_law_flat : Sig := ⟨[.z], [false], .z⟩
abbrev sg_law_noon : Sig := ⟨[.z, .z], [false, false], .z⟩
abbrev sg_law_left : Sig := ⟨[.z, .z], [false, false], .z⟩
abbrev sg_law_fitting : Sig := ⟨[(.c .z), .z, .z], [true, false, false], .z⟩
abbrev sg_law_planted : Sig := ⟨[(.c .z), .z, .z, .z], [true, false, false, false], (.k 2 (.c .z))⟩
abbrev sg_law_model : Sig := ⟨[(.c .z), .z, .z, .z], [true, false, false, false], .z⟩
abbrev sg_is_list : Sig := ⟨[.z], [false], .z⟩
abbrev sg_is_box : Sig := ⟨[.z], [false], .z⟩
abbrev sg_want_boxes : Sig := ⟨[.z], [false], .z⟩
abbrev sg_is_integer : Sig := ⟨[.z], [false], .z⟩
abbrev sg_want_days : Sig := ⟨[.z], [false], .z⟩
abbrev sg_is_known : Sig := ⟨[.z, .z], [false, false], .z⟩
abbrev sg_is_ahead_told : Sig := ⟨[.z, .z], [false, false], .z⟩
abbrev sg_are_days_told : Sig := ⟨[.z, .z, .z], [false, false, false], .z⟩
abbrev sg_is_count : Sig := ⟨[.z], [false], .z⟩
abbrev sg_is_gone_told : Sig := ⟨[.z, .z, .z], [false, false, false], .z⟩
abbrev sg_is_fact : Sig := ⟨[.z, .z, .z], [false, false, false], .z⟩
abbrev sg_want_facts : Sig := ⟨[.z, .z, .z], [false, false, false], .z⟩
abbrev sg_Yardu_initu : Sig := ⟨[.i, .z, .z, .z], [true, false, false, false], .z⟩
abbrev sg_law_yard : Sig := ⟨[.z], [false], .z⟩
abbrev sg_Yardu_containsu : Sig := ⟨[.z, .z], [false, false], .z⟩
abbrev sg_want_box : Sig := ⟨[.z, .z], [false, false], .z⟩
abbrev sg_drawn_by : Sig := ⟨[.z, .z], [false, false], .z⟩
abbrev sg_Yard_boxes : Sig := ⟨[.z], [false], .z⟩
abbrev sg_next_boxes : Sig := ⟨[.z, .z], [false, false], .z⟩
abbrev sg_boxes_behind : Sig := ⟨[.z, .z], [false, false], .z⟩
abbrev sg_ways_of : Sig := ⟨[.z, .z], [false, false], .z⟩
abbrev sg_Yard_days : Sig := ⟨[.z], [false], .z⟩
abbrev sg_told_days : Sig := ⟨[.z, .z], [false, false], .z⟩
abbrev sg_drawn_days : Sig := ⟨[.z, .z], [false, false], .z⟩
abbrev sg_Yard_facts : Sig := ⟨[.z], [false], .z⟩
abbrev sg_drawn : Sig := ⟨[.z, .z], [false, false], .z⟩
abbrev sg_law_drawn : Sig := ⟨[.z], [false], .z⟩
abbrev sg_law_told : Sig := ⟨[.z, .z], [false, false], .z⟩
abbrev sg_law_due : Sig := ⟨[.z], [false], .z⟩
abbrev sg_law_with : Sig := ⟨[.z, .z], [false, false], .z⟩
abbrev sg_Yardu_addu : Sig := ⟨[.z, .z], [false, false], .z⟩
abbrev sg_law_right : Sig := ⟨[(.c .z)], [true], .z⟩
abbrev sg_law_pot : Sig := ⟨[.z, .z], [false, false], (.c .z)⟩
abbrev sg_law : Sig := ⟨[.z], [false], .z⟩
/-! ### the facts of the text -/
structure Txt (K : PySem.W.Frag) (mg : Str → Option Value) where
  a_Yard : Addr
  g_Yard : mg "Yard" = some (.ref a_Yard)
  c_Yard : Cls K a_Yard
  n_abs : mg "abs" = none
  n_all : mg "all" = none
  n_bool : mg "bool" = none
  n_dict : mg "dict" = none
  n_divmod : mg "divmod" = none
  n_enumerate : mg "enumerate" = none
  n_int : mg "int" = none
  n_isinstance : mg "isinstance" = none
  n_len : mg "len" = none
  n_list : mg "list" = none
  n_max : mg "max" = none
  n_min : mg "min" = none
  n_range : mg "range" = none
  n_repr : mg "repr" = none
  n_sorted : mg "sorted" = none
  n_str : mg "str" = none
  n_sum : mg "sum" = none
  n_tuple : mg "tuple" = none
  t_AHEAD_days : Tok
  g_AHEAD_days : mg "AHEAD_days" = some (.str "ahead" t_AHEAD_days)
  t_AHEAD_yards : Tok
  g_AHEAD_yards : mg "AHEAD_yards" = some (.str "ahead" t_AHEAD_yards)
  t_DAYS_days : Tok
  g_DAYS_days : mg "DAYS_days" = some (.str "days" t_DAYS_days)
  t_DAYS_yards : Tok
  g_DAYS_yards : mg "DAYS_yards" = some (.str "days" t_DAYS_yards)
  t_GONE : Tok
  g_GONE : mg "GONE" = some (.str "gone" t_GONE)
  t_LETTERS : Tok
  g_LETTERS : mg "LETTERS" = some (.str "abcdefghijklmnopqrstuvwxyz" t_LETTERS)
  t_LONGEST_BOX : Tok
  g_LONGEST_BOX : mg "LONGEST_BOX" = some (.int 6 t_LONGEST_BOX)
  t_MOST_DAYS : Tok
  g_MOST_DAYS : mg "MOST_DAYS" = some (.int 9 t_MOST_DAYS)
  f_law_draw : Addr
  d_law_draw : FuncData
  F_law_draw : Fun K "_law_draw" "_law_draw" s_law_draw f_law_draw d_law_draw
  B_law_draw : Binds K d_law_draw ["_law_pot_here", "_law_size"] []
  m_law_draw : mg "_law_draw" = some (.ref f_law_draw)
  k_law_draw : PySem.W.keepIn K (.ref f_law_draw) = true
  f_law_pick : Addr
  d_law_pick : FuncData
  F_law_pick : Fun K "_law_pick" "_law_pick" s_law_pick f_law_pick d_law_pick
  B_law_pick : Binds K d_law_pick ["_law_pot_here", "_law_some"] []
  m_law_pick : mg "_law_pick" = some (.ref f_law_pick)
  k_law_pick : PySem.W.keepIn K (.ref f_law_pick) = true
  f_law_folk : Addr
  d_law_folk : FuncData
  F_law_folk : Fun K "_law_folk" "_law_folk" s_law_folk f_law_folk d_law_folk
  B_law_folk : Binds K d_law_folk ["_law_pot_here", "_law_size"] []
  m_law_folk : mg "_law_folk" = some (.ref f_law_folk)
  k_law_folk : PySem.W.keepIn K (.ref f_law_folk) = true
  f_law_fact : Addr
  d_law_fact : FuncData
  F_law_fact : Fun K "_law_fact" "_law_fact" s_law_fact f_law_fact d_law_fact
  B_law_fact : Binds K d_law_fact ["_law_pot_here", "_law_folk_here", "_law_span"] []
  m_law_fact : mg "_law_fact" = some (.ref f_law_fact)
  k_law_fact : PySem.W.keepIn K (.ref f_law_fact) = true
  f_law_mixed : Addr
  d_law_mixed : FuncData
  F_law_mixed : Fun K "_law_mixed" "_law_mixed" s_law_mixed f_law_mixed d_law_mixed
  B_law_mixed : Binds K d_law_mixed ["_law_pot_here", "_law_some"] []
  m_law_mixed : mg "_law_mixed" = some (.ref f_law_mixed)
  k_law_mixed : PySem.W.keepIn K (.ref f_law_mixed) = true
  f_law_flat : Addr
  d_law_flat : FuncData
  F_law_flat : Fun K "_law_flat" "_law_flat" s_law_flat f_law_flat d_law_flat
  B_law_flat : Binds K d_law_flat ["_law_lists"] []
  m_law_flat : mg "_law_flat" = some (.ref f_law_flat)
  k_law_flat : PySem.W.keepIn K (.ref f_law_flat) = true
  f_law_noon : Addr
  d_law_noon : FuncData
  F_law_noon : Fun K "_law_noon" "_law_noon" s_law_noon f_law_noon d_law_noon
  B_law_noon : Binds K d_law_noon ["_law_told_here", "_law_label"] []
  m_law_noon : mg "_law_noon" = some (.ref f_law_noon)
  k_law_noon : PySem.W.keepIn K (.ref f_law_noon) = true
  f_law_left : Addr
  d_law_left : FuncData
  F_law_left : Fun K "_law_left" "_law_left" s_law_left f_law_left d_law_left
  B_law_left : Binds K d_law_left ["_law_told_here", "_law_noon_here"] []
  m_law_left : mg "_law_left" = some (.ref f_law_left)
  k_law_left : PySem.W.keepIn K (.ref f_law_left) = true
  f_law_fitting : Addr
  d_law_fitting : FuncData
  F_law_fitting : Fun K "_law_fitting" "_law_fitting" s_law_fitting f_law_fitting d_law_fitting
  B_law_fitting : Binds K d_law_fitting ["_law_pot_here", "_law_folk_here", "_law_told_here"] []
  m_law_fitting : mg "_law_fitting" = some (.ref f_law_fitting)
  k_law_fitting : PySem.W.keepIn K (.ref f_law_fitting) = true
  f_law_planted : Addr
  d_law_planted : FuncData
  F_law_planted : Fun K "_law_planted" "_law_planted" s_law_planted f_law_planted d_law_planted
  B_law_planted : Binds K d_law_planted ["_law_pot_here", "_law_size", "_law_top", "_law_long"] []
  m_law_planted : mg "_law_planted" = some (.ref f_law_planted)
  k_law_planted : PySem.W.keepIn K (.ref f_law_planted) = true
  f_law_model : Addr
  d_law_model : FuncData
  F_law_model : Fun K "_law_model" "_law_model" s_law_model f_law_model d_law_model
  B_law_model : Binds K d_law_model ["_law_pot_here", "_law_size", "_law_top", "_law_long"] []
  m_law_model : mg "_law_model" = some (.ref f_law_model)
  k_law_model : PySem.W.keepIn K (.ref f_law_model) = true
  f_is_list : Addr
  d_is_list : FuncData
  F_is_list : Fun K "is_list" "is_list" s_is_list f_is_list d_is_list
  B_is_list : Binds K d_is_list ["value"] []
  m_is_list : mg "is_list" = some (.ref f_is_list)
  k_is_list : PySem.W.keepIn K (.ref f_is_list) = true
  f_is_box : Addr
  d_is_box : FuncData
  F_is_box : Fun K "is_box" "is_box" s_is_box f_is_box d_is_box
  B_is_box : Binds K d_is_box ["value"] []
  m_is_box : mg "is_box" = some (.ref f_is_box)
  k_is_box : PySem.W.keepIn K (.ref f_is_box) = true
  f_want_boxes : Addr
  d_want_boxes : FuncData
  F_want_boxes : Fun K "want_boxes" "want_boxes" s_want_boxes f_want_boxes d_want_boxes
  B_want_boxes : Binds K d_want_boxes ["value"] []
  m_want_boxes : mg "want_boxes" = some (.ref f_want_boxes)
  k_want_boxes : PySem.W.keepIn K (.ref f_want_boxes) = true
  f_is_integer : Addr
  d_is_integer : FuncData
  F_is_integer : Fun K "is_integer" "is_integer" s_is_integer f_is_integer d_is_integer
  B_is_integer : Binds K d_is_integer ["value"] []
  m_is_integer : mg "is_integer" = some (.ref f_is_integer)
  k_is_integer : PySem.W.keepIn K (.ref f_is_integer) = true
  f_want_days : Addr
  d_want_days : FuncData
  F_want_days : Fun K "want_days" "want_days" s_want_days f_want_days d_want_days
  B_want_days : Binds K d_want_days ["value"] []
  m_want_days : mg "want_days" = some (.ref f_want_days)
  k_want_days : PySem.W.keepIn K (.ref f_want_days) = true
  f_is_known : Addr
  d_is_known : FuncData
  F_is_known : Fun K "is_known" "is_known" s_is_known f_is_known d_is_known
  B_is_known : Binds K d_is_known ["boxes", "value"] []
  m_is_known : mg "is_known" = some (.ref f_is_known)
  k_is_known : PySem.W.keepIn K (.ref f_is_known) = true
  f_is_ahead_told : Addr
  d_is_ahead_told : FuncData
  F_is_ahead_told : Fun K "is_ahead_told" "is_ahead_told" s_is_ahead_told f_is_ahead_told d_is_ahead_told
  B_is_ahead_told : Binds K d_is_ahead_told ["boxes", "rest"] []
  m_is_ahead_told : mg "is_ahead_told" = some (.ref f_is_ahead_told)
  k_is_ahead_told : PySem.W.keepIn K (.ref f_is_ahead_told) = true
  f_are_days_told : Addr
  d_are_days_told : FuncData
  F_are_days_told : Fun K "are_days_told" "are_days_told" s_are_days_told f_are_days_told d_are_days_told
  B_are_days_told : Binds K d_are_days_told ["boxes", "days", "rest"] []
  m_are_days_told : mg "are_days_told" = some (.ref f_are_days_told)
  k_are_days_told : PySem.W.keepIn K (.ref f_are_days_told) = true
  f_is_count : Addr
  d_is_count : FuncData
  F_is_count : Fun K "is_count" "is_count" s_is_count f_is_count d_is_count
  B_is_count : Binds K d_is_count ["value"] []
  m_is_count : mg "is_count" = some (.ref f_is_count)
  k_is_count : PySem.W.keepIn K (.ref f_is_count) = true
  f_is_gone_told : Addr
  d_is_gone_told : FuncData
  F_is_gone_told : Fun K "is_gone_told" "is_gone_told" s_is_gone_told f_is_gone_told d_is_gone_told
  B_is_gone_told : Binds K d_is_gone_told ["many", "days", "rest"] []
  m_is_gone_told : mg "is_gone_told" = some (.ref f_is_gone_told)
  k_is_gone_told : PySem.W.keepIn K (.ref f_is_gone_told) = true
  f_is_fact : Addr
  d_is_fact : FuncData
  F_is_fact : Fun K "is_fact" "is_fact" s_is_fact f_is_fact d_is_fact
  B_is_fact : Binds K d_is_fact ["boxes", "days", "value"] []
  m_is_fact : mg "is_fact" = some (.ref f_is_fact)
  k_is_fact : PySem.W.keepIn K (.ref f_is_fact) = true
  f_want_facts : Addr
  d_want_facts : FuncData
  F_want_facts : Fun K "want_facts" "want_facts" s_want_facts f_want_facts d_want_facts
  B_want_facts : Binds K d_want_facts ["boxes", "days", "value"] []
  m_want_facts : mg "want_facts" = some (.ref f_want_facts)
  k_want_facts : PySem.W.keepIn K (.ref f_want_facts) = true
  f_Yardu_initu : Addr
  d_Yardu_initu : FuncData
  F_Yardu_initu : Fun K "__init__" "Yard.__init__" s_Yardu_initu f_Yardu_initu d_Yardu_initu
  B_Yardu_initu : Binds K d_Yardu_initu ["self", "boxes", "days", "facts"] []
  m_Yard : Mk K a_Yard f_Yardu_initu
  f_law_yard : Addr
  d_law_yard : FuncData
  F_law_yard : Fun K "_law_yard" "_law_yard" s_law_yard f_law_yard d_law_yard
  B_law_yard : Binds K d_law_yard ["_law_model_here"] []
  m_law_yard : mg "_law_yard" = some (.ref f_law_yard)
  k_law_yard : PySem.W.keepIn K (.ref f_law_yard) = true
  f_Yardu_containsu : Addr
  d_Yardu_containsu : FuncData
  F_Yardu_containsu : Fun K "__contains__" "Yard.__contains__" s_Yardu_containsu f_Yardu_containsu d_Yardu_containsu
  B_Yardu_containsu : Binds K d_Yardu_containsu ["self", "value"] []
  u_Yard_contains : Dun K a_Yard "__contains__" f_Yardu_containsu
  f_want_box : Addr
  d_want_box : FuncData
  F_want_box : Fun K "want_box" "want_box" s_want_box f_want_box d_want_box
  B_want_box : Binds K d_want_box ["yard", "value"] []
  m_want_box : mg "want_box" = some (.ref f_want_box)
  k_want_box : PySem.W.keepIn K (.ref f_want_box) = true
  f_drawn_by : Addr
  d_drawn_by : FuncData
  F_drawn_by : Fun K "drawn_by" "drawn_by" s_drawn_by f_drawn_by d_drawn_by
  B_drawn_by : Binds K d_drawn_by ["told", "ways"] []
  m_drawn_by : mg "drawn_by" = some (.ref f_drawn_by)
  k_drawn_by : PySem.W.keepIn K (.ref f_drawn_by) = true
  f_Yard_boxes : Addr
  d_Yard_boxes : FuncData
  F_Yard_boxes : Fun K "boxes" "Yard.boxes" s_Yard_boxes f_Yard_boxes d_Yard_boxes
  B_Yard_boxes : Binds K d_Yard_boxes ["self"] []
  t_Yard_boxes : Meth K a_Yard "boxes" f_Yard_boxes
  f_next_boxes : Addr
  d_next_boxes : FuncData
  F_next_boxes : Fun K "next_boxes" "next_boxes" s_next_boxes f_next_boxes d_next_boxes
  B_next_boxes : Binds K d_next_boxes ["yard", "facts"] []
  m_next_boxes : mg "next_boxes" = some (.ref f_next_boxes)
  k_next_boxes : PySem.W.keepIn K (.ref f_next_boxes) = true
  f_boxes_behind : Addr
  d_boxes_behind : FuncData
  F_boxes_behind : Fun K "boxes_behind" "boxes_behind" s_boxes_behind f_boxes_behind d_boxes_behind
  B_boxes_behind : Binds K d_boxes_behind ["nexts", "box"] []
  m_boxes_behind : mg "boxes_behind" = some (.ref f_boxes_behind)
  k_boxes_behind : PySem.W.keepIn K (.ref f_boxes_behind) = true
  f_ways_of : Addr
  d_ways_of : FuncData
  F_ways_of : Fun K "ways_of" "ways_of" s_ways_of f_ways_of d_ways_of
  B_ways_of : Binds K d_ways_of ["yard", "facts"] []
  m_ways_of : mg "ways_of" = some (.ref f_ways_of)
  k_ways_of : PySem.W.keepIn K (.ref f_ways_of) = true
  f_Yard_days : Addr
  d_Yard_days : FuncData
  F_Yard_days : Fun K "days" "Yard.days" s_Yard_days f_Yard_days d_Yard_days
  B_Yard_days : Binds K d_Yard_days ["self"] []
  pa_Yard_days : Addr
  p_Yard_days : PropOf K a_Yard "days" pa_Yard_days f_Yard_days
  f_told_days : Addr
  d_told_days : FuncData
  F_told_days : Fun K "told_days" "told_days" s_told_days f_told_days d_told_days
  B_told_days : Binds K d_told_days ["yard", "facts"] []
  m_told_days : mg "told_days" = some (.ref f_told_days)
  k_told_days : PySem.W.keepIn K (.ref f_told_days) = true
  f_drawn_days : Addr
  d_drawn_days : FuncData
  F_drawn_days : Fun K "drawn_days" "drawn_days" s_drawn_days f_drawn_days d_drawn_days
  B_drawn_days : Binds K d_drawn_days ["yard", "facts"] []
  m_drawn_days : mg "drawn_days" = some (.ref f_drawn_days)
  k_drawn_days : PySem.W.keepIn K (.ref f_drawn_days) = true
  f_Yard_facts : Addr
  d_Yard_facts : FuncData
  F_Yard_facts : Fun K "facts" "Yard.facts" s_Yard_facts f_Yard_facts d_Yard_facts
  B_Yard_facts : Binds K d_Yard_facts ["self"] []
  t_Yard_facts : Meth K a_Yard "facts" f_Yard_facts
  f_drawn : Addr
  d_drawn : FuncData
  F_drawn : Fun K "drawn" "drawn" s_drawn f_drawn d_drawn
  B_drawn : Binds K d_drawn ["yard", "box"] []
  m_drawn : mg "drawn" = some (.ref f_drawn)
  k_drawn : PySem.W.keepIn K (.ref f_drawn) = true
  f_law_drawn : Addr
  d_law_drawn : FuncData
  F_law_drawn : Fun K "_law_drawn" "_law_drawn" s_law_drawn f_law_drawn d_law_drawn
  B_law_drawn : Binds K d_law_drawn ["_law_model_here"] []
  m_law_drawn : mg "_law_drawn" = some (.ref f_law_drawn)
  k_law_drawn : PySem.W.keepIn K (.ref f_law_drawn) = true
  f_law_told : Addr
  d_law_told : FuncData
  F_law_told : Fun K "_law_told" "_law_told" s_law_told f_law_told d_law_told
  B_law_told : Binds K d_law_told ["_law_made", "_law_model_here"] []
  m_law_told : mg "_law_told" = some (.ref f_law_told)
  k_law_told : PySem.W.keepIn K (.ref f_law_told) = true
  f_law_due : Addr
  d_law_due : FuncData
  F_law_due : Fun K "_law_due" "_law_due" s_law_due f_law_due d_law_due
  B_law_due : Binds K d_law_due ["_law_model_here"] []
  m_law_due : mg "_law_due" = some (.ref f_law_due)
  k_law_due : PySem.W.keepIn K (.ref f_law_due) = true
  f_law_with : Addr
  d_law_with : FuncData
  F_law_with : Fun K "_law_with" "_law_with" s_law_with f_law_with d_law_with
  B_law_with : Binds K d_law_with ["_law_model_here", "_law_rest"] []
  m_law_with : mg "_law_with" = some (.ref f_law_with)
  k_law_with : PySem.W.keepIn K (.ref f_law_with) = true
  f_Yardu_addu : Addr
  d_Yardu_addu : FuncData
  F_Yardu_addu : Fun K "__add__" "Yard.__add__" s_Yardu_addu f_Yardu_addu d_Yardu_addu
  B_Yardu_addu : Binds K d_Yardu_addu ["self", "other"] []
  b_Yard_add_tuple : BinF K a_Yard f_Yardu_addu "add" "tuple"
  f_law_right : Addr
  d_law_right : FuncData
  F_law_right : Fun K "_law_right" "_law_right" s_law_right f_law_right d_law_right
  B_law_right : Binds K d_law_right ["_law_pot_here"] []
  m_law_right : mg "_law_right" = some (.ref f_law_right)
  k_law_right : PySem.W.keepIn K (.ref f_law_right) = true
  f_law_pot : Addr
  d_law_pot : FuncData
  F_law_pot : Fun K "_law_pot" "_law_pot" s_law_pot f_law_pot d_law_pot
  B_law_pot : Binds K d_law_pot ["_law_script", "_law_k"] []
  m_law_pot : mg "_law_pot" = some (.ref f_law_pot)
  k_law_pot : PySem.W.keepIn K (.ref f_law_pot) = true
  f_law : Addr
  d_law : FuncData
  F_law : Fun K "law" "law" s_law f_law d_law
  B_law : Binds K d_law ["_law_script"] []
  m_law : mg "law" = some (.ref f_law)
  k_law : PySem.W.keepIn K (.ref f_law) = true
  a_Yard_own_boxes : NoAttr K a_Yard "own_boxes"
  a_Yard_own_days : NoAttr K a_Yard "own_days"
  a_Yard_own_facts : NoAttr K a_Yard "own_facts"
  r_Yard : ClX.CRead K a_Yard (.type "type")
  tv_Yard_MOST_BOXES : Tok
  v_Yard_MOST_BOXES : ClX.CVal K a_Yard (.type "type") "MOST_BOXES" (.int 10) (.int 10 tv_Yard_MOST_BOXES)
  tv_Yard_MOST_FACTS : Tok
  v_Yard_MOST_FACTS : ClX.CVal K a_Yard (.type "type") "MOST_FACTS" (.int 40) (.int 40 tv_Yard_MOST_FACTS)
  K_drawn_0_1_0 : KBinds K d_drawn ["yard", "box"] ["box", "yard"] (kwG 0 [1, 0]) (kwG 0 [1, 0])
namespace Txt
variable {K : PySem.W.Frag} {mg : Str → Option Value} (T : Txt K mg)
def clF (x : Str) : Option Addr := if x = "Yard" then some T.a_Yard else none
theorem cqF (a b : Str) (x : Addr) (h : T.clF a = some x) (k : T.clF b = some x) : a = b := by
  unfold clF at h k
  by_cases p : a = "Yard"
  · by_cases q : b = "Yard"
    · rw [p, q]
    · rw [if_neg q] at k; cases k
  · rw [if_neg p] at h; cases h
def C : Cfg := ⟨K, T.clF, T.cqF⟩
theorem h_Yard : T.C.cl "Yard" = some T.a_Yard := by show T.clF "Yard" = _; unfold clF; rw [if_pos rfl]
theorem s_own_boxes (c : Str) (Ca : Addr) (h : T.C.cl c = some Ca) : Cls K Ca ∧ NoAttr K Ca "own_boxes" := by
  have h : T.clF c = some Ca := h
  unfold clF at h
  split at h
  · cases h; exact ⟨T.c_Yard, T.a_Yard_own_boxes⟩
  · cases h
theorem s_own_days (c : Str) (Ca : Addr) (h : T.C.cl c = some Ca) : Cls K Ca ∧ NoAttr K Ca "own_days" := by
  have h : T.clF c = some Ca := h
  unfold clF at h
  split at h
  · cases h; exact ⟨T.c_Yard, T.a_Yard_own_days⟩
  · cases h
theorem s_own_facts (c : Str) (Ca : Addr) (h : T.C.cl c = some Ca) : Cls K Ca ∧ NoAttr K Ca "own_facts" := by
  have h : T.clF c = some Ca := h
  unfold clF at h
  split at h
  · cases h; exact ⟨T.c_Yard, T.a_Yard_own_facts⟩
  · cases h
end Txt
/-! ### the walks -/
section
variable {P : Program} {w : World} {K : PySem.W.Frag} {mg : Str → Option Value} {base : Heap}
set_option maxRecDepth 4000 in
theorem ok_law_draw (T : Txt K mg) : DL.FnOk P w K mg base (L2.CX P w) 1 T.f_law_draw T.d_law_draw ["_law_pot_here", "_law_size"] (spD T.C sg_law_draw mir_law_draw) := by
  refine fn_mk (S := sg_law_draw) (ft := false) (n := 1) (body := b_law_draw) (G' := [(.c .z), .z, .z]) rfl T.F_law_draw sc_law_draw rfl rfl rfl (fun h => nomatch h) ?_
  rintro ⟨prog, w2, K2, mg2, base2, A, N, s0, H0, ⟨scope, e2, e3, e4, e5, e6, e7, e8, e9⟩, outer, stack, ex, fn, calm, pn, xe⟩ E W hW hP hw hmg hb hN hS hF B hst hfr
  dsimp only at hP hw hmg hb hN hS hF
  have hK := B.hK
  dsimp only [Txt.C] at hK
  subst hW hP hw hmg hb hN hS hF hK
  exact ds_cons wkE (d_if wkE (dt_view (dt_cmp (op_cmpI op_gt) (de_ix B.hK (hu1 B.hr) (de_var (i := 0) rfl rfl (by first | exact .inl rfl | exact .inr (.inl rfl) | exact .inr (.inr rfl))) de_int (fun _ _ => rfl)) de_int (nomark _))) (ds_cons wkE (d_asg (de_callB call_divmod_D (by rfl) T.n_divmod bt_divmod (da_cons (de_ixO (i := 0) (hu1 B.hr) rfl rfl (by first | exact .inl rfl | exact .inr (.inl rfl) | exact .inr (.inr rfl)) de_int (fun _ _ => rfl)) (da_cons (de_var (i := 1) rfl rfl (by first | exact .inl rfl | exact .inr (.inl rfl) | exact .inr (.inr rfl))) da_nil))) (dg_tup B.hK B.cm (dgs_cons (dg_sub (i := 0) (hu1 B.hr) rfl rfl (by first | exact .inl rfl | exact .inr (.inl rfl) | exact .inr (.inr rfl)) de_int) (dgs_cons (dg_name (i := 2) sc_law_draw.nd rfl (by first | exact .inl rfl | exact .inr rfl) rfl) dgs_nil)) rfl) rfl) (ds_one (d_ret (G' := [(.c .z), .z, .z]) rfl (de_var (i := 2) rfl rfl (by first | exact .inl rfl | exact .inr (.inl rfl) | exact .inr (.inr rfl)))))) ds_nil) (ds_cons wkE (d_asg (de_bin op_mod_D (de_callTy call_int_D (by rfl) T.n_int bt_int (da_cons (de_bin (op_add_D B.hK) (de_bin op_mulI (de_ixO (i := 0) (hu1 B.hr) rfl rfl (by first | exact .inl rfl | exact .inr (.inl rfl) | exact .inr (.inr rfl)) de_int (fun _ _ => rfl)) de_int) de_int) da_nil)) de_int) (dg_sub (i := 0) (hu1 B.hr) rfl rfl (by first | exact .inl rfl | exact .inr (.inl rfl) | exact .inr (.inr rfl)) de_int) rfl) (ds_one (d_ret (G' := [(.c .z), .z, .z]) rfl (de_bin op_mod_D (de_callTy call_int_D (by rfl) T.n_int bt_int (da_cons (de_bin op_fdiv_D (de_bin op_mod_D (de_callTy call_int_D (by rfl) T.n_int bt_int (da_cons (de_bin op_mulI (de_ixO (i := 0) (hu1 B.hr) rfl rfl (by first | exact .inl rfl | exact .inr (.inl rfl) | exact .inr (.inr rfl)) de_int (fun _ _ => rfl)) (de_ixO (i := 0) (hu1 B.hr) rfl rfl (by first | exact .inl rfl | exact .inr (.inl rfl) | exact .inr (.inr rfl)) de_int (fun _ _ => rfl))) da_nil)) de_int) de_int) da_nil)) (de_var (i := 1) rfl rfl (by first | exact .inl rfl | exact .inr (.inl rfl) | exact .inr (.inr rfl)))))))
set_option maxRecDepth 4000 in
theorem ok_law_pick (T : Txt K mg) : DL.FnOk P w K mg base (L2.CX P w) 2 T.f_law_pick T.d_law_pick ["_law_pot_here", "_law_some"] (spD T.C sg_law_pick mir_law_pick) := by
  refine fn_mk (S := sg_law_pick) (ft := false) (n := 0) (body := b_law_pick) (G' := [(.c .z), .z]) rfl T.F_law_pick sc_law_pick rfl rfl rfl (fun h => nomatch h) ?_
  rintro ⟨prog, w2, K2, mg2, base2, A, N, s0, H0, ⟨scope, e2, e3, e4, e5, e6, e7, e8, e9⟩, outer, stack, ex, fn, calm, pn, xe⟩ E W hW hP hw hmg hb hN hS hF B hst hfr
  dsimp only at hP hw hmg hb hN hS hF
  have hK := B.hK
  dsimp only [Txt.C] at hK
  subst hW hP hw hmg hb hN hS hF hK
  exact ds_one (d_ret (G' := [(.c .z), .z]) rfl (de_ix B.hK (hu1 B.hr) (de_var (i := 1) rfl rfl (by first | exact .inl rfl | exact .inr (.inl rfl) | exact .inr (.inr rfl))) (de_call (S := sg_law_draw) (E := E) (ok_law_draw T) B.hr (by decide) (by rfl) T.m_law_draw T.k_law_draw T.B_law_draw B.tk rfl (by decide) (dm_mv (i := 0) rfl rfl (by first | exact .inl rfl | exact .inr (.inl rfl) | exact .inr (.inr rfl)) (dm_cons (de_callB (call_len_D B.hK) (by rfl) T.n_len PySem.boot_len (da_cons (de_var (i := 1) rfl rfl (by first | exact .inl rfl | exact .inr (.inl rfl) | exact .inr (.inr rfl))) da_nil)) dm_nil))) (fun _ _ => rfl)))
set_option maxRecDepth 4000 in
theorem ok_law_folk (T : Txt K mg) : DL.FnOk P w K mg base (L2.CX P w) 3 T.f_law_folk T.d_law_folk ["_law_pot_here", "_law_size"] (spD T.C sg_law_folk mir_law_folk) := by
  refine fn_mk (S := sg_law_folk) (ft := false) (n := 4) (body := b_law_folk) (G' := [(.c .z), .z, .z, .z, (.c .z), .z]) rfl T.F_law_folk sc_law_folk rfl rfl rfl (fun h => nomatch h) ?_
  rintro ⟨prog, w2, K2, mg2, base2, A, N, s0, H0, ⟨scope, e2, e3, e4, e5, e6, e7, e8, e9⟩, outer, stack, ex, fn, calm, pn, xe⟩ E W hW hP hw hmg hb hN hS hF B hst hfr
  dsimp only at hP hw hmg hb hN hS hF
  have hK := B.hK
  dsimp only [Txt.C] at hK
  subst hW hP hw hmg hb hN hS hF hK
  exact ds_cons wkE (d_tup (is := [3, 4]) (os := [.z, (.c .z)]) B.cm (dm_cons (de_lst (da_cons de_str (da_cons de_str (da_cons de_str (da_cons de_str (da_cons de_str (da_cons de_str (da_cons de_str (da_cons de_str (da_cons de_str (da_cons de_str (da_cons de_str (da_cons de_str (da_cons de_str (da_cons de_str da_nil))))))))))))))) (dm_cons (de_nilO (o := .z)) dm_nil)) (pgs_names (i := 3) sc_law_folk.nd rfl (by first | exact .inl rfl | exact .inr rfl) (pgs_names (i := 4) sc_law_folk.nd rfl (by first | exact .inl rfl | exact .inr rfl) pgs_names0)) rfl rfl) (ds_cons wkE (d_for wkE B.po B.cm (di_range1 (by rfl) T.n_range (da_cons (de_var (i := 1) rfl rfl (by first | exact .inl rfl | exact .inr (.inl rfl) | exact .inr (.inr rfl))) da_nil)) (dg_name (i := 2) sc_law_folk.nd rfl (by first | exact .inl rfl | exact .inr rfl) rfl) (ds_kill (ks := [2]) (ds_one (d_drop (de_meth (i := 4) (.inl ⟨rfl, rfl⟩) PySem.F.plainAttrs_list PySem.F.slot_list_append PySem.F.type_list_append me_append rfl rfl (by first | exact .inl rfl | exact .inr (.inl rfl) | exact .inr (.inr rfl)) (dm_cons (de_call (S := sg_law_pick) (E := E) (ok_law_pick T) B.hr (by decide) (by rfl) T.m_law_pick T.k_law_pick T.B_law_pick B.tk rfl (by decide) (dm_mv (i := 0) rfl rfl (by first | exact .inl rfl | exact .inr (.inl rfl) | exact .inr (.inr rfl)) (dm_cons (de_frz (de_lc (vs := [5]) (oe := .z) B.cm sc_law_folk.nd (di_val B.hK (de_var (i := 3) rfl rfl (by first | exact .inl rfl | exact .inr (.inl rfl) | exact .inr (.inr rfl)))) (blkOk_by (N := nm_law_folk) (sc := defScope s_law_folk) (own := [("_law_label", 5)]) (by decide +kernel)) rfl (by decide) rfl (fun _ _ _ _ _ => dg_name (i := 5) sc_law_folk.nd rfl (by first | exact .inl rfl | exact .inr rfl) rfl) (fun _ _ _ _ _ => dts_one (dt_view (dt_cmp (op_nin_D B.hK (hu65 B.hr)) (de_var (i := 5) rfl rfl (by first | exact .inl rfl | exact .inr (.inl rfl) | exact .inr (.inr rfl))) (de_var (i := 4) rfl rfl (by first | exact .inl rfl | exact .inr (.inl rfl) | exact .inr (.inr rfl))) (by rfl)))) (fun _ _ _ _ _ => de_var (i := 5) rfl rfl (by first | exact .inl rfl | exact .inr (.inl rfl) | exact .inr (.inr rfl))))) dm_nil))) dm_nil))))) rfl) (ds_one (d_ret (G' := [(.c .z), .z, .z, .z, (.c .z), .z]) rfl (de_frz (de_mv (i := 4) rfl rfl (by first | exact .inl rfl | exact .inr (.inl rfl) | exact .inr (.inr rfl)))))))
set_option maxRecDepth 4000 in
theorem ok_law_fact (T : Txt K mg) : DL.FnOk P w K mg base (L2.CX P w) 3 T.f_law_fact T.d_law_fact ["_law_pot_here", "_law_folk_here", "_law_span"] (spD T.C sg_law_fact mir_law_fact) := by
  refine fn_mk (S := sg_law_fact) (ft := false) (n := 4) (body := b_law_fact) (G' := [(.c .z), .z, .z, .z, .z, .z, .z]) rfl T.F_law_fact sc_law_fact rfl rfl rfl (fun h => nomatch h) ?_
  rintro ⟨prog, w2, K2, mg2, base2, A, N, s0, H0, ⟨scope, e2, e3, e4, e5, e6, e7, e8, e9⟩, outer, stack, ex, fn, calm, pn, xe⟩ E W hW hP hw hmg hb hN hS hF B hst hfr
  dsimp only at hP hw hmg hb hN hS hF
  have hK := B.hK
  dsimp only [Txt.C] at hK
  subst hW hP hw hmg hb hN hS hF hK
  exact ds_cons wkE (d_set (i := 3) (o := .z) sc_law_fact.nd rfl (by first | exact .inl rfl | exact .inr rfl) (de_call (S := sg_law_draw) (E := E) (ok_law_draw T) B.hr (by decide) (by rfl) T.m_law_draw T.k_law_draw T.B_law_draw B.tk rfl (by decide) (dm_mv (i := 0) rfl rfl (by first | exact .inl rfl | exact .inr (.inl rfl) | exact .inr (.inr rfl)) (dm_cons de_int dm_nil))) rfl (by decide)) (ds_cons wkE (d_if wkE (PW.pt (dw_and (dt_cmp (op_lt_D B.hK (hu0 B.hr)) (de_var (i := 3) rfl rfl (by first | exact .inl rfl | exact .inr (.inl rfl) | exact .inr (.inr rfl))) de_int (nomark _)) (dw_and1 (dt_cmp (op_cmpI op_gt) (de_callB (call_len_D B.hK) (by rfl) T.n_len PySem.boot_len (da_cons (de_var (i := 1) rfl rfl (by first | exact .inl rfl | exact .inr (.inl rfl) | exact .inr (.inr rfl))) da_nil)) de_int (nomark _))))) (ds_cons wkE (d_set (i := 5) (o := .z) sc_law_fact.nd rfl (by first | exact .inl rfl | exact .inr rfl) (de_call (S := sg_law_draw) (E := E) (ok_law_draw T) B.hr (by decide) (by rfl) T.m_law_draw T.k_law_draw T.B_law_draw B.tk rfl (by decide) (dm_mv (i := 0) rfl rfl (by first | exact .inl rfl | exact .inr (.inl rfl) | exact .inr (.inr rfl)) (dm_cons (de_callB (call_len_D B.hK) (by rfl) T.n_len PySem.boot_len (da_cons (de_var (i := 1) rfl rfl (by first | exact .inl rfl | exact .inr (.inl rfl) | exact .inr (.inr rfl))) da_nil)) dm_nil))) rfl (by decide)) (ds_one (d_ret (G' := [(.c .z), .z, .z, .z, .z, .z, .z]) rfl (de_tup (da_cons de_str (da_cons (de_ix B.hK (hu1 B.hr) (de_var (i := 1) rfl rfl (by first | exact .inl rfl | exact .inr (.inl rfl) | exact .inr (.inr rfl))) (de_var (i := 5) rfl rfl (by first | exact .inl rfl | exact .inr (.inl rfl) | exact .inr (.inr rfl))) (fun _ _ => rfl)) (da_cons (de_ix B.hK (hu1 B.hr) (de_var (i := 1) rfl rfl (by first | exact .inl rfl | exact .inr (.inl rfl) | exact .inr (.inr rfl))) (de_bin op_mod_D (de_bin (op_add_D B.hK) (de_bin (op_add_D B.hK) (de_var (i := 5) rfl rfl (by first | exact .inl rfl | exact .inr (.inl rfl) | exact .inr (.inr rfl))) de_int) (de_call (S := sg_law_draw) (E := E) (ok_law_draw T) B.hr (by decide) (by rfl) T.m_law_draw T.k_law_draw T.B_law_draw B.tk rfl (by decide) (dm_mv (i := 0) rfl rfl (by first | exact .inl rfl | exact .inr (.inl rfl) | exact .inr (.inr rfl)) (dm_cons (de_bin op_sub_D (de_callB (call_len_D B.hK) (by rfl) T.n_len PySem.boot_len (da_cons (de_var (i := 1) rfl rfl (by first | exact .inl rfl | exact .inr (.inl rfl) | exact .inr (.inr rfl))) da_nil)) de_int) dm_nil)))) (de_callB (call_len_D B.hK) (by rfl) T.n_len PySem.boot_len (da_cons (de_var (i := 1) rfl rfl (by first | exact .inl rfl | exact .inr (.inl rfl) | exact .inr (.inr rfl))) da_nil))) (fun _ _ => rfl)) da_nil))))))) ds_nil) (ds_cons wkE (d_if wkE (dt_cmp (op_lt_D B.hK (hu0 B.hr)) (de_var (i := 3) rfl rfl (by first | exact .inl rfl | exact .inr (.inl rfl) | exact .inr (.inr rfl))) de_int (nomark _)) (ds_cons wkE (d_set (i := 6) (o := .z) sc_law_fact.nd rfl (by first | exact .inl rfl | exact .inr rfl) (de_bin (op_add_D B.hK) de_int (de_call (S := sg_law_draw) (E := E) (ok_law_draw T) B.hr (by decide) (by rfl) T.m_law_draw T.k_law_draw T.B_law_draw B.tk rfl (by decide) (dm_mv (i := 0) rfl rfl (by first | exact .inl rfl | exact .inr (.inl rfl) | exact .inr (.inr rfl)) (dm_cons (de_var (i := 2) rfl rfl (by first | exact .inl rfl | exact .inr (.inl rfl) | exact .inr (.inr rfl))) dm_nil)))) rfl (by decide)) (ds_one (d_ret (G' := [(.c .z), .z, .z, .z, .z, .z, .z]) rfl (de_tup (da_cons de_str (da_cons (de_call (S := sg_law_pick) (E := E) (ok_law_pick T) B.hr (by decide) (by rfl) T.m_law_pick T.k_law_pick T.B_law_pick B.tk rfl (by decide) (dm_mv (i := 0) rfl rfl (by first | exact .inl rfl | exact .inr (.inl rfl) | exact .inr (.inr rfl)) (dm_cons (de_var (i := 1) rfl rfl (by first | exact .inl rfl | exact .inr (.inl rfl) | exact .inr (.inr rfl))) dm_nil))) (da_cons (de_var (i := 6) rfl rfl (by first | exact .inl rfl | exact .inr (.inl rfl) | exact .inr (.inr rfl))) (da_cons (de_bin (op_add_D B.hK) (de_var (i := 6) rfl rfl (by first | exact .inl rfl | exact .inr (.inl rfl) | exact .inr (.inr rfl))) (de_call (S := sg_law_draw) (E := E) (ok_law_draw T) B.hr (by decide) (by rfl) T.m_law_draw T.k_law_draw T.B_law_draw B.tk rfl (by decide) (dm_mv (i := 0) rfl rfl (by first | exact .inl rfl | exact .inr (.inl rfl) | exact .inr (.inr rfl)) (dm_cons (de_bin (op_add_D B.hK) (de_bin op_sub_D (de_var (i := 2) rfl rfl (by first | exact .inl rfl | exact .inr (.inl rfl) | exact .inr (.inr rfl))) (de_var (i := 6) rfl rfl (by first | exact .inl rfl | exact .inr (.inl rfl) | exact .inr (.inr rfl)))) de_int) dm_nil)))) da_nil)))))))) ds_nil) (ds_cons wkE (d_set (i := 4) (o := .z) sc_law_fact.nd rfl (by first | exact .inl rfl | exact .inr rfl) (de_call (S := sg_law_draw) (E := E) (ok_law_draw T) B.hr (by decide) (by rfl) T.m_law_draw T.k_law_draw T.B_law_draw B.tk rfl (by decide) (dm_mv (i := 0) rfl rfl (by first | exact .inl rfl | exact .inr (.inl rfl) | exact .inr (.inr rfl)) (dm_cons (de_bin (op_add_D B.hK) (de_callB (call_len_D B.hK) (by rfl) T.n_len PySem.boot_len (da_cons (de_var (i := 1) rfl rfl (by first | exact .inl rfl | exact .inr (.inl rfl) | exact .inr (.inr rfl))) da_nil)) de_int) dm_nil))) rfl (by decide)) (ds_one (d_ret (G' := [(.c .z), .z, .z, .z, .z, .z, .z]) rfl (de_tup (da_cons de_str (da_cons (de_bin (op_add_D B.hK) de_int (de_call (S := sg_law_draw) (E := E) (ok_law_draw T) B.hr (by decide) (by rfl) T.m_law_draw T.k_law_draw T.B_law_draw B.tk rfl (by decide) (dm_mv (i := 0) rfl rfl (by first | exact .inl rfl | exact .inr (.inl rfl) | exact .inr (.inr rfl)) (dm_cons (de_var (i := 2) rfl rfl (by first | exact .inl rfl | exact .inr (.inl rfl) | exact .inr (.inr rfl))) dm_nil)))) (da_cons (de_var (i := 4) rfl rfl (by first | exact .inl rfl | exact .inr (.inl rfl) | exact .inr (.inr rfl))) (da_cons (de_bin (op_add_D B.hK) (de_var (i := 4) rfl rfl (by first | exact .inl rfl | exact .inr (.inl rfl) | exact .inr (.inr rfl))) (de_call (S := sg_law_draw) (E := E) (ok_law_draw T) B.hr (by decide) (by rfl) T.m_law_draw T.k_law_draw T.B_law_draw B.tk rfl (by decide) (dm_mv (i := 0) rfl rfl (by first | exact .inl rfl | exact .inr (.inl rfl) | exact .inr (.inr rfl)) (dm_cons (de_bin (op_add_D B.hK) (de_bin op_sub_D (de_callB (call_len_D B.hK) (by rfl) T.n_len PySem.boot_len (da_cons (de_var (i := 1) rfl rfl (by first | exact .inl rfl | exact .inr (.inl rfl) | exact .inr (.inr rfl))) da_nil)) (de_var (i := 4) rfl rfl (by first | exact .inl rfl | exact .inr (.inl rfl) | exact .inr (.inr rfl)))) de_int) dm_nil)))) da_nil))))))))))
set_option maxRecDepth 4000 in
theorem ok_law_mixed (T : Txt K mg) : DL.FnOk P w K mg base (L2.CX P w) 2 T.f_law_mixed T.d_law_mixed ["_law_pot_here", "_law_some"] (spD T.C sg_law_mixed mir_law_mixed) := by
  refine fn_mk (S := sg_law_mixed) (ft := false) (n := 2) (body := b_law_mixed) (G' := [(.c .z), .z, (.c .z), .z]) rfl T.F_law_mixed sc_law_mixed rfl rfl rfl (fun h => nomatch h) ?_
  rintro ⟨prog, w2, K2, mg2, base2, A, N, s0, H0, ⟨scope, e2, e3, e4, e5, e6, e7, e8, e9⟩, outer, stack, ex, fn, calm, pn, xe⟩ E W hW hP hw hmg hb hN hS hF B hst hfr
  dsimp only at hP hw hmg hb hN hS hF
  have hK := B.hK
  dsimp only [Txt.C] at hK
  subst hW hP hw hmg hb hN hS hF hK
  exact ds_cons wkE (d_set (i := 2) (o := (.c .z)) sc_law_mixed.nd rfl (by first | exact .inl rfl | exact .inr rfl) (de_callTy (call_list_D B.hK) (by rfl) T.n_list bt_list (da_cons (de_var (i := 1) rfl rfl (by first | exact .inl rfl | exact .inr (.inl rfl) | exact .inr (.inr rfl))) da_nil)) rfl (by decide)) (ds_one (d_ret (G' := [(.c .z), .z, (.c .z), .z]) rfl (de_frz (de_lc (vs := [3]) (oe := .z) B.cm sc_law_mixed.nd (di_range1 (by rfl) T.n_range (da_cons (de_callB (call_len_D B.hK) (by rfl) T.n_len PySem.boot_len (da_cons (de_var (i := 1) rfl rfl (by first | exact .inl rfl | exact .inr (.inl rfl) | exact .inr (.inr rfl))) da_nil)) da_nil)) (blkOk_by (N := nm_law_mixed) (sc := defScope s_law_mixed) (own := [("_law_turn", 3)]) (by decide +kernel)) rfl (by decide) rfl (fun _ _ _ _ _ => dg_name (i := 3) sc_law_mixed.nd rfl (by first | exact .inl rfl | exact .inr rfl) rfl) (fun _ _ _ _ _ => dts_nil) (fun _ _ _ _ _ => de_meth (i := 2) (.inl ⟨rfl, rfl⟩) PySem.F.plainAttrs_list PySem.F.slot_list_pop PySem.F.type_list_pop me_popAt rfl rfl (by first | exact .inl rfl | exact .inr (.inl rfl) | exact .inr (.inr rfl)) (dm_cons (de_call (S := sg_law_draw) (E := nE) (ok_law_draw T) B.hr (by decide) (by rfl) T.m_law_draw T.k_law_draw T.B_law_draw takesW0 rfl (by decide) (dm_mv (i := 0) rfl rfl (by first | exact .inl rfl | exact .inr (.inl rfl) | exact .inr (.inr rfl)) (dm_cons (de_view (de_callB (call_len_D B.hK) (by rfl) T.n_len PySem.boot_len (da_cons (de_var (i := 2) rfl rfl (by first | exact .inl rfl | exact .inr (.inl rfl) | exact .inr (.inr rfl))) da_nil))) dm_nil))) dm_nil))))))
set_option maxRecDepth 4000 in
theorem ok_law_flat (T : Txt K mg) : DL.FnOk P w K mg base (L2.CX P w) 1 T.f_law_flat T.d_law_flat ["_law_lists"] (spD T.C sg_law_flat mir_law_flat) := by
  refine fn_mk (S := sg_law_flat) (ft := false) (n := 2) (body := b_law_flat) (G' := [.z, (.c .z), .z]) rfl T.F_law_flat sc_law_flat rfl rfl rfl (fun h => nomatch h) ?_
  rintro ⟨prog, w2, K2, mg2, base2, A, N, s0, H0, ⟨scope, e2, e3, e4, e5, e6, e7, e8, e9⟩, outer, stack, ex, fn, calm, pn, xe⟩ E W hW hP hw hmg hb hN hS hF B hst hfr
  dsimp only at hP hw hmg hb hN hS hF
  have hK := B.hK
  dsimp only [Txt.C] at hK
  subst hW hP hw hmg hb hN hS hF hK
  exact ds_cons wkE (d_set (i := 1) (o := (.c .z)) sc_law_flat.nd rfl (by first | exact .inl rfl | exact .inr rfl) (de_nilO (o := .z)) rfl (by decide)) (ds_cons wkE (d_for wkE B.po B.cm (di_val B.hK (de_var (i := 0) rfl rfl (by first | exact .inl rfl | exact .inr (.inl rfl) | exact .inr (.inr rfl)))) (dg_name (i := 2) sc_law_flat.nd rfl (by first | exact .inl rfl | exact .inr rfl) rfl) (ds_kill (ks := [2]) (ds_one (d_drop (de_meth (i := 1) (.inl ⟨rfl, rfl⟩) PySem.F.plainAttrs_list PySem.F.slot_list_extend PySem.F.type_list_extend me_extend rfl rfl (by first | exact .inl rfl | exact .inr (.inl rfl) | exact .inr (.inr rfl)) (dm_cons (de_var (i := 2) rfl rfl (by first | exact .inl rfl | exact .inr (.inl rfl) | exact .inr (.inr rfl))) dm_nil))))) rfl) (ds_one (d_ret (G' := [.z, (.c .z), .z]) rfl (de_frz (de_mv (i := 1) rfl rfl (by first | exact .inl rfl | exact .inr (.inl rfl) | exact .inr (.inr rfl)))))))
set_option maxRecDepth 4000 in
theorem ok_law_noon (T : Txt K mg) : DL.FnOk P w K mg base (L2.CX P w) 1 T.f_law_noon T.d_law_noon ["_law_told_here", "_law_label"] (spD T.C sg_law_noon mir_law_noon) := by
  refine fn_mk (S := sg_law_noon) (ft := false) (n := 2) (body := b_law_noon) (G' := [.z, .z, .z, .z]) rfl T.F_law_noon sc_law_noon rfl rfl rfl (fun h => nomatch h) ?_
  rintro ⟨prog, w2, K2, mg2, base2, A, N, s0, H0, ⟨scope, e2, e3, e4, e5, e6, e7, e8, e9⟩, outer, stack, ex, fn, calm, pn, xe⟩ E W hW hP hw hmg hb hN hS hF B hst hfr
  dsimp only at hP hw hmg hb hN hS hF
  have hK := B.hK
  dsimp only [Txt.C] at hK
  subst hW hP hw hmg hb hN hS hF hK
  exact ds_one (d_ret (G' := [.z, .z, .z, .z]) rfl (de_ix B.hK (hu1 B.hr) (de_frz (de_lc (vs := [2, 3]) (oe := .z) B.cm sc_law_noon.nd (di_enum B.hK (by rfl) T.n_enumerate (da_cons (de_var (i := 0) rfl rfl (by first | exact .inl rfl | exact .inr (.inl rfl) | exact .inr (.inr rfl))) da_nil)) (blkOk_by (N := nm_law_noon) (sc := defScope s_law_noon) (own := [("_law_k", 2), ("_law_some", 3)]) (by decide +kernel)) rfl (by decide) rfl (fun _ _ _ _ _ => dg_tup B.hK B.cm (dgs_cons (dg_name (i := 2) sc_law_noon.nd rfl (by first | exact .inl rfl | exact .inr rfl) rfl) (dgs_cons (dg_name (i := 3) sc_law_noon.nd rfl (by first | exact .inl rfl | exact .inr rfl) rfl) dgs_nil)) rfl) (fun _ _ _ _ _ => dts_one (dt_cmp (op_in_D B.hK (hu65 B.hr)) (de_var (i := 1) rfl rfl (by first | exact .inl rfl | exact .inr (.inl rfl) | exact .inr (.inr rfl))) (de_var (i := 3) rfl rfl (by first | exact .inl rfl | exact .inr (.inl rfl) | exact .inr (.inr rfl))) (by rfl))) (fun _ _ _ _ _ => de_bin (op_add_D B.hK) (de_var (i := 2) rfl rfl (by first | exact .inl rfl | exact .inr (.inl rfl) | exact .inr (.inr rfl))) de_int))) de_int (fun _ _ => rfl)))
set_option maxRecDepth 4000 in
theorem ok_law_left (T : Txt K mg) : DL.FnOk P w K mg base (L2.CX P w) 1 T.f_law_left T.d_law_left ["_law_told_here", "_law_noon_here"] (spD T.C sg_law_left mir_law_left) := by
  refine fn_mk (S := sg_law_left) (ft := false) (n := 1) (body := b_law_left) (G' := [.z, .z, .z]) rfl T.F_law_left sc_law_left rfl rfl rfl (fun h => nomatch h) ?_
  rintro ⟨prog, w2, K2, mg2, base2, A, N, s0, H0, ⟨scope, e2, e3, e4, e5, e6, e7, e8, e9⟩, outer, stack, ex, fn, calm, pn, xe⟩ E W hW hP hw hmg hb hN hS hF B hst hfr
  dsimp only at hP hw hmg hb hN hS hF
  have hK := B.hK
  dsimp only [Txt.C] at hK
  subst hW hP hw hmg hb hN hS hF hK
  exact ds_one (d_ret (G' := [.z, .z, .z]) rfl (de_callB (call_sum_D B.hK B.cm) (by rfl) T.n_sum bt_sum (da_cons (de_frz (de_lc (vs := [2]) (oe := .z) B.cm sc_law_left.nd (di_val B.hK (de_sl B.hK (de_var (i := 0) rfl rfl (by first | exact .inl rfl | exact .inr (.inl rfl) | exact .inr (.inr rfl))) do_none (do_int (de_var (i := 1) rfl rfl (by first | exact .inl rfl | exact .inr (.inl rfl) | exact .inr (.inr rfl)))))) (blkOk_by (N := nm_law_left) (sc := defScope s_law_left) (own := [("_law_some", 2)]) (by decide +kernel)) rfl (by decide) rfl (fun _ _ _ _ _ => dg_name (i := 2) sc_law_left.nd rfl (by first | exact .inl rfl | exact .inr rfl) rfl) (fun _ _ _ _ _ => dts_nil) (fun _ _ _ _ _ => de_callB (call_len_D B.hK) (by rfl) T.n_len PySem.boot_len (da_cons (de_var (i := 2) rfl rfl (by first | exact .inl rfl | exact .inr (.inl rfl) | exact .inr (.inr rfl))) da_nil)))) da_nil)))
set_option maxRecDepth 4000 in
theorem ok_law_fitting (T : Txt K mg) : DL.FnOk P w K mg base (L2.CX P w) 3 T.f_law_fitting T.d_law_fitting ["_law_pot_here", "_law_folk_here", "_law_told_here"] (spD T.C sg_law_fitting mir_law_fitting) := by
  refine fn_mk (S := sg_law_fitting) (ft := false) (n := 9) (body := b_law_fitting) (G' := [(.c .z), .z, .z, .z, .z, .z, .z, .z, .z, .z, .z, .z]) rfl T.F_law_fitting sc_law_fitting rfl rfl rfl (fun h => nomatch h) ?_
  rintro ⟨prog, w2, K2, mg2, base2, A, N, s0, H0, ⟨scope, e2, e3, e4, e5, e6, e7, e8, e9⟩, outer, stack, ex, fn, calm, pn, xe⟩ E W hW hP hw hmg hb hN hS hF B hst hfr
  dsimp only at hP hw hmg hb hN hS hF
  have hK := B.hK
  dsimp only [Txt.C] at hK
  subst hW hP hw hmg hb hN hS hF hK
  exact ds_cons wkE (d_par3 (i := 6) (j := 7) (l := 8) (oi := .z) (oj := .z) (ol := .z) B.cm sc_law_fitting.nd rfl rfl rfl (by decide) (by decide) (by decide) rfl rfl rfl (dm_cons (de_call (S := sg_law_draw) (E := E) (ok_law_draw T) B.hr (by decide) (by rfl) T.m_law_draw T.k_law_draw T.B_law_draw B.tk rfl (by decide) (dm_mv (i := 0) rfl rfl (by first | exact .inl rfl | exact .inr (.inl rfl) | exact .inr (.inr rfl)) (dm_cons de_int dm_nil))) (dm_cons (de_call (S := sg_law_flat) (E := E) (ok_law_flat T) B.hr (by decide) (by rfl) T.m_law_flat T.k_law_flat T.B_law_flat B.tk rfl (by decide) (dm_cons (de_var (i := 2) rfl rfl (by first | exact .inl rfl | exact .inr (.inl rfl) | exact .inr (.inr rfl))) dm_nil)) (dm_cons (de_callB (call_len_D B.hK) (by rfl) T.n_len PySem.boot_len (da_cons (de_var (i := 2) rfl rfl (by first | exact .inl rfl | exact .inr (.inl rfl) | exact .inr (.inr rfl))) da_nil)) dm_nil))) rfl rfl rfl (by decide) (by decide) (by decide) (by rfl)) (ds_cons wkE (d_if wkE (PW.pt (dw_and (dt_cmp (op_lt_D B.hK (hu0 B.hr)) (de_var (i := 6) rfl rfl (by first | exact .inl rfl | exact .inr (.inl rfl) | exact .inr (.inr rfl))) de_int (nomark _)) (dw_and1 (dt_cmp (op_cmpI op_gt) (de_callB (call_len_D B.hK) (by rfl) T.n_len PySem.boot_len (da_cons (de_var (i := 1) rfl rfl (by first | exact .inl rfl | exact .inr (.inl rfl) | exact .inr (.inr rfl))) da_nil)) de_int (nomark _))))) (ds_cons wkE (d_set (i := 9) (o := .z) sc_law_fitting.nd rfl (by first | exact .inl rfl | exact .inr rfl) (de_call (S := sg_law_draw) (E := E) (ok_law_draw T) B.hr (by decide) (by rfl) T.m_law_draw T.k_law_draw T.B_law_draw B.tk rfl (by decide) (dm_mv (i := 0) rfl rfl (by first | exact .inl rfl | exact .inr (.inl rfl) | exact .inr (.inr rfl)) (dm_cons (de_bin op_sub_D (de_callB (call_len_D B.hK) (by rfl) T.n_len PySem.boot_len (da_cons (de_var (i := 7) rfl rfl (by first | exact .inl rfl | exact .inr (.inl rfl) | exact .inr (.inr rfl))) da_nil)) de_int) dm_nil))) rfl (by decide)) (ds_one (d_ret (G' := [(.c .z), .z, .z, .z, .z, .z, .z, .z, .z, .z, .z, .z]) rfl (de_tup (da_cons de_str (da_cons (de_ix B.hK (hu1 B.hr) (de_var (i := 7) rfl rfl (by first | exact .inl rfl | exact .inr (.inl rfl) | exact .inr (.inr rfl))) (de_var (i := 9) rfl rfl (by first | exact .inl rfl | exact .inr (.inl rfl) | exact .inr (.inr rfl))) (fun _ _ => rfl)) (da_cons (de_ix B.hK (hu1 B.hr) (de_var (i := 7) rfl rfl (by first | exact .inl rfl | exact .inr (.inl rfl) | exact .inr (.inr rfl))) (de_bin (op_add_D B.hK) (de_bin (op_add_D B.hK) (de_var (i := 9) rfl rfl (by first | exact .inl rfl | exact .inr (.inl rfl) | exact .inr (.inr rfl))) de_int) (de_call (S := sg_law_draw) (E := E) (ok_law_draw T) B.hr (by decide) (by rfl) T.m_law_draw T.k_law_draw T.B_law_draw B.tk rfl (by decide) (dm_mv (i := 0) rfl rfl (by first | exact .inl rfl | exact .inr (.inl rfl) | exact .inr (.inr rfl)) (dm_cons (de_bin op_sub_D (de_bin op_sub_D (de_callB (call_len_D B.hK) (by rfl) T.n_len PySem.boot_len (da_cons (de_var (i := 7) rfl rfl (by first | exact .inl rfl | exact .inr (.inl rfl) | exact .inr (.inr rfl))) da_nil)) (de_var (i := 9) rfl rfl (by first | exact .inl rfl | exact .inr (.inl rfl) | exact .inr (.inr rfl)))) de_int) dm_nil)))) (fun _ _ => rfl)) da_nil))))))) ds_nil) (ds_cons wkE (d_if wkE (dt_cmp (op_lt_D B.hK (hu0 B.hr)) (de_var (i := 6) rfl rfl (by first | exact .inl rfl | exact .inr (.inl rfl) | exact .inr (.inr rfl))) de_int (nomark _)) (ds_cons wkE (d_set (i := 10) (o := .z) sc_law_fitting.nd rfl (by first | exact .inl rfl | exact .inr rfl) (de_call (S := sg_law_pick) (E := E) (ok_law_pick T) B.hr (by decide) (by rfl) T.m_law_pick T.k_law_pick T.B_law_pick B.tk rfl (by decide) (dm_mv (i := 0) rfl rfl (by first | exact .inl rfl | exact .inr (.inl rfl) | exact .inr (.inr rfl)) (dm_cons (de_var (i := 1) rfl rfl (by first | exact .inl rfl | exact .inr (.inl rfl) | exact .inr (.inr rfl))) dm_nil))) rfl (by decide)) (ds_cons wkE (d_set (i := 3) (o := .z) sc_law_fitting.nd rfl (by first | exact .inl rfl | exact .inr rfl) (de_call (S := sg_law_noon) (E := E) (ok_law_noon T) B.hr (by decide) (by rfl) T.m_law_noon T.k_law_noon T.B_law_noon B.tk rfl (by decide) (dm_cons (de_var (i := 2) rfl rfl (by first | exact .inl rfl | exact .inr (.inl rfl) | exact .inr (.inr rfl))) (dm_cons (de_var (i := 10) rfl rfl (by first | exact .inl rfl | exact .inr (.inl rfl) | exact .inr (.inr rfl))) dm_nil))) rfl (by decide)) (ds_cons wkE (d_set (i := 11) (o := .z) sc_law_fitting.nd rfl (by first | exact .inl rfl | exact .inr rfl) (de_bin op_sub_D (de_var (i := 3) rfl rfl (by first | exact .inl rfl | exact .inr (.inl rfl) | exact .inr (.inr rfl))) (de_bin op_mulI (de_call (S := sg_law_draw) (E := E) (ok_law_draw T) B.hr (by decide) (by rfl) T.m_law_draw T.k_law_draw T.B_law_draw B.tk rfl (by decide) (dm_mv (i := 0) rfl rfl (by first | exact .inl rfl | exact .inr (.inl rfl) | exact .inr (.inr rfl)) (dm_cons de_int dm_nil))) (de_call (S := sg_law_draw) (E := E) (ok_law_draw T) B.hr (by decide) (by rfl) T.m_law_draw T.k_law_draw T.B_law_draw B.tk rfl (by decide) (dm_mv (i := 0) rfl rfl (by first | exact .inl rfl | exact .inr (.inl rfl) | exact .inr (.inr rfl)) (dm_cons (de_var (i := 3) rfl rfl (by first | exact .inl rfl | exact .inr (.inl rfl) | exact .inr (.inr rfl))) dm_nil))))) rfl (by decide)) (ds_one (d_ret (G' := [(.c .z), .z, .z, .z, .z, .z, .z, .z, .z, .z, .z, .z]) rfl (de_tup (da_cons de_str (da_cons (de_var (i := 10) rfl rfl (by first | exact .inl rfl | exact .inr (.inl rfl) | exact .inr (.inr rfl))) (da_cons (de_var (i := 11) rfl rfl (by first | exact .inl rfl | exact .inr (.inl rfl) | exact .inr (.inr rfl))) (da_cons (de_bin (op_add_D B.hK) (de_var (i := 3) rfl rfl (by first | exact .inl rfl | exact .inr (.inl rfl) | exact .inr (.inr rfl))) (de_bin op_mulI (de_call (S := sg_law_draw) (E := E) (ok_law_draw T) B.hr (by decide) (by rfl) T.m_law_draw T.k_law_draw T.B_law_draw B.tk rfl (by decide) (dm_mv (i := 0) rfl rfl (by first | exact .inl rfl | exact .inr (.inl rfl) | exact .inr (.inr rfl)) (dm_cons de_int dm_nil))) (de_call (S := sg_law_draw) (E := E) (ok_law_draw T) B.hr (by decide) (by rfl) T.m_law_draw T.k_law_draw T.B_law_draw B.tk rfl (by decide) (dm_mv (i := 0) rfl rfl (by first | exact .inl rfl | exact .inr (.inl rfl) | exact .inr (.inr rfl)) (dm_cons (de_bin (op_add_D B.hK) (de_bin op_sub_D (de_var (i := 8) rfl rfl (by first | exact .inl rfl | exact .inr (.inl rfl) | exact .inr (.inr rfl))) (de_var (i := 3) rfl rfl (by first | exact .inl rfl | exact .inr (.inl rfl) | exact .inr (.inr rfl)))) de_int) dm_nil))))) da_nil)))))))))) ds_nil) (ds_cons wkE (d_set (i := 3) (o := .z) sc_law_fitting.nd rfl (by first | exact .inl rfl | exact .inr rfl) (de_bin (op_add_D B.hK) de_int (de_call (S := sg_law_draw) (E := E) (ok_law_draw T) B.hr (by decide) (by rfl) T.m_law_draw T.k_law_draw T.B_law_draw B.tk rfl (by decide) (dm_mv (i := 0) rfl rfl (by first | exact .inl rfl | exact .inr (.inl rfl) | exact .inr (.inr rfl)) (dm_cons (de_var (i := 8) rfl rfl (by first | exact .inl rfl | exact .inr (.inl rfl) | exact .inr (.inr rfl))) dm_nil)))) rfl (by decide)) (ds_cons wkE (d_set (i := 4) (o := .z) sc_law_fitting.nd rfl (by first | exact .inl rfl | exact .inr rfl) (de_call (S := sg_law_left) (E := E) (ok_law_left T) B.hr (by decide) (by rfl) T.m_law_left T.k_law_left T.B_law_left B.tk rfl (by decide) (dm_cons (de_var (i := 2) rfl rfl (by first | exact .inl rfl | exact .inr (.inl rfl) | exact .inr (.inr rfl))) (dm_cons (de_var (i := 3) rfl rfl (by first | exact .inl rfl | exact .inr (.inl rfl) | exact .inr (.inr rfl))) dm_nil))) rfl (by decide)) (ds_cons wkE (d_set (i := 5) (o := .z) sc_law_fitting.nd rfl (by first | exact .inl rfl | exact .inr rfl) (de_bin op_sub_D (de_var (i := 4) rfl rfl (by first | exact .inl rfl | exact .inr (.inl rfl) | exact .inr (.inr rfl))) (de_bin op_mulI (de_call (S := sg_law_draw) (E := E) (ok_law_draw T) B.hr (by decide) (by rfl) T.m_law_draw T.k_law_draw T.B_law_draw B.tk rfl (by decide) (dm_mv (i := 0) rfl rfl (by first | exact .inl rfl | exact .inr (.inl rfl) | exact .inr (.inr rfl)) (dm_cons de_int dm_nil))) (de_call (S := sg_law_draw) (E := E) (ok_law_draw T) B.hr (by decide) (by rfl) T.m_law_draw T.k_law_draw T.B_law_draw B.tk rfl (by decide) (dm_mv (i := 0) rfl rfl (by first | exact .inl rfl | exact .inr (.inl rfl) | exact .inr (.inr rfl)) (dm_cons (de_bin (op_add_D B.hK) (de_var (i := 4) rfl rfl (by first | exact .inl rfl | exact .inr (.inl rfl) | exact .inr (.inr rfl))) de_int) dm_nil))))) rfl (by decide)) (ds_one (d_ret (G' := [(.c .z), .z, .z, .z, .z, .z, .z, .z, .z, .z, .z, .z]) rfl (de_tup (da_cons de_str (da_cons (de_var (i := 3) rfl rfl (by first | exact .inl rfl | exact .inr (.inl rfl) | exact .inr (.inr rfl))) (da_cons (de_var (i := 5) rfl rfl (by first | exact .inl rfl | exact .inr (.inl rfl) | exact .inr (.inr rfl))) (da_cons (de_bin (op_add_D B.hK) (de_var (i := 4) rfl rfl (by first | exact .inl rfl | exact .inr (.inl rfl) | exact .inr (.inr rfl))) (de_bin op_mulI (de_call (S := sg_law_draw) (E := E) (ok_law_draw T) B.hr (by decide) (by rfl) T.m_law_draw T.k_law_draw T.B_law_draw B.tk rfl (by decide) (dm_mv (i := 0) rfl rfl (by first | exact .inl rfl | exact .inr (.inl rfl) | exact .inr (.inr rfl)) (dm_cons de_int dm_nil))) (de_call (S := sg_law_draw) (E := E) (ok_law_draw T) B.hr (by decide) (by rfl) T.m_law_draw T.k_law_draw T.B_law_draw B.tk rfl (by decide) (dm_mv (i := 0) rfl rfl (by first | exact .inl rfl | exact .inr (.inl rfl) | exact .inr (.inr rfl)) (dm_cons (de_bin (op_add_D B.hK) (de_bin op_sub_D (de_callB (call_len_D B.hK) (by rfl) T.n_len PySem.boot_len (da_cons (de_var (i := 1) rfl rfl (by first | exact .inl rfl | exact .inr (.inl rfl) | exact .inr (.inr rfl))) da_nil)) (de_var (i := 4) rfl rfl (by first | exact .inl rfl | exact .inr (.inl rfl) | exact .inr (.inr rfl)))) de_int) dm_nil))))) da_nil))))))))))))
set_option maxRecDepth 4000 in
theorem ok_law_planted (T : Txt K mg) : DL.FnOk P w K mg base (L2.CX P w) 4 T.f_law_planted T.d_law_planted ["_law_pot_here", "_law_size", "_law_top", "_law_long"] (spD T.C sg_law_planted mir_law_planted) := by
  refine fn_mk (S := sg_law_planted) (ft := false) (n := 8) (body := b_law_planted) (G' := [(.c .z), .z, .z, .z, .z, .z, .z, (.c .z), .z, .z, .z, .z]) rfl T.F_law_planted sc_law_planted rfl rfl rfl (fun h => nomatch h) ?_
  rintro ⟨prog, w2, K2, mg2, base2, A, N, s0, H0, ⟨scope, e2, e3, e4, e5, e6, e7, e8, e9⟩, outer, stack, ex, fn, calm, pn, xe⟩ E W hW hP hw hmg hb hN hS hF B hst hfr
  dsimp only at hP hw hmg hb hN hS hF
  have hK := B.hK
  dsimp only [Txt.C] at hK
  subst hW hP hw hmg hb hN hS hF hK
  exact ds_cons wkE (d_tup (is := [8, 9]) (os := [.z, .z]) B.cm (dm_cons (de_call (S := sg_law_folk) (E := E) (ok_law_folk T) B.hr (by decide) (by rfl) T.m_law_folk T.k_law_folk T.B_law_folk B.tk rfl (by decide) (dm_lt (i := 0) rfl rfl (by first | exact .inl rfl | exact .inr (.inl rfl) | exact .inr (.inr rfl)) (dm_cons (de_bin (op_add_D B.hK) de_int (de_call (S := sg_law_draw) (E := E) (ok_law_draw T) B.hr (by decide) (by rfl) T.m_law_draw T.k_law_draw T.B_law_draw B.tk rfl (by decide) (dm_mv (i := 0) rfl rfl (by first | exact .inl rfl | exact .inr (.inl rfl) | exact .inr (.inr rfl)) (dm_cons (de_var (i := 1) rfl rfl (by first | exact .inl rfl | exact .inr (.inl rfl) | exact .inr (.inr rfl))) dm_nil)))) dm_nil))) (dm_cons (de_bin (op_add_D B.hK) de_int (de_call (S := sg_law_draw) (E := E) (ok_law_draw T) B.hr (by decide) (by rfl) T.m_law_draw T.k_law_draw T.B_law_draw B.tk rfl (by decide) (dm_mv (i := 0) rfl rfl (by first | exact .inl rfl | exact .inr (.inl rfl) | exact .inr (.inr rfl)) (dm_cons (de_var (i := 2) rfl rfl (by first | exact .inl rfl | exact .inr (.inl rfl) | exact .inr (.inr rfl))) dm_nil)))) dm_nil)) (pgs_names (i := 8) sc_law_planted.nd rfl (by first | exact .inl rfl | exact .inr rfl) (pgs_names (i := 9) sc_law_planted.nd rfl (by first | exact .inl rfl | exact .inr rfl) pgs_names0)) rfl rfl) (ds_cons wkE (d_set (i := 4) (o := .z) sc_law_planted.nd rfl (by first | exact .inl rfl | exact .inr rfl) (de_call (S := sg_law_mixed) (E := E) (ok_law_mixed T) B.hr (by decide) (by rfl) T.m_law_mixed T.k_law_mixed T.B_law_mixed B.tk rfl (by decide) (dm_mv (i := 0) rfl rfl (by first | exact .inl rfl | exact .inr (.inl rfl) | exact .inr (.inr rfl)) (dm_cons (de_var (i := 8) rfl rfl (by first | exact .inl rfl | exact .inr (.inl rfl) | exact .inr (.inr rfl))) dm_nil))) rfl (by decide)) (ds_cons wkE (d_set (i := 5) (o := .z) sc_law_planted.nd rfl (by first | exact .inl rfl | exact .inr rfl) (de_bin (op_add_D B.hK) (de_bin (op_add_D B.hK) (de_lst (da_cons de_int da_nil)) (de_frz (de_callB (call_sortI_D B.hK) (by rfl) T.n_sorted bt_sorted (da_cons (de_frz (de_lc (vs := [11]) (oe := .z) B.cm sc_law_planted.nd (di_range1 (by rfl) T.n_range (da_cons (de_bin op_sub_D (de_var (i := 9) rfl rfl (by first | exact .inl rfl | exact .inr (.inl rfl) | exact .inr (.inr rfl))) de_int) da_nil)) (blkOk_by (N := nm_law_planted) (sc := defScope s_law_planted) (own := [("_law_turn", 11)]) (by decide +kernel)) rfl (by decide) rfl (fun _ _ _ _ _ => dg_name (i := 11) sc_law_planted.nd rfl (by first | exact .inl rfl | exact .inr rfl) rfl) (fun _ _ _ _ _ => dts_nil) (fun _ _ _ _ _ => de_call (S := sg_law_draw) (E := nE) (ok_law_draw T) B.hr (by decide) (by rfl) T.m_law_draw T.k_law_draw T.B_law_draw takesW0 rfl (by decide) (dm_mv (i := 0) rfl rfl (by first | exact .inl rfl | exact .inr (.inl rfl) | exact .inr (.inr rfl)) (dm_cons (de_bin (op_add_D B.hK) (de_callB (call_len_D B.hK) (by rfl) T.n_len PySem.boot_len (da_cons (de_var (i := 8) rfl rfl (by first | exact .inl rfl | exact .inr (.inl rfl) | exact .inr (.inr rfl))) da_nil)) de_int) dm_nil))))) da_nil)))) (de_lst (da_cons (de_callB (call_len_D B.hK) (by rfl) T.n_len PySem.boot_len (da_cons (de_var (i := 8) rfl rfl (by first | exact .inl rfl | exact .inr (.inl rfl) | exact .inr (.inr rfl))) da_nil)) da_nil))) rfl (by decide)) (ds_cons wkE (d_set (i := 6) (o := .z) sc_law_planted.nd rfl (by first | exact .inl rfl | exact .inr rfl) (de_frz (de_lc (vs := [10]) (oe := .z) B.cm sc_law_planted.nd (di_range1 (by rfl) T.n_range (da_cons (de_var (i := 9) rfl rfl (by first | exact .inl rfl | exact .inr (.inl rfl) | exact .inr (.inr rfl))) da_nil)) (blkOk_by (N := nm_law_planted) (sc := defScope s_law_planted) (own := [("_law_k", 10)]) (by decide +kernel)) rfl (by decide) rfl (fun _ _ _ _ _ => dg_name (i := 10) sc_law_planted.nd rfl (by first | exact .inl rfl | exact .inr rfl) rfl) (fun _ _ _ _ _ => dts_nil) (fun _ _ _ _ _ => de_sl B.hK (de_var (i := 4) rfl rfl (by first | exact .inl rfl | exact .inr (.inl rfl) | exact .inr (.inr rfl))) (do_int (de_ix B.hK (hu1 B.hr) (de_var (i := 5) rfl rfl (by first | exact .inl rfl | exact .inr (.inl rfl) | exact .inr (.inr rfl))) (de_var (i := 10) rfl rfl (by first | exact .inl rfl | exact .inr (.inl rfl) | exact .inr (.inr rfl))) (fun _ _ => rfl))) (do_int (de_ix B.hK (hu1 B.hr) (de_var (i := 5) rfl rfl (by first | exact .inl rfl | exact .inr (.inl rfl) | exact .inr (.inr rfl))) (de_bin (op_add_D B.hK) (de_var (i := 10) rfl rfl (by first | exact .inl rfl | exact .inr (.inl rfl) | exact .inr (.inr rfl))) de_int) (fun _ _ => rfl)))))) rfl (by decide)) (ds_cons wkE (d_setLc (i := 7) (oe := .z) B.cm sc_law_planted.nd rfl rfl (sw_true rfl rfl rfl (by decide +kernel)) (di_range1 (by rfl) T.n_range (da_cons (de_call (S := sg_law_draw) (E := E) (ok_law_draw T) B.hr (by decide) (by rfl) T.m_law_draw T.k_law_draw T.B_law_draw B.tk rfl (by decide) (dm_mv (i := 0) rfl rfl (by first | exact .inl rfl | exact .inr (.inl rfl) | exact .inr (.inr rfl)) (dm_cons (de_bin (op_add_D B.hK) (de_var (i := 3) rfl rfl (by first | exact .inl rfl | exact .inr (.inl rfl) | exact .inr (.inr rfl))) de_int) dm_nil))) da_nil)) (blkOk_by (N := nm_law_planted) (sc := defScope s_law_planted) (own := [("_law_turn", 11)]) (by decide +kernel)) rfl (by decide) rfl (fun _ _ _ _ _ => dg_name (i := 11) sc_law_planted.nd rfl (by first | exact .inl rfl | exact .inr rfl) rfl) (fun _ _ _ _ _ => dts_nil) (fun _ _ _ _ _ => de_call (S := sg_law_fitting) (E := nE) (ok_law_fitting T) B.hr (by decide) (by rfl) T.m_law_fitting T.k_law_fitting T.B_law_fitting takesW0 rfl (by decide) (dm_mv (i := 0) rfl rfl (by first | exact .inl rfl | exact .inr (.inl rfl) | exact .inr (.inr rfl)) (dm_cons (de_var (i := 8) rfl rfl (by first | exact .inl rfl | exact .inr (.inl rfl) | exact .inr (.inr rfl))) (dm_cons (de_var (i := 6) rfl rfl (by first | exact .inl rfl | exact .inr (.inl rfl) | exact .inr (.inr rfl))) dm_nil)))) rfl (by decide)) (ds_one (d_ret (G' := [(.c .z), .z, .z, .z, .z, .z, .z, (.c .z), .z, .z, .z, .z]) rfl (de_disp (pps_cons pe_str (de_var (i := 8) rfl rfl (by first | exact .inl rfl | exact .inr (.inl rfl) | exact .inr (.inr rfl))) (pps_cons pe_str (de_var (i := 9) rfl rfl (by first | exact .inl rfl | exact .inr (.inl rfl) | exact .inr (.inr rfl))) (pps_cons pe_str (de_mv (i := 7) rfl rfl (by first | exact .inl rfl | exact .inr (.inl rfl) | exact .inr (.inr rfl))) (pps_cons pe_str (de_var (i := 6) rfl rfl (by first | exact .inl rfl | exact .inr (.inl rfl) | exact .inr (.inr rfl))) pps_nil)))) (pairs_cons (key := "folk") (pairs_cons (key := "span") (pairs_cons (key := "tale") (pairs_cons (key := "told") pairs_nil)))) (by decide) (by decide) rfl rfl (by simp) (by decide))))))))
set_option maxRecDepth 4000 in
theorem ok_law_model (T : Txt K mg) : DL.FnOk P w K mg base (L2.CX P w) 5 T.f_law_model T.d_law_model ["_law_pot_here", "_law_size", "_law_top", "_law_long"] (spD T.C sg_law_model mir_law_model) := by
  refine fn_mk (S := sg_law_model) (ft := false) (n := 6) (body := b_law_model) (G' := [(.c .z), .z, .z, .z, .z, (.k 2 (.c .z)), .z, .z, .z, .z]) rfl T.F_law_model sc_law_model rfl rfl rfl (fun h => nomatch h) ?_
  rintro ⟨prog, w2, K2, mg2, base2, A, N, s0, H0, ⟨scope, e2, e3, e4, e5, e6, e7, e8, e9⟩, outer, stack, ex, fn, calm, pn, xe⟩ E W hW hP hw hmg hb hN hS hF B hst hfr
  dsimp only at hP hw hmg hb hN hS hF
  have hK := B.hK
  dsimp only [Txt.C] at hK
  subst hW hP hw hmg hb hN hS hF hK
  exact ds_cons wkE (d_set (i := 4) (o := .z) sc_law_model.nd rfl (by first | exact .inl rfl | exact .inr rfl) (de_call (S := sg_law_draw) (E := E) (ok_law_draw T) B.hr (by decide) (by rfl) T.m_law_draw T.k_law_draw T.B_law_draw B.tk rfl (by decide) (dm_mv (i := 0) rfl rfl (by first | exact .inl rfl | exact .inr (.inl rfl) | exact .inr (.inr rfl)) (dm_cons de_int dm_nil))) rfl (by decide)) (ds_cons wkE (d_if wkE (dt_cmp (op_eq_D B.hK (hu64 B.hr)) (de_var (i := 4) rfl rfl (by first | exact .inl rfl | exact .inr (.inl rfl) | exact .inr (.inr rfl))) de_int (nomark _)) (ds_cons wkE (d_tup (is := [7, 8]) (os := [.z, .z]) B.cm (dm_cons (de_call (S := sg_law_folk) (E := E) (ok_law_folk T) B.hr (by decide) (by rfl) T.m_law_folk T.k_law_folk T.B_law_folk B.tk rfl (by decide) (dm_lt (i := 0) rfl rfl (by first | exact .inl rfl | exact .inr (.inl rfl) | exact .inr (.inr rfl)) (dm_cons (de_bin (op_add_D B.hK) de_int (de_call (S := sg_law_draw) (E := E) (ok_law_draw T) B.hr (by decide) (by rfl) T.m_law_draw T.k_law_draw T.B_law_draw B.tk rfl (by decide) (dm_mv (i := 0) rfl rfl (by first | exact .inl rfl | exact .inr (.inl rfl) | exact .inr (.inr rfl)) (dm_cons (de_var (i := 1) rfl rfl (by first | exact .inl rfl | exact .inr (.inl rfl) | exact .inr (.inr rfl))) dm_nil)))) dm_nil))) (dm_cons (de_bin (op_add_D B.hK) de_int (de_call (S := sg_law_draw) (E := E) (ok_law_draw T) B.hr (by decide) (by rfl) T.m_law_draw T.k_law_draw T.B_law_draw B.tk rfl (by decide) (dm_mv (i := 0) rfl rfl (by first | exact .inl rfl | exact .inr (.inl rfl) | exact .inr (.inr rfl)) (dm_cons (de_var (i := 2) rfl rfl (by first | exact .inl rfl | exact .inr (.inl rfl) | exact .inr (.inr rfl))) dm_nil)))) dm_nil)) (pgs_names (i := 7) sc_law_model.nd rfl (by first | exact .inl rfl | exact .inr rfl) (pgs_names (i := 8) sc_law_model.nd rfl (by first | exact .inl rfl | exact .inr rfl) pgs_names0)) rfl rfl) (ds_cons wkE (d_setLc (i := 6) (oe := .z) B.cm sc_law_model.nd rfl rfl (sw_true rfl rfl rfl (by decide +kernel)) (di_range1 (by rfl) T.n_range (da_cons (de_call (S := sg_law_draw) (E := E) (ok_law_draw T) B.hr (by decide) (by rfl) T.m_law_draw T.k_law_draw T.B_law_draw B.tk rfl (by decide) (dm_mv (i := 0) rfl rfl (by first | exact .inl rfl | exact .inr (.inl rfl) | exact .inr (.inr rfl)) (dm_cons (de_bin (op_add_D B.hK) (de_var (i := 3) rfl rfl (by first | exact .inl rfl | exact .inr (.inl rfl) | exact .inr (.inr rfl))) de_int) dm_nil))) da_nil)) (blkOk_by (N := nm_law_model) (sc := defScope s_law_model) (own := [("_law_turn", 9)]) (by decide +kernel)) rfl (by decide) rfl (fun _ _ _ _ _ => dg_name (i := 9) sc_law_model.nd rfl (by first | exact .inl rfl | exact .inr rfl) rfl) (fun _ _ _ _ _ => dts_nil) (fun _ _ _ _ _ => de_call (S := sg_law_fact) (E := nE) (ok_law_fact T) B.hr (by decide) (by rfl) T.m_law_fact T.k_law_fact T.B_law_fact takesW0 rfl (by decide) (dm_mv (i := 0) rfl rfl (by first | exact .inl rfl | exact .inr (.inl rfl) | exact .inr (.inr rfl)) (dm_cons (de_var (i := 7) rfl rfl (by first | exact .inl rfl | exact .inr (.inl rfl) | exact .inr (.inr rfl))) (dm_cons (de_var (i := 8) rfl rfl (by first | exact .inl rfl | exact .inr (.inl rfl) | exact .inr (.inr rfl))) dm_nil)))) rfl (by decide)) (ds_le wkE (G1 := [(.c .z), .z, .z, .z, .z, .z, .z, .z, .z, .z]) rfl (ds_one (d_ret (G' := [(.c .z), .z, .z, .z, .z, .z, .z, .z, .z, .z]) rfl (de_frz (de_disp (pps_cons pe_str (de_var (i := 7) rfl rfl (by first | exact .inl rfl | exact .inr (.inl rfl) | exact .inr (.inr rfl))) (pps_cons pe_str (de_var (i := 8) rfl rfl (by first | exact .inl rfl | exact .inr (.inl rfl) | exact .inr (.inr rfl))) (pps_cons pe_str (de_var (i := 6) rfl rfl (by first | exact .inl rfl | exact .inr (.inl rfl) | exact .inr (.inr rfl))) pps_nil))) (pairs_cons (key := "folk") (pairs_cons (key := "span") (pairs_cons (key := "tale") pairs_nil))) (by decide) (by decide) rfl rfl (by simp) (by decide)))))))) ds_nil) (ds_cons wkE (d_set (i := 5) (o := (.k 2 (.c .z))) sc_law_model.nd rfl (by first | exact .inl rfl | exact .inr rfl) (de_call (S := sg_law_planted) (E := E) (ok_law_planted T) B.hr (by decide) (by rfl) T.m_law_planted T.k_law_planted T.B_law_planted B.tk rfl (by decide) (dm_mv (i := 0) rfl rfl (by first | exact .inl rfl | exact .inr (.inl rfl) | exact .inr (.inr rfl)) (dm_cons (de_var (i := 1) rfl rfl (by first | exact .inl rfl | exact .inr (.inl rfl) | exact .inr (.inr rfl))) (dm_cons (de_var (i := 2) rfl rfl (by first | exact .inl rfl | exact .inr (.inl rfl) | exact .inr (.inr rfl))) (dm_cons (de_var (i := 3) rfl rfl (by first | exact .inl rfl | exact .inr (.inl rfl) | exact .inr (.inr rfl))) dm_nil))))) rfl (by decide)) (ds_cons wkE (d_if wkE (dt_cmp (op_eq_D B.hK (hu64 B.hr)) (de_var (i := 4) rfl rfl (by first | exact .inl rfl | exact .inr (.inl rfl) | exact .inr (.inr rfl))) de_int (nomark _)) (ds_one (d_drop (de_methK (n := 2) (i := 5) (j := 2) (ix := .str "tale") (y := .str "tale") (hu1 B.hr) PySem.F.plainAttrs_list PySem.F.slot_list_insert PySem.F.type_list_insert me_insert rfl rfl (by first | exact .inl rfl | exact .inr (.inl rfl) | exact .inr (.inr rfl)) pe_str (fun _ => .str _) (fun _ _ => rfl) (da_cons (de_call (S := sg_law_draw) (E := E) (ok_law_draw T) B.hr (by decide) (by rfl) T.m_law_draw T.k_law_draw T.B_law_draw B.tk rfl (by decide) (dm_mv (i := 0) rfl rfl (by first | exact .inl rfl | exact .inr (.inl rfl) | exact .inr (.inr rfl)) (dm_cons (de_bin (op_add_D B.hK) (de_callB (call_len_D B.hK) (by rfl) T.n_len PySem.boot_len (da_cons (de_ix B.hK (hu1 B.hr) (de_var (i := 5) rfl rfl (by first | exact .inl rfl | exact .inr (.inl rfl) | exact .inr (.inr rfl))) de_str (fun _ _ => rfl)) da_nil)) de_int) dm_nil))) (da_cons (de_call (S := sg_law_fact) (E := E) (ok_law_fact T) B.hr (by decide) (by rfl) T.m_law_fact T.k_law_fact T.B_law_fact B.tk rfl (by decide) (dm_mv (i := 0) rfl rfl (by first | exact .inl rfl | exact .inr (.inl rfl) | exact .inr (.inr rfl)) (dm_cons (de_ix B.hK (hu1 B.hr) (de_var (i := 5) rfl rfl (by first | exact .inl rfl | exact .inr (.inl rfl) | exact .inr (.inr rfl))) de_str (fun _ _ => rfl)) (dm_cons (de_ix B.hK (hu1 B.hr) (de_var (i := 5) rfl rfl (by first | exact .inl rfl | exact .inr (.inl rfl) | exact .inr (.inr rfl))) de_str (fun _ _ => rfl)) dm_nil)))) da_nil))))) ds_nil) (ds_one (d_ret (G' := [(.c .z), .z, .z, .z, .z, (.k 2 (.c .z)), .z, .z, .z, .z]) rfl (de_frz (de_mv (i := 5) rfl rfl (by first | exact .inl rfl | exact .inr (.inl rfl) | exact .inr (.inr rfl)))))))))
set_option maxRecDepth 4000 in
theorem ok_is_list (T : Txt K mg) : DL.FnOk P w K mg base (L2.CX P w) 1 T.f_is_list T.d_is_list ["value"] (spD T.C sg_is_list mir_is_list) := by
  refine fn_mk (S := sg_is_list) (ft := false) (n := 0) (body := b_is_list) (G' := [.z]) rfl T.F_is_list sc_is_list rfl rfl rfl (fun h => nomatch h) ?_
  rintro ⟨prog, w2, K2, mg2, base2, A, N, s0, H0, ⟨scope, e2, e3, e4, e5, e6, e7, e8, e9⟩, outer, stack, ex, fn, calm, pn, xe⟩ E W hW hP hw hmg hb hN hS hF B hst hfr
  dsimp only at hP hw hmg hb hN hS hF
  have hK := B.hK
  dsimp only [Txt.C] at hK
  subst hW hP hw hmg hb hN hS hF hK
  exact ds_one (d_ret (G' := [.z]) rfl (de_isi2 B.hK (by rfl) T.n_isinstance bt_isinstance (tyN (by rfl) T.n_list bt_list) (tyN (by rfl) T.n_tuple bt_tuple) (de_var (i := 0) rfl rfl (by first | exact .inl rfl | exact .inr (.inl rfl) | exact .inr (.inr rfl)))))
set_option maxRecDepth 4000 in
theorem ok_is_box (T : Txt K mg) : DL.FnOk P w K mg base (L2.CX P w) 1 T.f_is_box T.d_is_box ["value"] (spD T.C sg_is_box mir_is_box) := by
  refine fn_mk (S := sg_is_box) (ft := false) (n := 1) (body := b_is_box) (G' := [.z, .z]) rfl T.F_is_box sc_is_box rfl rfl rfl (fun h => nomatch h) ?_
  rintro ⟨prog, w2, K2, mg2, base2, A, N, s0, H0, ⟨scope, e2, e3, e4, e5, e6, e7, e8, e9⟩, outer, stack, ex, fn, calm, pn, xe⟩ E W hW hP hw hmg hb hN hS hF B hst hfr
  dsimp only at hP hw hmg hb hN hS hF
  have hK := B.hK
  dsimp only [Txt.C] at hK
  subst hW hP hw hmg hb hN hS hF hK
  exact ds_cons wkE (d_if wkE (PW.pt (dw_or (dt_not (dt_val B.hK (de_isi B.hK (by rfl) T.n_isinstance bt_isinstance (by rfl) T.n_str bt_str (de_var (i := 0) rfl rfl (by first | exact .inl rfl | exact .inr (.inl rfl) | exact .inr (.inr rfl)))))) (dw_or1 (dt_not (dt_ch2 (op_cmpI op_le) (op_cmpI op_le) de_int (de_callB (call_len_D B.hK) (by rfl) T.n_len PySem.boot_len (da_cons (de_var (i := 0) rfl rfl (by first | exact .inl rfl | exact .inr (.inl rfl) | exact .inr (.inr rfl))) da_nil)) (de_glob (v := .int 6) (by rfl) T.g_LONGEST_BOX ⟨_, rfl⟩ fun _ => .int _)))))) (ds_one (d_ret (G' := [.z, .z]) rfl de_bl)) ds_nil) (ds_one (d_ret (G' := [.z, .z]) rfl (de_callB (call_all_D B.hK B.cm) (by rfl) T.n_all bt_all (da_cons (de_frz (de_lc (vs := [1]) (oe := .z) B.cm sc_is_box.nd (di_val B.hK (de_var (i := 0) rfl rfl (by first | exact .inl rfl | exact .inr (.inl rfl) | exact .inr (.inr rfl)))) (blkOk_by (N := nm_is_box) (sc := defScope s_is_box) (own := [("sign", 1)]) (by decide +kernel)) rfl (by decide) rfl (fun _ _ _ _ _ => dg_name (i := 1) sc_is_box.nd rfl (by first | exact .inl rfl | exact .inr rfl) rfl) (fun _ _ _ _ _ => dts_nil) (fun _ _ _ _ _ => de_cmp (op_in_D B.hK (hu65 B.hr)) (de_var (i := 1) rfl rfl (by first | exact .inl rfl | exact .inr (.inl rfl) | exact .inr (.inr rfl))) (de_glob (v := .str "abcdefghijklmnopqrstuvwxyz") (by rfl) T.g_LETTERS ⟨_, rfl⟩ fun _ => .str _) (by rfl)))) da_nil))))
set_option maxRecDepth 4000 in
theorem ok_want_boxes (T : Txt K mg) : DL.FnOk P w K mg base (L2.CX P w) 2 T.f_want_boxes T.d_want_boxes ["value"] (spD T.C sg_want_boxes mir_want_boxes) := by
  refine fn_mk (S := sg_want_boxes) (ft := true) (n := 2) (body := b_want_boxes) (G' := [.z, .z, .z]) rfl T.F_want_boxes sc_want_boxes rfl rfl rfl (fun _ => ⟨rfl, rfl⟩) ?_
  rintro ⟨prog, w2, K2, mg2, base2, A, N, s0, H0, ⟨scope, e2, e3, e4, e5, e6, e7, e8, e9⟩, outer, stack, ex, fn, calm, pn, xe⟩ E W hW hP hw hmg hb hN hS hF B hst hfr
  dsimp only at hP hw hmg hb hN hS hF
  have hK := B.hK
  dsimp only [Txt.C] at hK
  subst hW hP hw hmg hb hN hS hF hK
  exact ds_cons wkE (d_if wkE (PW.pt (dw_or (dt_not (dt_val B.hK (de_call (S := sg_is_list) (E := E) (ok_is_list T) B.hr (by decide) (by rfl) T.m_is_list T.k_is_list T.B_is_list B.tk rfl (by decide) (dm_cons (de_var (i := 0) rfl rfl (by first | exact .inl rfl | exact .inr (.inl rfl) | exact .inr (.inr rfl))) dm_nil)))) (dw_or1 (dt_not (dt_ch2 (op_cmpI op_le) (op_cmpI op_le) de_int (de_callB (call_len_D B.hK) (by rfl) T.n_len PySem.boot_len (da_cons (de_var (i := 0) rfl rfl (by first | exact .inl rfl | exact .inr (.inl rfl) | exact .inr (.inr rfl))) da_nil)) (de_cval (by rfl) T.g_Yard T.r_Yard T.v_Yard_MOST_BOXES fun _ => .int _)))))) (ds_one (d_stk (G' := [.z, .z, .z]))) ds_nil) (ds_one (d_for wkE B.po B.cm (di_enum B.hK (by rfl) T.n_enumerate (da_cons (de_var (i := 0) rfl rfl (by first | exact .inl rfl | exact .inr (.inl rfl) | exact .inr (.inr rfl))) da_nil)) (dg_tup B.hK B.cm (dgs_cons (dg_name (i := 1) sc_want_boxes.nd rfl (by first | exact .inl rfl | exact .inr rfl) rfl) (dgs_cons (dg_name (i := 2) sc_want_boxes.nd rfl (by first | exact .inl rfl | exact .inr rfl) rfl) dgs_nil)) rfl) (ds_kill (ks := [1, 2]) (ds_one (d_if wkE (PW.pt (dw_or (dt_not (dt_val B.hK (de_call (S := sg_is_box) (E := E) (ok_is_box T) B.hr (by decide) (by rfl) T.m_is_box T.k_is_box T.B_is_box B.tk rfl (by decide) (dm_cons (de_var (i := 2) rfl rfl (by first | exact .inl rfl | exact .inr (.inl rfl) | exact .inr (.inr rfl))) dm_nil)))) (dw_or1 (dt_cmp (op_in_D B.hK (hu65 B.hr)) (de_var (i := 2) rfl rfl (by first | exact .inl rfl | exact .inr (.inl rfl) | exact .inr (.inr rfl))) (de_sl B.hK (de_var (i := 0) rfl rfl (by first | exact .inl rfl | exact .inr (.inl rfl) | exact .inr (.inr rfl))) do_none (do_int (de_var (i := 1) rfl rfl (by first | exact .inl rfl | exact .inr (.inl rfl) | exact .inr (.inr rfl))))) (by rfl))))) (ds_one (d_stk (G' := [.z, .z, .z]))) ds_nil))) rfl))
set_option maxRecDepth 4000 in
theorem ok_is_integer (T : Txt K mg) : DL.FnOk P w K mg base (L2.CX P w) 1 T.f_is_integer T.d_is_integer ["value"] (spD T.C sg_is_integer mir_is_integer) := by
  refine fn_mk (S := sg_is_integer) (ft := false) (n := 0) (body := b_is_integer) (G' := [.z]) rfl T.F_is_integer sc_is_integer rfl rfl rfl (fun h => nomatch h) ?_
  rintro ⟨prog, w2, K2, mg2, base2, A, N, s0, H0, ⟨scope, e2, e3, e4, e5, e6, e7, e8, e9⟩, outer, stack, ex, fn, calm, pn, xe⟩ E W hW hP hw hmg hb hN hS hF B hst hfr
  dsimp only at hP hw hmg hb hN hS hF
  have hK := B.hK
  dsimp only [Txt.C] at hK
  subst hW hP hw hmg hb hN hS hF hK
  exact ds_one (d_ret (G' := [.z]) rfl (de_and (de_isi B.hK (by rfl) T.n_isinstance bt_isinstance (by rfl) T.n_int bt_int (de_var (i := 0) rfl rfl (by first | exact .inl rfl | exact .inr (.inl rfl) | exact .inr (.inr rfl)))) (de_one (UnaryNot B.hK (de_isi B.hK (by rfl) T.n_isinstance bt_isinstance (by rfl) T.n_bool bt_bool (de_var (i := 0) rfl rfl (by first | exact .inl rfl | exact .inr (.inl rfl) | exact .inr (.inr rfl))))))))
set_option maxRecDepth 4000 in
theorem ok_want_days (T : Txt K mg) : DL.FnOk P w K mg base (L2.CX P w) 2 T.f_want_days T.d_want_days ["value"] (spD T.C sg_want_days mir_want_days) := by
  refine fn_mk (S := sg_want_days) (ft := true) (n := 0) (body := b_want_days) (G' := [.z]) rfl T.F_want_days sc_want_days rfl rfl rfl (fun _ => ⟨rfl, rfl⟩) ?_
  rintro ⟨prog, w2, K2, mg2, base2, A, N, s0, H0, ⟨scope, e2, e3, e4, e5, e6, e7, e8, e9⟩, outer, stack, ex, fn, calm, pn, xe⟩ E W hW hP hw hmg hb hN hS hF B hst hfr
  dsimp only at hP hw hmg hb hN hS hF
  have hK := B.hK
  dsimp only [Txt.C] at hK
  subst hW hP hw hmg hb hN hS hF hK
  exact ds_one (d_if wkE (PW.pt (dw_or (dt_not (dt_val B.hK (de_call (S := sg_is_integer) (E := E) (ok_is_integer T) B.hr (by decide) (by rfl) T.m_is_integer T.k_is_integer T.B_is_integer B.tk rfl (by decide) (dm_cons (de_var (i := 0) rfl rfl (by first | exact .inl rfl | exact .inr (.inl rfl) | exact .inr (.inr rfl))) dm_nil)))) (dw_or1 (dt_not (dt_ch2 (op_cmpI op_le) (op_cmpI op_le) de_int (de_var (i := 0) rfl rfl (by first | exact .inl rfl | exact .inr (.inl rfl) | exact .inr (.inr rfl))) (de_glob (v := .int 9) (by rfl) T.g_MOST_DAYS ⟨_, rfl⟩ fun _ => .int _)))))) (ds_one (d_stk (G' := [.z]))) ds_nil)
set_option maxRecDepth 4000 in
theorem ok_is_known (T : Txt K mg) : DL.FnOk P w K mg base (L2.CX P w) 1 T.f_is_known T.d_is_known ["boxes", "value"] (spD T.C sg_is_known mir_is_known) := by
  refine fn_mk (S := sg_is_known) (ft := false) (n := 0) (body := b_is_known) (G' := [.z, .z]) rfl T.F_is_known sc_is_known rfl rfl rfl (fun h => nomatch h) ?_
  rintro ⟨prog, w2, K2, mg2, base2, A, N, s0, H0, ⟨scope, e2, e3, e4, e5, e6, e7, e8, e9⟩, outer, stack, ex, fn, calm, pn, xe⟩ E W hW hP hw hmg hb hN hS hF B hst hfr
  dsimp only at hP hw hmg hb hN hS hF
  have hK := B.hK
  dsimp only [Txt.C] at hK
  subst hW hP hw hmg hb hN hS hF hK
  exact ds_one (d_ret (G' := [.z, .z]) rfl (de_and (de_isi B.hK (by rfl) T.n_isinstance bt_isinstance (by rfl) T.n_str bt_str (de_var (i := 1) rfl rfl (by first | exact .inl rfl | exact .inr (.inl rfl) | exact .inr (.inr rfl)))) (de_one (de_cmp (op_in_D B.hK (hu65 B.hr)) (de_var (i := 1) rfl rfl (by first | exact .inl rfl | exact .inr (.inl rfl) | exact .inr (.inr rfl))) (de_var (i := 0) rfl rfl (by first | exact .inl rfl | exact .inr (.inl rfl) | exact .inr (.inr rfl))) (by rfl)))))
set_option maxRecDepth 4000 in
theorem ok_is_ahead_told (T : Txt K mg) : DL.FnOk P w K mg base (L2.CX P w) 2 T.f_is_ahead_told T.d_is_ahead_told ["boxes", "rest"] (spD T.C sg_is_ahead_told mir_is_ahead_told) := by
  refine fn_mk (S := sg_is_ahead_told) (ft := false) (n := 0) (body := b_is_ahead_told) (G' := [.z, .z]) rfl T.F_is_ahead_told sc_is_ahead_told rfl rfl rfl (fun h => nomatch h) ?_
  rintro ⟨prog, w2, K2, mg2, base2, A, N, s0, H0, ⟨scope, e2, e3, e4, e5, e6, e7, e8, e9⟩, outer, stack, ex, fn, calm, pn, xe⟩ E W hW hP hw hmg hb hN hS hF B hst hfr
  dsimp only at hP hw hmg hb hN hS hF
  have hK := B.hK
  dsimp only [Txt.C] at hK
  subst hW hP hw hmg hb hN hS hF hK
  exact ds_one (d_ret (G' := [.z, .z]) rfl (de_and (de_cmp (op_eq_D B.hK (hu64 B.hr)) (de_callB (call_len_D B.hK) (by rfl) T.n_len PySem.boot_len (da_cons (de_var (i := 1) rfl rfl (by first | exact .inl rfl | exact .inr (.inl rfl) | exact .inr (.inr rfl))) da_nil)) de_int (nomark _)) (de_and (de_call (S := sg_is_known) (E := E) (ok_is_known T) B.hr (by decide) (by rfl) T.m_is_known T.k_is_known T.B_is_known B.tk rfl (by decide) (dm_cons (de_var (i := 0) rfl rfl (by first | exact .inl rfl | exact .inr (.inl rfl) | exact .inr (.inr rfl))) (dm_cons (de_ix B.hK (hu1 B.hr) (de_var (i := 1) rfl rfl (by first | exact .inl rfl | exact .inr (.inl rfl) | exact .inr (.inr rfl))) de_int (fun _ _ => rfl)) dm_nil))) (de_and (de_call (S := sg_is_known) (E := E) (ok_is_known T) B.hr (by decide) (by rfl) T.m_is_known T.k_is_known T.B_is_known B.tk rfl (by decide) (dm_cons (de_var (i := 0) rfl rfl (by first | exact .inl rfl | exact .inr (.inl rfl) | exact .inr (.inr rfl))) (dm_cons (de_ix B.hK (hu1 B.hr) (de_var (i := 1) rfl rfl (by first | exact .inl rfl | exact .inr (.inl rfl) | exact .inr (.inr rfl))) de_int (fun _ _ => rfl)) dm_nil))) (de_one (de_cmp (op_ne_D B.hK (hu64 B.hr)) (de_ix B.hK (hu1 B.hr) (de_var (i := 1) rfl rfl (by first | exact .inl rfl | exact .inr (.inl rfl) | exact .inr (.inr rfl))) de_int (fun _ _ => rfl)) (de_ix B.hK (hu1 B.hr) (de_var (i := 1) rfl rfl (by first | exact .inl rfl | exact .inr (.inl rfl) | exact .inr (.inr rfl))) de_int (fun _ _ => rfl)) (nomark _)))))))
set_option maxRecDepth 4000 in
theorem ok_are_days_told (T : Txt K mg) : DL.FnOk P w K mg base (L2.CX P w) 2 T.f_are_days_told T.d_are_days_told ["boxes", "days", "rest"] (spD T.C sg_are_days_told mir_are_days_told) := by
  refine fn_mk (S := sg_are_days_told) (ft := false) (n := 0) (body := b_are_days_told) (G' := [.z, .z, .z]) rfl T.F_are_days_told sc_are_days_told rfl rfl rfl (fun h => nomatch h) ?_
  rintro ⟨prog, w2, K2, mg2, base2, A, N, s0, H0, ⟨scope, e2, e3, e4, e5, e6, e7, e8, e9⟩, outer, stack, ex, fn, calm, pn, xe⟩ E W hW hP hw hmg hb hN hS hF B hst hfr
  dsimp only at hP hw hmg hb hN hS hF
  have hK := B.hK
  dsimp only [Txt.C] at hK
  subst hW hP hw hmg hb hN hS hF hK
  exact ds_cons wkE (d_if wkE (PW.pt (dw_or (dt_cmp (op_ne_D B.hK (hu64 B.hr)) (de_callB (call_len_D B.hK) (by rfl) T.n_len PySem.boot_len (da_cons (de_var (i := 2) rfl rfl (by first | exact .inl rfl | exact .inr (.inl rfl) | exact .inr (.inr rfl))) da_nil)) de_int (nomark _)) (dw_or1 (dt_not (dt_val B.hK (de_call (S := sg_is_known) (E := E) (ok_is_known T) B.hr (by decide) (by rfl) T.m_is_known T.k_is_known T.B_is_known B.tk rfl (by decide) (dm_cons (de_var (i := 0) rfl rfl (by first | exact .inl rfl | exact .inr (.inl rfl) | exact .inr (.inr rfl))) (dm_cons (de_ix B.hK (hu1 B.hr) (de_var (i := 2) rfl rfl (by first | exact .inl rfl | exact .inr (.inl rfl) | exact .inr (.inr rfl))) de_int (fun _ _ => rfl)) dm_nil)))))))) (ds_one (d_ret (G' := [.z, .z, .z]) rfl de_bl)) ds_nil) (ds_one (d_ret (G' := [.z, .z, .z]) rfl (de_and (de_call (S := sg_is_integer) (E := E) (ok_is_integer T) B.hr (by decide) (by rfl) T.m_is_integer T.k_is_integer T.B_is_integer B.tk rfl (by decide) (dm_cons (de_ix B.hK (hu1 B.hr) (de_var (i := 2) rfl rfl (by first | exact .inl rfl | exact .inr (.inl rfl) | exact .inr (.inr rfl))) de_int (fun _ _ => rfl)) dm_nil)) (de_and (de_call (S := sg_is_integer) (E := E) (ok_is_integer T) B.hr (by decide) (by rfl) T.m_is_integer T.k_is_integer T.B_is_integer B.tk rfl (by decide) (dm_cons (de_ix B.hK (hu1 B.hr) (de_var (i := 2) rfl rfl (by first | exact .inl rfl | exact .inr (.inl rfl) | exact .inr (.inr rfl))) de_int (fun _ _ => rfl)) dm_nil)) (de_one (de_ch3 (op_cmpI op_le) (op_cmpI op_le) (op_cmpI op_le) de_int (de_ix B.hK (hu1 B.hr) (de_var (i := 2) rfl rfl (by first | exact .inl rfl | exact .inr (.inl rfl) | exact .inr (.inr rfl))) de_int (fun _ _ => rfl)) (de_ix B.hK (hu1 B.hr) (de_var (i := 2) rfl rfl (by first | exact .inl rfl | exact .inr (.inl rfl) | exact .inr (.inr rfl))) de_int (fun _ _ => rfl)) (de_var (i := 1) rfl rfl (by first | exact .inl rfl | exact .inr (.inl rfl) | exact .inr (.inr rfl)))))))))
set_option maxRecDepth 4000 in
theorem ok_is_count (T : Txt K mg) : DL.FnOk P w K mg base (L2.CX P w) 2 T.f_is_count T.d_is_count ["value"] (spD T.C sg_is_count mir_is_count) := by
  refine fn_mk (S := sg_is_count) (ft := false) (n := 0) (body := b_is_count) (G' := [.z]) rfl T.F_is_count sc_is_count rfl rfl rfl (fun h => nomatch h) ?_
  rintro ⟨prog, w2, K2, mg2, base2, A, N, s0, H0, ⟨scope, e2, e3, e4, e5, e6, e7, e8, e9⟩, outer, stack, ex, fn, calm, pn, xe⟩ E W hW hP hw hmg hb hN hS hF B hst hfr
  dsimp only at hP hw hmg hb hN hS hF
  have hK := B.hK
  dsimp only [Txt.C] at hK
  subst hW hP hw hmg hb hN hS hF hK
  exact ds_one (d_ret (G' := [.z]) rfl (de_and (de_call (S := sg_is_integer) (E := E) (ok_is_integer T) B.hr (by decide) (by rfl) T.m_is_integer T.k_is_integer T.B_is_integer B.tk rfl (by decide) (dm_cons (de_var (i := 0) rfl rfl (by first | exact .inl rfl | exact .inr (.inl rfl) | exact .inr (.inr rfl))) dm_nil)) (de_one (de_cmp (op_cmpI op_ge) (de_var (i := 0) rfl rfl (by first | exact .inl rfl | exact .inr (.inl rfl) | exact .inr (.inr rfl))) de_int (nomark _)))))
set_option maxRecDepth 4000 in
theorem ok_is_gone_told (T : Txt K mg) : DL.FnOk P w K mg base (L2.CX P w) 3 T.f_is_gone_told T.d_is_gone_told ["many", "days", "rest"] (spD T.C sg_is_gone_told mir_is_gone_told) := by
  refine fn_mk (S := sg_is_gone_told) (ft := false) (n := 1) (body := b_is_gone_told) (G' := [.z, .z, .z, .z]) rfl T.F_is_gone_told sc_is_gone_told rfl rfl rfl (fun h => nomatch h) ?_
  rintro ⟨prog, w2, K2, mg2, base2, A, N, s0, H0, ⟨scope, e2, e3, e4, e5, e6, e7, e8, e9⟩, outer, stack, ex, fn, calm, pn, xe⟩ E W hW hP hw hmg hb hN hS hF B hst hfr
  dsimp only at hP hw hmg hb hN hS hF
  have hK := B.hK
  dsimp only [Txt.C] at hK
  subst hW hP hw hmg hb hN hS hF hK
  exact ds_cons wkE (d_if wkE (PW.pt (dw_or (dt_cmp (op_ne_D B.hK (hu64 B.hr)) (de_callB (call_len_D B.hK) (by rfl) T.n_len PySem.boot_len (da_cons (de_var (i := 2) rfl rfl (by first | exact .inl rfl | exact .inr (.inl rfl) | exact .inr (.inr rfl))) da_nil)) de_int (nomark _)) (dw_or1 (dt_not (dt_val B.hK (de_callB (call_all_D B.hK B.cm) (by rfl) T.n_all bt_all (da_cons (de_frz (de_lc (vs := [3]) (oe := .z) B.cm sc_is_gone_told.nd (di_val B.hK (de_var (i := 2) rfl rfl (by first | exact .inl rfl | exact .inr (.inl rfl) | exact .inr (.inr rfl)))) (blkOk_by (N := nm_is_gone_told) (sc := defScope s_is_gone_told) (own := [("part", 3)]) (by decide +kernel)) rfl (by decide) rfl (fun _ _ _ _ _ => dg_name (i := 3) sc_is_gone_told.nd rfl (by first | exact .inl rfl | exact .inr rfl) rfl) (fun _ _ _ _ _ => dts_nil) (fun _ _ _ _ _ => de_call (S := sg_is_count) (E := nE) (ok_is_count T) B.hr (by decide) (by rfl) T.m_is_count T.k_is_count T.B_is_count takesW0 rfl (by decide) (dm_cons (de_var (i := 3) rfl rfl (by first | exact .inl rfl | exact .inr (.inl rfl) | exact .inr (.inr rfl))) dm_nil)))) da_nil))))))) (ds_one (d_ret (G' := [.z, .z, .z, .z]) rfl de_bl)) ds_nil) (ds_one (d_ret (G' := [.z, .z, .z, .z]) rfl (de_and (de_ch2 (op_cmpI op_le) (op_cmpI op_le) de_int (de_ix B.hK (hu1 B.hr) (de_var (i := 2) rfl rfl (by first | exact .inl rfl | exact .inr (.inl rfl) | exact .inr (.inr rfl))) de_int (fun _ _ => rfl)) (de_var (i := 1) rfl rfl (by first | exact .inl rfl | exact .inr (.inl rfl) | exact .inr (.inr rfl)))) (de_one (de_ch2 (op_cmpI op_le) (op_cmpI op_le) (de_ix B.hK (hu1 B.hr) (de_var (i := 2) rfl rfl (by first | exact .inl rfl | exact .inr (.inl rfl) | exact .inr (.inr rfl))) de_int (fun _ _ => rfl)) (de_ix B.hK (hu1 B.hr) (de_var (i := 2) rfl rfl (by first | exact .inl rfl | exact .inr (.inl rfl) | exact .inr (.inr rfl))) de_int (fun _ _ => rfl)) (de_var (i := 0) rfl rfl (by first | exact .inl rfl | exact .inr (.inl rfl) | exact .inr (.inr rfl))))))))
set_option maxRecDepth 4000 in
theorem ok_is_fact (T : Txt K mg) : DL.FnOk P w K mg base (L2.CX P w) 4 T.f_is_fact T.d_is_fact ["boxes", "days", "value"] (spD T.C sg_is_fact mir_is_fact) := by
  refine fn_mk (S := sg_is_fact) (ft := false) (n := 0) (body := b_is_fact) (G' := [.z, .z, .z]) rfl T.F_is_fact sc_is_fact rfl rfl rfl (fun h => nomatch h) ?_
  rintro ⟨prog, w2, K2, mg2, base2, A, N, s0, H0, ⟨scope, e2, e3, e4, e5, e6, e7, e8, e9⟩, outer, stack, ex, fn, calm, pn, xe⟩ E W hW hP hw hmg hb hN hS hF B hst hfr
  dsimp only at hP hw hmg hb hN hS hF
  have hK := B.hK
  dsimp only [Txt.C] at hK
  subst hW hP hw hmg hb hN hS hF hK
  exact ds_cons wkE (d_if wkE (PW.pt (dw_or (dt_not (dt_val B.hK (de_isi B.hK (by rfl) T.n_isinstance bt_isinstance (by rfl) T.n_tuple bt_tuple (de_var (i := 2) rfl rfl (by first | exact .inl rfl | exact .inr (.inl rfl) | exact .inr (.inr rfl)))))) (dw_or (dt_cmp (op_eq_D B.hK (hu64 B.hr)) (de_callB (call_len_D B.hK) (by rfl) T.n_len PySem.boot_len (da_cons (de_var (i := 2) rfl rfl (by first | exact .inl rfl | exact .inr (.inl rfl) | exact .inr (.inr rfl))) da_nil)) de_int (nomark _)) (dw_or1 (dt_not (dt_val B.hK (de_isi B.hK (by rfl) T.n_isinstance bt_isinstance (by rfl) T.n_str bt_str (de_ix B.hK (hu1 B.hr) (de_var (i := 2) rfl rfl (by first | exact .inl rfl | exact .inr (.inl rfl) | exact .inr (.inr rfl))) de_int (fun _ _ => rfl))))))))) (ds_one (d_ret (G' := [.z, .z, .z]) rfl de_bl)) ds_nil) (ds_cons wkE (d_if wkE (dt_cmp (op_eq_D B.hK (hu64 B.hr)) (de_ix B.hK (hu1 B.hr) (de_var (i := 2) rfl rfl (by first | exact .inl rfl | exact .inr (.inl rfl) | exact .inr (.inr rfl))) de_int (fun _ _ => rfl)) (de_glob (v := .str "ahead") (by rfl) T.g_AHEAD_yards ⟨_, rfl⟩ fun _ => .str _) (nomark _)) (ds_one (d_ret (G' := [.z, .z, .z]) rfl (de_call (S := sg_is_ahead_told) (E := E) (ok_is_ahead_told T) B.hr (by decide) (by rfl) T.m_is_ahead_told T.k_is_ahead_told T.B_is_ahead_told B.tk rfl (by decide) (dm_cons (de_var (i := 0) rfl rfl (by first | exact .inl rfl | exact .inr (.inl rfl) | exact .inr (.inr rfl))) (dm_cons (de_sl B.hK (de_var (i := 2) rfl rfl (by first | exact .inl rfl | exact .inr (.inl rfl) | exact .inr (.inr rfl))) (do_int de_int) do_none) dm_nil))))) ds_nil) (ds_cons wkE (d_if wkE (dt_cmp (op_eq_D B.hK (hu64 B.hr)) (de_ix B.hK (hu1 B.hr) (de_var (i := 2) rfl rfl (by first | exact .inl rfl | exact .inr (.inl rfl) | exact .inr (.inr rfl))) de_int (fun _ _ => rfl)) (de_glob (v := .str "days") (by rfl) T.g_DAYS_yards ⟨_, rfl⟩ fun _ => .str _) (nomark _)) (ds_one (d_ret (G' := [.z, .z, .z]) rfl (de_call (S := sg_are_days_told) (E := E) (ok_are_days_told T) B.hr (by decide) (by rfl) T.m_are_days_told T.k_are_days_told T.B_are_days_told B.tk rfl (by decide) (dm_cons (de_var (i := 0) rfl rfl (by first | exact .inl rfl | exact .inr (.inl rfl) | exact .inr (.inr rfl))) (dm_cons (de_var (i := 1) rfl rfl (by first | exact .inl rfl | exact .inr (.inl rfl) | exact .inr (.inr rfl))) (dm_cons (de_sl B.hK (de_var (i := 2) rfl rfl (by first | exact .inl rfl | exact .inr (.inl rfl) | exact .inr (.inr rfl))) (do_int de_int) do_none) dm_nil)))))) ds_nil) (ds_one (d_ret (G' := [.z, .z, .z]) rfl (de_and (de_cmp (op_eq_D B.hK (hu64 B.hr)) (de_ix B.hK (hu1 B.hr) (de_var (i := 2) rfl rfl (by first | exact .inl rfl | exact .inr (.inl rfl) | exact .inr (.inr rfl))) de_int (fun _ _ => rfl)) (de_glob (v := .str "gone") (by rfl) T.g_GONE ⟨_, rfl⟩ fun _ => .str _) (nomark _)) (de_one (de_call (S := sg_is_gone_told) (E := E) (ok_is_gone_told T) B.hr (by decide) (by rfl) T.m_is_gone_told T.k_is_gone_told T.B_is_gone_told B.tk rfl (by decide) (dm_cons (de_callB (call_len_D B.hK) (by rfl) T.n_len PySem.boot_len (da_cons (de_var (i := 0) rfl rfl (by first | exact .inl rfl | exact .inr (.inl rfl) | exact .inr (.inr rfl))) da_nil)) (dm_cons (de_var (i := 1) rfl rfl (by first | exact .inl rfl | exact .inr (.inl rfl) | exact .inr (.inr rfl))) (dm_cons (de_sl B.hK (de_var (i := 2) rfl rfl (by first | exact .inl rfl | exact .inr (.inl rfl) | exact .inr (.inr rfl))) (do_int de_int) do_none) dm_nil))))))))))
set_option maxRecDepth 4000 in
theorem ok_want_facts (T : Txt K mg) : DL.FnOk P w K mg base (L2.CX P w) 5 T.f_want_facts T.d_want_facts ["boxes", "days", "value"] (spD T.C sg_want_facts mir_want_facts) := by
  refine fn_mk (S := sg_want_facts) (ft := true) (n := 2) (body := b_want_facts) (G' := [.z, .z, .z, .z, .z]) rfl T.F_want_facts sc_want_facts rfl rfl rfl (fun _ => ⟨rfl, rfl⟩) ?_
  rintro ⟨prog, w2, K2, mg2, base2, A, N, s0, H0, ⟨scope, e2, e3, e4, e5, e6, e7, e8, e9⟩, outer, stack, ex, fn, calm, pn, xe⟩ E W hW hP hw hmg hb hN hS hF B hst hfr
  dsimp only at hP hw hmg hb hN hS hF
  have hK := B.hK
  dsimp only [Txt.C] at hK
  subst hW hP hw hmg hb hN hS hF hK
  exact ds_cons wkE (d_if wkE (dt_not (dt_val B.hK (de_call (S := sg_is_list) (E := E) (ok_is_list T) B.hr (by decide) (by rfl) T.m_is_list T.k_is_list T.B_is_list B.tk rfl (by decide) (dm_cons (de_var (i := 2) rfl rfl (by first | exact .inl rfl | exact .inr (.inl rfl) | exact .inr (.inr rfl))) dm_nil)))) (ds_one (d_stk (G' := [.z, .z, .z, .z, .z]))) ds_nil) (ds_one (d_for wkE B.po B.cm (di_enum B.hK (by rfl) T.n_enumerate (da_cons (de_var (i := 2) rfl rfl (by first | exact .inl rfl | exact .inr (.inl rfl) | exact .inr (.inr rfl))) da_nil)) (dg_tup B.hK B.cm (dgs_cons (dg_name (i := 3) sc_want_facts.nd rfl (by first | exact .inl rfl | exact .inr rfl) rfl) (dgs_cons (dg_name (i := 4) sc_want_facts.nd rfl (by first | exact .inl rfl | exact .inr rfl) rfl) dgs_nil)) rfl) (ds_kill (ks := [3, 4]) (ds_one (d_if wkE (dt_not (dt_val B.hK (de_call (S := sg_is_fact) (E := E) (ok_is_fact T) B.hr (by decide) (by rfl) T.m_is_fact T.k_is_fact T.B_is_fact B.tk rfl (by decide) (dm_cons (de_var (i := 0) rfl rfl (by first | exact .inl rfl | exact .inr (.inl rfl) | exact .inr (.inr rfl))) (dm_cons (de_var (i := 1) rfl rfl (by first | exact .inl rfl | exact .inr (.inl rfl) | exact .inr (.inr rfl))) (dm_cons (de_var (i := 4) rfl rfl (by first | exact .inl rfl | exact .inr (.inl rfl) | exact .inr (.inr rfl))) dm_nil)))))) (ds_one (d_stk (G' := [.z, .z, .z, .z, .z]))) ds_nil))) rfl))
set_option maxRecDepth 4000 in
theorem ok_Yardu_initu (T : Txt K mg) : DL.FnOk P w K mg base (L2.CX P w) 6 T.f_Yardu_initu T.d_Yardu_initu ["self", "boxes", "days", "facts"] (spD T.C sg_Yardu_initu mir_Yardu_initu) := by
  refine fn_mk (S := sg_Yardu_initu) (ft := true) (n := 0) (body := b_Yardu_initu) (G' := [.i, .z, .z, .z]) rfl T.F_Yardu_initu sc_Yardu_initu rfl rfl rfl (fun _ => ⟨rfl, rfl⟩) ?_
  rintro ⟨prog, w2, K2, mg2, base2, A, N, s0, H0, ⟨scope, e2, e3, e4, e5, e6, e7, e8, e9⟩, outer, stack, ex, fn, calm, pn, xe⟩ E W hW hP hw hmg hb hN hS hF B hst hfr
  dsimp only at hP hw hmg hb hN hS hF
  have hK := B.hK
  dsimp only [Txt.C] at hK
  subst hW hP hw hmg hb hN hS hF hK
  exact ds_cons wkE (d_drop (de_call (S := sg_want_boxes) (E := E) (ok_want_boxes T) B.hr (by decide) (by rfl) T.m_want_boxes T.k_want_boxes T.B_want_boxes B.tk rfl (by decide) (dm_cons (de_var (i := 1) rfl rfl (by first | exact .inl rfl | exact .inr (.inl rfl) | exact .inr (.inr rfl))) dm_nil))) (ds_cons wkE (d_drop (de_call (S := sg_want_days) (E := E) (ok_want_days T) B.hr (by decide) (by rfl) T.m_want_days T.k_want_days T.B_want_days B.tk rfl (by decide) (dm_cons (de_var (i := 2) rfl rfl (by first | exact .inl rfl | exact .inr (.inl rfl) | exact .inr (.inr rfl))) dm_nil))) (ds_cons wkE (d_drop (de_call (S := sg_want_facts) (E := E) (ok_want_facts T) B.hr (by decide) (by rfl) T.m_want_facts T.k_want_facts T.B_want_facts B.tk rfl (by decide) (dm_cons (de_var (i := 1) rfl rfl (by first | exact .inl rfl | exact .inr (.inl rfl) | exact .inr (.inr rfl))) (dm_cons (de_var (i := 2) rfl rfl (by first | exact .inl rfl | exact .inr (.inl rfl) | exact .inr (.inr rfl))) (dm_cons (de_var (i := 3) rfl rfl (by first | exact .inl rfl | exact .inr (.inl rfl) | exact .inr (.inr rfl))) dm_nil))))) (ds_cons wkE (d_if wkE (dt_cmp (op_cmpI op_gt) (de_callB (call_len_D B.hK) (by rfl) T.n_len PySem.boot_len (da_cons (de_var (i := 3) rfl rfl (by first | exact .inl rfl | exact .inr (.inl rfl) | exact .inr (.inr rfl))) da_nil)) (de_cval (by rfl) T.g_Yard T.r_Yard T.v_Yard_MOST_FACTS fun _ => .int _) (nomark _)) (ds_one (d_stk (G' := [.i, .z, .z, .z]))) ds_nil) (ds_cons wkE (d_fld (i := 0) B.hK (T.s_own_boxes) rfl rfl (by first | exact .inl rfl | exact .inr (.inl rfl) | exact .inr (.inr rfl)) (de_callTy (call_tuple_D B.hK) (by rfl) T.n_tuple bt_tuple (da_cons (de_var (i := 1) rfl rfl (by first | exact .inl rfl | exact .inr (.inl rfl) | exact .inr (.inr rfl))) da_nil))) (ds_cons wkE (d_fld (i := 0) B.hK (T.s_own_days) rfl rfl (by first | exact .inl rfl | exact .inr (.inl rfl) | exact .inr (.inr rfl)) (de_var (i := 2) rfl rfl (by first | exact .inl rfl | exact .inr (.inl rfl) | exact .inr (.inr rfl)))) (ds_one (d_fld (i := 0) B.hK (T.s_own_facts) rfl rfl (by first | exact .inl rfl | exact .inr (.inl rfl) | exact .inr (.inr rfl)) (de_callTy (call_tuple_D B.hK) (by rfl) T.n_tuple bt_tuple (da_cons (de_var (i := 3) rfl rfl (by first | exact .inl rfl | exact .inr (.inl rfl) | exact .inr (.inr rfl))) da_nil)))))))))
set_option maxRecDepth 4000 in
theorem ok_law_yard (T : Txt K mg) : DL.FnOk P w K mg base (L2.CX P w) 8 T.f_law_yard T.d_law_yard ["_law_model_here"] (spD T.C sg_law_yard mir_law_yard) := by
  refine fn_mk (S := sg_law_yard) (ft := false) (n := 0) (body := b_law_yard) (G' := [.z]) rfl T.F_law_yard sc_law_yard rfl rfl rfl (fun h => nomatch h) ?_
  rintro ⟨prog, w2, K2, mg2, base2, A, N, s0, H0, ⟨scope, e2, e3, e4, e5, e6, e7, e8, e9⟩, outer, stack, ex, fn, calm, pn, xe⟩ E W hW hP hw hmg hb hN hS hF B hst hfr
  dsimp only at hP hw hmg hb hN hS hF
  have hK := B.hK
  dsimp only [Txt.C] at hK
  subst hW hP hw hmg hb hN hS hF hK
  exact ds_one (d_ret (G' := [.z]) rfl (de_frz (de_make (n := 3) T.h_Yard (E := E) rfl B.tk T.m_Yard (ok_Yardu_initu T) B.hr (by decide) (by rfl) T.g_Yard T.B_Yardu_initu (da_cons (de_frz (de_callTy (call_list_D B.hK) (by rfl) T.n_list bt_list (da_cons (de_ix B.hK (hu1 B.hr) (de_var (i := 0) rfl rfl (by first | exact .inl rfl | exact .inr (.inl rfl) | exact .inr (.inr rfl))) de_str (fun _ _ => rfl)) da_nil))) (da_cons (de_ix B.hK (hu1 B.hr) (de_var (i := 0) rfl rfl (by first | exact .inl rfl | exact .inr (.inl rfl) | exact .inr (.inr rfl))) de_str (fun _ _ => rfl)) (da_cons (de_frz (de_callTy (call_list_D B.hK) (by rfl) T.n_list bt_list (da_cons (de_ix B.hK (hu1 B.hr) (de_var (i := 0) rfl rfl (by first | exact .inl rfl | exact .inr (.inl rfl) | exact .inr (.inr rfl))) de_str (fun _ _ => rfl)) da_nil))) da_nil))))))
set_option maxRecDepth 4000 in
theorem ok_Yardu_containsu (T : Txt K mg) : DL.FnOk P w K mg base (L2.CX P w) 2 T.f_Yardu_containsu T.d_Yardu_containsu ["self", "value"] (spD T.C sg_Yardu_containsu mir_Yardu_containsu) := by
  refine fn_mk (S := sg_Yardu_containsu) (ft := false) (n := 0) (body := b_Yardu_containsu) (G' := [.z, .z]) rfl T.F_Yardu_containsu sc_Yardu_containsu rfl rfl rfl (fun h => nomatch h) ?_
  rintro ⟨prog, w2, K2, mg2, base2, A, N, s0, H0, ⟨scope, e2, e3, e4, e5, e6, e7, e8, e9⟩, outer, stack, ex, fn, calm, pn, xe⟩ E W hW hP hw hmg hb hN hS hF B hst hfr
  dsimp only at hP hw hmg hb hN hS hF
  have hK := B.hK
  dsimp only [Txt.C] at hK
  subst hW hP hw hmg hb hN hS hF hK
  exact ds_one (d_ret (G' := [.z, .z]) rfl (de_call (S := sg_is_known) (E := E) (ok_is_known T) B.hr (by decide) (by rfl) T.m_is_known T.k_is_known T.B_is_known B.tk rfl (by decide) (dm_cons (de_fld B.hK T.h_Yard T.c_Yard T.a_Yard_own_boxes (de_var (i := 0) rfl rfl (by first | exact .inl rfl | exact .inr (.inl rfl) | exact .inr (.inr rfl)))) (dm_cons (de_var (i := 1) rfl rfl (by first | exact .inl rfl | exact .inr (.inl rfl) | exact .inr (.inr rfl))) dm_nil))))
set_option maxRecDepth 4000 in
theorem ok_want_box (T : Txt K mg) : DL.FnOk P w K mg base (L2.CX P w) 3 T.f_want_box T.d_want_box ["yard", "value"] (spD T.C sg_want_box mir_want_box) := by
  refine fn_mk (S := sg_want_box) (ft := true) (n := 0) (body := b_want_box) (G' := [.z, .z]) rfl T.F_want_box sc_want_box rfl rfl rfl (fun _ => ⟨rfl, rfl⟩) ?_
  rintro ⟨prog, w2, K2, mg2, base2, A, N, s0, H0, ⟨scope, e2, e3, e4, e5, e6, e7, e8, e9⟩, outer, stack, ex, fn, calm, pn, xe⟩ E W hW hP hw hmg hb hN hS hF B hst hfr
  dsimp only at hP hw hmg hb hN hS hF
  have hK := B.hK
  dsimp only [Txt.C] at hK
  subst hW hP hw hmg hb hN hS hF hK
  exact ds_one (d_if wkE (dt_ninI (S := sg_Yardu_containsu) T.h_Yard (E := E) rfl B.tk rfl rfl T.u_Yard_contains (ok_Yardu_containsu T) B.hr (by decide) T.B_Yardu_containsu (de_var (i := 1) rfl rfl (by first | exact .inl rfl | exact .inr (.inl rfl) | exact .inr (.inr rfl))) (de_var (i := 0) rfl rfl (by first | exact .inl rfl | exact .inr (.inl rfl) | exact .inr (.inr rfl))) (by rfl)) (ds_one (d_stk (G' := [.z, .z]))) ds_nil)
set_option maxRecDepth 4000 in
theorem ok_drawn_by (T : Txt K mg) : DL.FnOk P w K mg base (L2.CX P w) 1 T.f_drawn_by T.d_drawn_by ["told", "ways"] (spD T.C sg_drawn_by mir_drawn_by) := by
  refine fn_mk (S := sg_drawn_by) (ft := false) (n := 4) (body := b_drawn_by) (G' := [.z, .z, (.c .z), .z, .z, .z]) rfl T.F_drawn_by sc_drawn_by rfl rfl rfl (fun h => nomatch h) ?_
  rintro ⟨prog, w2, K2, mg2, base2, A, N, s0, H0, ⟨scope, e2, e3, e4, e5, e6, e7, e8, e9⟩, outer, stack, ex, fn, calm, pn, xe⟩ E W hW hP hw hmg hb hN hS hF B hst hfr
  dsimp only at hP hw hmg hb hN hS hF
  have hK := B.hK
  dsimp only [Txt.C] at hK
  subst hW hP hw hmg hb hN hS hF hK
  exact ds_cons wkE (d_set (i := 2) (o := (.c .z)) sc_drawn_by.nd rfl (by first | exact .inl rfl | exact .inr rfl) (de_dnewK (o := .z)) rfl (by decide)) (ds_cons wkE (d_for wkE B.po B.cm (di_keys (de_var (i := 0) rfl rfl (by first | exact .inl rfl | exact .inr (.inl rfl) | exact .inr (.inr rfl)))) (dg_name (i := 3) sc_drawn_by.nd rfl (by first | exact .inl rfl | exact .inr rfl) rfl) (ds_kill (ks := [3, 4]) (ds_cons wkE (d_set (i := 4) (o := .z) sc_drawn_by.nd rfl (by first | exact .inl rfl | exact .inr rfl) (de_callB (call_maxL_D B.hK B.cm) (by rfl) T.n_max bt_max (da_cons (de_frz (de_lc (vs := [5]) (oe := .z) B.cm sc_drawn_by.nd (di_keys (de_var (i := 0) rfl rfl (by first | exact .inl rfl | exact .inr (.inl rfl) | exact .inr (.inr rfl)))) (blkOk_by (N := nm_drawn_by) (sc := defScope s_drawn_by) (own := [("other", 5)]) (by decide +kernel)) rfl (by decide) rfl (fun _ _ _ _ _ => dg_name (i := 5) sc_drawn_by.nd rfl (by first | exact .inl rfl | exact .inr rfl) rfl) (fun _ _ _ _ _ => dts_one (PW.pt (dw_or (dt_cmp (op_eq_D B.hK (hu64 B.hr)) (de_var (i := 5) rfl rfl (by first | exact .inl rfl | exact .inr (.inl rfl) | exact .inr (.inr rfl))) (de_var (i := 3) rfl rfl (by first | exact .inl rfl | exact .inr (.inl rfl) | exact .inr (.inr rfl))) (nomark _)) (dw_or1 (dt_cmp (op_in_D B.hK (hu65 B.hr)) (de_var (i := 3) rfl rfl (by first | exact .inl rfl | exact .inr (.inl rfl) | exact .inr (.inr rfl))) (de_ix B.hK (hu1 B.hr) (de_var (i := 1) rfl rfl (by first | exact .inl rfl | exact .inr (.inl rfl) | exact .inr (.inr rfl))) (de_var (i := 5) rfl rfl (by first | exact .inl rfl | exact .inr (.inl rfl) | exact .inr (.inr rfl))) (fun _ _ => rfl)) (by rfl)))))) (fun _ _ _ _ _ => de_ix B.hK (hu1 B.hr) (de_ix B.hK (hu1 B.hr) (de_var (i := 0) rfl rfl (by first | exact .inl rfl | exact .inr (.inl rfl) | exact .inr (.inr rfl))) (de_var (i := 5) rfl rfl (by first | exact .inl rfl | exact .inr (.inl rfl) | exact .inr (.inr rfl))) (fun _ _ => rfl)) de_int (fun _ _ => rfl)))) da_nil)) rfl (by decide)) (ds_one (d_asg (de_tup (da_cons (de_var (i := 4) rfl rfl (by first | exact .inl rfl | exact .inr (.inl rfl) | exact .inr (.inr rfl))) (da_cons (de_callB (call_minL_D B.hK B.cm) (by rfl) T.n_min bt_min (da_cons (de_frz (de_lc (vs := [5]) (oe := .z) B.cm sc_drawn_by.nd (di_val B.hK (de_bin (op_add_D B.hK) (de_lst (da_cons (de_var (i := 3) rfl rfl (by first | exact .inl rfl | exact .inr (.inl rfl) | exact .inr (.inr rfl))) da_nil)) (de_ix B.hK (hu1 B.hr) (de_var (i := 1) rfl rfl (by first | exact .inl rfl | exact .inr (.inl rfl) | exact .inr (.inr rfl))) (de_var (i := 3) rfl rfl (by first | exact .inl rfl | exact .inr (.inl rfl) | exact .inr (.inr rfl))) (fun _ _ => rfl)))) (blkOk_by (N := nm_drawn_by) (sc := defScope s_drawn_by) (own := [("other", 5)]) (by decide +kernel)) rfl (by decide) rfl (fun _ _ _ _ _ => dg_name (i := 5) sc_drawn_by.nd rfl (by first | exact .inl rfl | exact .inr rfl) rfl) (fun _ _ _ _ _ => dts_nil) (fun _ _ _ _ _ => de_ix B.hK (hu1 B.hr) (de_ix B.hK (hu1 B.hr) (de_var (i := 0) rfl rfl (by first | exact .inl rfl | exact .inr (.inl rfl) | exact .inr (.inr rfl))) (de_var (i := 5) rfl rfl (by first | exact .inl rfl | exact .inr (.inl rfl) | exact .inr (.inr rfl))) (fun _ _ => rfl)) de_int (fun _ _ => rfl)))) da_nil)) da_nil))) (dg_sub (i := 2) (hu1 B.hr) rfl rfl (by first | exact .inl rfl | exact .inr (.inl rfl) | exact .inr (.inr rfl)) (de_var (i := 3) rfl rfl (by first | exact .inl rfl | exact .inr (.inl rfl) | exact .inr (.inr rfl)))) rfl)))) rfl) (ds_one (d_ret (G' := [.z, .z, (.c .z), .z, .z, .z]) rfl (de_frz (de_mv (i := 2) rfl rfl (by first | exact .inl rfl | exact .inr (.inl rfl) | exact .inr (.inr rfl)))))))
set_option maxRecDepth 4000 in
theorem ok_Yard_boxes (T : Txt K mg) : DL.FnOk P w K mg base (L2.CX P w) 1 T.f_Yard_boxes T.d_Yard_boxes ["self"] (spD T.C sg_Yard_boxes mir_Yard_boxes) := by
  refine fn_mk (S := sg_Yard_boxes) (ft := false) (n := 0) (body := b_Yard_boxes) (G' := [.z]) rfl T.F_Yard_boxes sc_Yard_boxes rfl rfl rfl (fun h => nomatch h) ?_
  rintro ⟨prog, w2, K2, mg2, base2, A, N, s0, H0, ⟨scope, e2, e3, e4, e5, e6, e7, e8, e9⟩, outer, stack, ex, fn, calm, pn, xe⟩ E W hW hP hw hmg hb hN hS hF B hst hfr
  dsimp only at hP hw hmg hb hN hS hF
  have hK := B.hK
  dsimp only [Txt.C] at hK
  subst hW hP hw hmg hb hN hS hF hK
  exact ds_one (d_ret (G' := [.z]) rfl (de_frz (de_callTy (call_list_D B.hK) (by rfl) T.n_list bt_list (da_cons (de_fld B.hK T.h_Yard T.c_Yard T.a_Yard_own_boxes (de_var (i := 0) rfl rfl (by first | exact .inl rfl | exact .inr (.inl rfl) | exact .inr (.inr rfl)))) da_nil))))
set_option maxRecDepth 4000 in
theorem ok_next_boxes (T : Txt K mg) : DL.FnOk P w K mg base (L2.CX P w) 2 T.f_next_boxes T.d_next_boxes ["yard", "facts"] (spD T.C sg_next_boxes mir_next_boxes) := by
  refine fn_mk (S := sg_next_boxes) (ft := false) (n := 3) (body := b_next_boxes) (G' := [.z, .z, (.c (.c .z)), .z, .z]) rfl T.F_next_boxes sc_next_boxes rfl rfl rfl (fun h => nomatch h) ?_
  rintro ⟨prog, w2, K2, mg2, base2, A, N, s0, H0, ⟨scope, e2, e3, e4, e5, e6, e7, e8, e9⟩, outer, stack, ex, fn, calm, pn, xe⟩ E W hW hP hw hmg hb hN hS hF B hst hfr
  dsimp only at hP hw hmg hb hN hS hF
  have hK := B.hK
  dsimp only [Txt.C] at hK
  subst hW hP hw hmg hb hN hS hF hK
  exact ds_cons wkE (d_setDcN (i := 2) (oe := (.c .z))  B.cm sc_next_boxes.nd rfl rfl (swD_true rfl rfl rfl (by decide +kernel)) (di_val B.hK (de_methI0 (S := sg_Yard_boxes) (n := 1) T.h_Yard (E := E) rfl B.tk rfl (de_var (i := 0) rfl rfl (by first | exact .inl rfl | exact .inr (.inl rfl) | exact .inr (.inr rfl))) T.c_Yard T.t_Yard_boxes (ok_Yard_boxes T) B.hr (by decide) T.B_Yard_boxes)) (blkOk_by (N := nm_next_boxes) (sc := defScope s_next_boxes) (own := [("box", 4)]) (by decide +kernel)) rfl (by decide) rfl (fun _ _ _ _ _ => dg_name (i := 4) sc_next_boxes.nd rfl (by first | exact .inl rfl | exact .inr rfl) rfl) (fun _ _ _ _ _ => dts_nil) (fun _ _ _ _ _ => de_var (i := 4) rfl rfl (by first | exact .inl rfl | exact .inr (.inl rfl) | exact .inr (.inr rfl))) (fun _ _ _ _ _ => de_nilO (o := .z)) rfl (by decide)) (ds_cons wkE (d_for wkE B.po B.cm (di_val B.hK (de_var (i := 1) rfl rfl (by first | exact .inl rfl | exact .inr (.inl rfl) | exact .inr (.inr rfl)))) (dg_name (i := 3) sc_next_boxes.nd rfl (by first | exact .inl rfl | exact .inr rfl) rfl) (ds_kill (ks := [3]) (ds_one (d_if wkE (PW.pt (dw_and (dt_cmp (op_eq_D B.hK (hu64 B.hr)) (de_ix B.hK (hu1 B.hr) (de_var (i := 3) rfl rfl (by first | exact .inl rfl | exact .inr (.inl rfl) | exact .inr (.inr rfl))) de_int (fun _ _ => rfl)) (de_glob (v := .str "ahead") (by rfl) T.g_AHEAD_days ⟨_, rfl⟩ fun _ => .str _) (nomark _)) (dw_and1 (dt_view (dt_cmp (op_nin_D B.hK (hu65 B.hr)) (de_ix B.hK (hu1 B.hr) (de_var (i := 3) rfl rfl (by first | exact .inl rfl | exact .inr (.inl rfl) | exact .inr (.inr rfl))) de_int (fun _ _ => rfl)) (de_ix B.hK (hu1 B.hr) (de_var (i := 2) rfl rfl (by first | exact .inl rfl | exact .inr (.inl rfl) | exact .inr (.inr rfl))) (de_ix B.hK (hu1 B.hr) (de_var (i := 3) rfl rfl (by first | exact .inl rfl | exact .inr (.inl rfl) | exact .inr (.inr rfl))) de_int (fun _ _ => rfl)) (fun _ _ => rfl)) (by rfl)))))) (ds_one (d_drop (de_methN (n := 1) (i := 2) (hu1 B.hr) PySem.F.plainAttrs_list PySem.F.slot_list_append PySem.F.type_list_append me_append rfl rfl (by first | exact .inl rfl | exact .inr (.inl rfl) | exact .inr (.inr rfl)) (de_ix B.hK (hu1 B.hr) (de_var (i := 3) rfl rfl (by first | exact .inl rfl | exact .inr (.inl rfl) | exact .inr (.inr rfl))) de_int (fun _ _ => rfl)) (fun _ _ => rfl) (da_cons (de_ix B.hK (hu1 B.hr) (de_var (i := 3) rfl rfl (by first | exact .inl rfl | exact .inr (.inl rfl) | exact .inr (.inr rfl))) de_int (fun _ _ => rfl)) da_nil)))) ds_nil))) rfl) (ds_one (d_ret (G' := [.z, .z, (.c (.c .z)), .z, .z]) rfl (de_frz (de_mv (i := 2) rfl rfl (by first | exact .inl rfl | exact .inr (.inl rfl) | exact .inr (.inr rfl)))))))
set_option maxRecDepth 4000 in
theorem ok_boxes_behind (T : Txt K mg) : DL.FnOk P w K mg base (L2.CX P w) 1 T.f_boxes_behind T.d_boxes_behind ["nexts", "box"] (spD T.C sg_boxes_behind mir_boxes_behind) := by
  refine fn_mk (S := sg_boxes_behind) (ft := false) (n := 3) (body := b_boxes_behind) (G' := [.z, .z, (.c .z), .z, .z]) rfl T.F_boxes_behind sc_boxes_behind rfl rfl rfl (fun h => nomatch h) ?_
  rintro ⟨prog, w2, K2, mg2, base2, A, N, s0, H0, ⟨scope, e2, e3, e4, e5, e6, e7, e8, e9⟩, outer, stack, ex, fn, calm, pn, xe⟩ E W hW hP hw hmg hb hN hS hF B hst hfr
  dsimp only at hP hw hmg hb hN hS hF
  have hK := B.hK
  dsimp only [Txt.C] at hK
  subst hW hP hw hmg hb hN hS hF hK
  exact ds_cons wkE (d_tup (is := [2, 3]) (os := [(.c .z), .z]) B.cm (dm_cons (de_callTy (call_list_D B.hK) (by rfl) T.n_list bt_list (da_cons (de_ix B.hK (hu1 B.hr) (de_var (i := 0) rfl rfl (by first | exact .inl rfl | exact .inr (.inl rfl) | exact .inr (.inr rfl))) (de_var (i := 1) rfl rfl (by first | exact .inl rfl | exact .inr (.inl rfl) | exact .inr (.inr rfl))) (fun _ _ => rfl)) da_nil)) (dm_cons de_int dm_nil)) (pgs_names (i := 2) sc_boxes_behind.nd rfl (by first | exact .inl rfl | exact .inr rfl) (pgs_names (i := 3) sc_boxes_behind.nd rfl (by first | exact .inl rfl | exact .inr rfl) pgs_names0)) rfl rfl) (ds_cons wkE (d_while (n := 100) wkE B.po (dt_view (dt_cmp (op_lt_D B.hK (hu0 B.hr)) (de_var (i := 3) rfl rfl (by first | exact .inl rfl | exact .inr (.inl rfl) | exact .inr (.inr rfl))) (de_callB (call_len_D B.hK) (by rfl) T.n_len PySem.boot_len (da_cons (de_var (i := 2) rfl rfl (by first | exact .inl rfl | exact .inr (.inl rfl) | exact .inr (.inr rfl))) da_nil)) (nomark _))) (ds_cons wkE (d_drop (de_meth (i := 2) (.inl ⟨rfl, rfl⟩) PySem.F.plainAttrs_list PySem.F.slot_list_extend PySem.F.type_list_extend me_extend rfl rfl (by first | exact .inl rfl | exact .inr (.inl rfl) | exact .inr (.inr rfl)) (dm_cons (de_frz (de_lc (vs := [4]) (oe := .z) B.cm sc_boxes_behind.nd (di_val B.hK (de_ix B.hK (hu1 B.hr) (de_var (i := 0) rfl rfl (by first | exact .inl rfl | exact .inr (.inl rfl) | exact .inr (.inr rfl))) (de_ixO (i := 2) (hu1 B.hr) rfl rfl (by first | exact .inl rfl | exact .inr (.inl rfl) | exact .inr (.inr rfl)) (de_var (i := 3) rfl rfl (by first | exact .inl rfl | exact .inr (.inl rfl) | exact .inr (.inr rfl))) (fun _ _ => rfl)) (fun _ _ => rfl))) (blkOk_by (N := nm_boxes_behind) (sc := defScope s_boxes_behind) (own := [("other", 4)]) (by decide +kernel)) rfl (by decide) rfl (fun _ _ _ _ _ => dg_name (i := 4) sc_boxes_behind.nd rfl (by first | exact .inl rfl | exact .inr rfl) rfl) (fun _ _ _ _ _ => dts_one (dt_view (dt_cmp (op_nin_D B.hK (hu65 B.hr)) (de_var (i := 4) rfl rfl (by first | exact .inl rfl | exact .inr (.inl rfl) | exact .inr (.inr rfl))) (de_var (i := 2) rfl rfl (by first | exact .inl rfl | exact .inr (.inl rfl) | exact .inr (.inr rfl))) (by rfl)))) (fun _ _ _ _ _ => de_var (i := 4) rfl rfl (by first | exact .inl rfl | exact .inr (.inl rfl) | exact .inr (.inr rfl))))) dm_nil))) (ds_one (d_augI (i := 3) sc_boxes_behind.nd rfl (by first | exact .inl rfl | exact .inr rfl) rfl de_int ip_add rfl)))) (ds_one (d_ret (G' := [.z, .z, (.c .z), .z, .z]) rfl (de_frz (de_mv (i := 2) rfl rfl (by first | exact .inl rfl | exact .inr (.inl rfl) | exact .inr (.inr rfl)))))))
set_option maxRecDepth 4000 in
theorem ok_ways_of (T : Txt K mg) : DL.FnOk P w K mg base (L2.CX P w) 3 T.f_ways_of T.d_ways_of ["yard", "facts"] (spD T.C sg_ways_of mir_ways_of) := by
  refine fn_mk (S := sg_ways_of) (ft := false) (n := 2) (body := b_ways_of) (G' := [.z, .z, .z, .z]) rfl T.F_ways_of sc_ways_of rfl rfl rfl (fun h => nomatch h) ?_
  rintro ⟨prog, w2, K2, mg2, base2, A, N, s0, H0, ⟨scope, e2, e3, e4, e5, e6, e7, e8, e9⟩, outer, stack, ex, fn, calm, pn, xe⟩ E W hW hP hw hmg hb hN hS hF B hst hfr
  dsimp only at hP hw hmg hb hN hS hF
  have hK := B.hK
  dsimp only [Txt.C] at hK
  subst hW hP hw hmg hb hN hS hF hK
  exact ds_cons wkE (d_set (i := 2) (o := .z) sc_ways_of.nd rfl (by first | exact .inl rfl | exact .inr rfl) (de_call (S := sg_next_boxes) (E := E) (ok_next_boxes T) B.hr (by decide) (by rfl) T.m_next_boxes T.k_next_boxes T.B_next_boxes B.tk rfl (by decide) (dm_cons (de_var (i := 0) rfl rfl (by first | exact .inl rfl | exact .inr (.inl rfl) | exact .inr (.inr rfl))) (dm_cons (de_var (i := 1) rfl rfl (by first | exact .inl rfl | exact .inr (.inl rfl) | exact .inr (.inr rfl))) dm_nil))) rfl (by decide)) (ds_one (d_ret (G' := [.z, .z, .z, .z]) rfl (de_frz (de_dc (vs := [3]) B.cm sc_ways_of.nd (di_val B.hK (de_methI0 (S := sg_Yard_boxes) (n := 1) T.h_Yard (E := E) rfl B.tk rfl (de_var (i := 0) rfl rfl (by first | exact .inl rfl | exact .inr (.inl rfl) | exact .inr (.inr rfl))) T.c_Yard T.t_Yard_boxes (ok_Yard_boxes T) B.hr (by decide) T.B_Yard_boxes)) (blkOk_by (N := nm_ways_of) (sc := defScope s_ways_of) (own := [("box", 3)]) (by decide +kernel)) rfl (by decide) rfl (fun _ _ _ _ _ => dg_name (i := 3) sc_ways_of.nd rfl (by first | exact .inl rfl | exact .inr rfl) rfl) (fun _ _ _ _ _ => dts_nil) (fun _ _ _ _ _ => de_var (i := 3) rfl rfl (by first | exact .inl rfl | exact .inr (.inl rfl) | exact .inr (.inr rfl))) (fun _ _ _ _ _ => de_call (S := sg_boxes_behind) (E := nE) (ok_boxes_behind T) B.hr (by decide) (by rfl) T.m_boxes_behind T.k_boxes_behind T.B_boxes_behind takesW0 rfl (by decide) (dm_cons (de_var (i := 2) rfl rfl (by first | exact .inl rfl | exact .inr (.inl rfl) | exact .inr (.inr rfl))) (dm_cons (de_var (i := 3) rfl rfl (by first | exact .inl rfl | exact .inr (.inl rfl) | exact .inr (.inr rfl))) dm_nil)))))))
set_option maxRecDepth 4000 in
theorem ok_Yard_days (T : Txt K mg) : DL.FnOk P w K mg base (L2.CX P w) 1 T.f_Yard_days T.d_Yard_days ["self"] (spD T.C sg_Yard_days mir_Yard_days) := by
  refine fn_mk (S := sg_Yard_days) (ft := false) (n := 0) (body := b_Yard_days) (G' := [.z]) rfl T.F_Yard_days sc_Yard_days rfl rfl rfl (fun h => nomatch h) ?_
  rintro ⟨prog, w2, K2, mg2, base2, A, N, s0, H0, ⟨scope, e2, e3, e4, e5, e6, e7, e8, e9⟩, outer, stack, ex, fn, calm, pn, xe⟩ E W hW hP hw hmg hb hN hS hF B hst hfr
  dsimp only at hP hw hmg hb hN hS hF
  have hK := B.hK
  dsimp only [Txt.C] at hK
  subst hW hP hw hmg hb hN hS hF hK
  exact ds_one (d_ret (G' := [.z]) rfl (de_fld B.hK T.h_Yard T.c_Yard T.a_Yard_own_days (de_var (i := 0) rfl rfl (by first | exact .inl rfl | exact .inr (.inl rfl) | exact .inr (.inr rfl)))))
set_option maxRecDepth 4000 in
theorem ok_told_days (T : Txt K mg) : DL.FnOk P w K mg base (L2.CX P w) 3 T.f_told_days T.d_told_days ["yard", "facts"] (spD T.C sg_told_days mir_told_days) := by
  refine fn_mk (S := sg_told_days) (ft := false) (n := 8) (body := b_told_days) (G' := [.z, .z, (.c .z), .z, .z, .z, .z, .z, .z, .z]) rfl T.F_told_days sc_told_days rfl rfl rfl (fun h => nomatch h) ?_
  rintro ⟨prog, w2, K2, mg2, base2, A, N, s0, H0, ⟨scope, e2, e3, e4, e5, e6, e7, e8, e9⟩, outer, stack, ex, fn, calm, pn, xe⟩ E W hW hP hw hmg hb hN hS hF B hst hfr
  dsimp only at hP hw hmg hb hN hS hF
  have hK := B.hK
  dsimp only [Txt.C] at hK
  subst hW hP hw hmg hb hN hS hF hK
  exact ds_cons wkE (d_setDc (i := 2)  B.cm sc_told_days.nd rfl rfl (swD_true rfl rfl rfl (by decide +kernel)) (di_val B.hK (de_methI0 (S := sg_Yard_boxes) (n := 1) T.h_Yard (E := E) rfl B.tk rfl (de_var (i := 0) rfl rfl (by first | exact .inl rfl | exact .inr (.inl rfl) | exact .inr (.inr rfl))) T.c_Yard T.t_Yard_boxes (ok_Yard_boxes T) B.hr (by decide) T.B_Yard_boxes)) (blkOk_by (N := nm_told_days) (sc := defScope s_told_days) (own := [("box", 4)]) (by decide +kernel)) rfl (by decide) rfl (fun _ _ _ _ _ => dg_name (i := 4) sc_told_days.nd rfl (by first | exact .inl rfl | exact .inr rfl) rfl) (fun _ _ _ _ _ => dts_nil) (fun _ _ _ _ _ => de_var (i := 4) rfl rfl (by first | exact .inl rfl | exact .inr (.inl rfl) | exact .inr (.inr rfl))) (fun _ _ _ _ _ => de_tup (da_cons de_int (da_cons (de_prop (S := sg_Yard_days) T.h_Yard rfl (de_var (i := 0) rfl rfl (by first | exact .inl rfl | exact .inr (.inl rfl) | exact .inr (.inr rfl))) T.c_Yard T.p_Yard_days (ok_Yard_days T) B.hr (by decide) T.B_Yard_days takes0n) da_nil))) rfl (by decide)) (ds_cons wkE (d_for wkE B.po B.cm (di_val B.hK (de_var (i := 1) rfl rfl (by first | exact .inl rfl | exact .inr (.inl rfl) | exact .inr (.inr rfl)))) (dg_name (i := 3) sc_told_days.nd rfl (by first | exact .inl rfl | exact .inr rfl) rfl) (ds_kill (ks := [3, 4, 5, 6, 7, 8, 9]) (ds_one (d_if wkE (dt_cmp (op_eq_D B.hK (hu64 B.hr)) (de_ix B.hK (hu1 B.hr) (de_var (i := 3) rfl rfl (by first | exact .inl rfl | exact .inr (.inl rfl) | exact .inr (.inr rfl))) de_int (fun _ _ => rfl)) (de_glob (v := .str "days") (by rfl) T.g_DAYS_days ⟨_, rfl⟩ fun _ => .str _) (nomark _)) (ds_cons wkE (d_asg (de_var (i := 3) rfl rfl (by first | exact .inl rfl | exact .inr (.inl rfl) | exact .inr (.inr rfl))) (dg_tup B.hK B.cm (dgs_cons (dg_name (i := 5) sc_told_days.nd rfl (by first | exact .inl rfl | exact .inr rfl) rfl) (dgs_cons (dg_name (i := 4) sc_told_days.nd rfl (by first | exact .inl rfl | exact .inr rfl) rfl) (dgs_cons (dg_name (i := 6) sc_told_days.nd rfl (by first | exact .inl rfl | exact .inr rfl) rfl) (dgs_cons (dg_name (i := 7) sc_told_days.nd rfl (by first | exact .inl rfl | exact .inr rfl) rfl) dgs_nil)))) rfl) rfl) (ds_cons wkE (d_asg (de_ixO (i := 2) (hu1 B.hr) rfl rfl (by first | exact .inl rfl | exact .inr (.inl rfl) | exact .inr (.inr rfl)) (de_var (i := 4) rfl rfl (by first | exact .inl rfl | exact .inr (.inl rfl) | exact .inr (.inr rfl))) (fun _ _ => rfl)) (dg_tup B.hK B.cm (dgs_cons (dg_name (i := 8) sc_told_days.nd rfl (by first | exact .inl rfl | exact .inr rfl) rfl) (dgs_cons (dg_name (i := 9) sc_told_days.nd rfl (by first | exact .inl rfl | exact .inr rfl) rfl) dgs_nil)) rfl) rfl) (ds_one (d_asg (de_tup (da_cons (de_callB (call_max2_D B.cm) (by rfl) T.n_max bt_max (da_cons (de_var (i := 8) rfl rfl (by first | exact .inl rfl | exact .inr (.inl rfl) | exact .inr (.inr rfl))) (da_cons (de_var (i := 6) rfl rfl (by first | exact .inl rfl | exact .inr (.inl rfl) | exact .inr (.inr rfl))) da_nil))) (da_cons (de_callB (call_min2_D B.cm) (by rfl) T.n_min bt_min (da_cons (de_var (i := 9) rfl rfl (by first | exact .inl rfl | exact .inr (.inl rfl) | exact .inr (.inr rfl))) (da_cons (de_var (i := 7) rfl rfl (by first | exact .inl rfl | exact .inr (.inl rfl) | exact .inr (.inr rfl))) da_nil))) da_nil))) (dg_sub (i := 2) (hu1 B.hr) rfl rfl (by first | exact .inl rfl | exact .inr (.inl rfl) | exact .inr (.inr rfl)) (de_var (i := 4) rfl rfl (by first | exact .inl rfl | exact .inr (.inl rfl) | exact .inr (.inr rfl)))) rfl)))) ds_nil))) rfl) (ds_one (d_ret (G' := [.z, .z, (.c .z), .z, .z, .z, .z, .z, .z, .z]) rfl (de_frz (de_mv (i := 2) rfl rfl (by first | exact .inl rfl | exact .inr (.inl rfl) | exact .inr (.inr rfl)))))))
set_option maxRecDepth 4000 in
theorem ok_drawn_days (T : Txt K mg) : DL.FnOk P w K mg base (L2.CX P w) 4 T.f_drawn_days T.d_drawn_days ["yard", "facts"] (spD T.C sg_drawn_days mir_drawn_days) := by
  refine fn_mk (S := sg_drawn_days) (ft := false) (n := 0) (body := b_drawn_days) (G' := [.z, .z]) rfl T.F_drawn_days sc_drawn_days rfl rfl rfl (fun h => nomatch h) ?_
  rintro ⟨prog, w2, K2, mg2, base2, A, N, s0, H0, ⟨scope, e2, e3, e4, e5, e6, e7, e8, e9⟩, outer, stack, ex, fn, calm, pn, xe⟩ E W hW hP hw hmg hb hN hS hF B hst hfr
  dsimp only at hP hw hmg hb hN hS hF
  have hK := B.hK
  dsimp only [Txt.C] at hK
  subst hW hP hw hmg hb hN hS hF hK
  exact ds_one (d_ret (G' := [.z, .z]) rfl (de_call (S := sg_drawn_by) (E := E) (ok_drawn_by T) B.hr (by decide) (by rfl) T.m_drawn_by T.k_drawn_by T.B_drawn_by B.tk rfl (by decide) (dm_cons (de_call (S := sg_told_days) (E := E) (ok_told_days T) B.hr (by decide) (by rfl) T.m_told_days T.k_told_days T.B_told_days B.tk rfl (by decide) (dm_cons (de_var (i := 0) rfl rfl (by first | exact .inl rfl | exact .inr (.inl rfl) | exact .inr (.inr rfl))) (dm_cons (de_var (i := 1) rfl rfl (by first | exact .inl rfl | exact .inr (.inl rfl) | exact .inr (.inr rfl))) dm_nil))) (dm_cons (de_call (S := sg_ways_of) (E := E) (ok_ways_of T) B.hr (by decide) (by rfl) T.m_ways_of T.k_ways_of T.B_ways_of B.tk rfl (by decide) (dm_cons (de_var (i := 0) rfl rfl (by first | exact .inl rfl | exact .inr (.inl rfl) | exact .inr (.inr rfl))) (dm_cons (de_var (i := 1) rfl rfl (by first | exact .inl rfl | exact .inr (.inl rfl) | exact .inr (.inr rfl))) dm_nil))) dm_nil))))
set_option maxRecDepth 4000 in
theorem ok_Yard_facts (T : Txt K mg) : DL.FnOk P w K mg base (L2.CX P w) 1 T.f_Yard_facts T.d_Yard_facts ["self"] (spD T.C sg_Yard_facts mir_Yard_facts) := by
  refine fn_mk (S := sg_Yard_facts) (ft := false) (n := 0) (body := b_Yard_facts) (G' := [.z]) rfl T.F_Yard_facts sc_Yard_facts rfl rfl rfl (fun h => nomatch h) ?_
  rintro ⟨prog, w2, K2, mg2, base2, A, N, s0, H0, ⟨scope, e2, e3, e4, e5, e6, e7, e8, e9⟩, outer, stack, ex, fn, calm, pn, xe⟩ E W hW hP hw hmg hb hN hS hF B hst hfr
  dsimp only at hP hw hmg hb hN hS hF
  have hK := B.hK
  dsimp only [Txt.C] at hK
  subst hW hP hw hmg hb hN hS hF hK
  exact ds_one (d_ret (G' := [.z]) rfl (de_frz (de_callTy (call_list_D B.hK) (by rfl) T.n_list bt_list (da_cons (de_fld B.hK T.h_Yard T.c_Yard T.a_Yard_own_facts (de_var (i := 0) rfl rfl (by first | exact .inl rfl | exact .inr (.inl rfl) | exact .inr (.inr rfl)))) da_nil))))
set_option maxRecDepth 4000 in
theorem ok_drawn (T : Txt K mg) : DL.FnOk P w K mg base (L2.CX P w) 5 T.f_drawn T.d_drawn ["yard", "box"] (spD T.C sg_drawn mir_drawn) := by
  refine fn_mk (S := sg_drawn) (ft := false) (n := 0) (body := b_drawn) (G' := [.z, .z]) rfl T.F_drawn sc_drawn rfl rfl rfl (fun h => nomatch h) ?_
  rintro ⟨prog, w2, K2, mg2, base2, A, N, s0, H0, ⟨scope, e2, e3, e4, e5, e6, e7, e8, e9⟩, outer, stack, ex, fn, calm, pn, xe⟩ E W hW hP hw hmg hb hN hS hF B hst hfr
  dsimp only at hP hw hmg hb hN hS hF
  have hK := B.hK
  dsimp only [Txt.C] at hK
  subst hW hP hw hmg hb hN hS hF hK
  exact ds_cons wkE (d_drop (de_call (S := sg_want_box) (E := E) (ok_want_box T) B.hr (by decide) (by rfl) T.m_want_box T.k_want_box T.B_want_box B.tk rfl (by decide) (dm_cons (de_var (i := 0) rfl rfl (by first | exact .inl rfl | exact .inr (.inl rfl) | exact .inr (.inr rfl))) (dm_cons (de_var (i := 1) rfl rfl (by first | exact .inl rfl | exact .inr (.inl rfl) | exact .inr (.inr rfl))) dm_nil)))) (ds_one (d_ret (G' := [.z, .z]) rfl (de_ix B.hK (hu1 B.hr) (de_call (S := sg_drawn_days) (E := E) (ok_drawn_days T) B.hr (by decide) (by rfl) T.m_drawn_days T.k_drawn_days T.B_drawn_days B.tk rfl (by decide) (dm_cons (de_var (i := 0) rfl rfl (by first | exact .inl rfl | exact .inr (.inl rfl) | exact .inr (.inr rfl))) (dm_cons (de_methI0 (S := sg_Yard_facts) (n := 1) T.h_Yard (E := E) rfl B.tk rfl (de_var (i := 0) rfl rfl (by first | exact .inl rfl | exact .inr (.inl rfl) | exact .inr (.inr rfl))) T.c_Yard T.t_Yard_facts (ok_Yard_facts T) B.hr (by decide) T.B_Yard_facts) dm_nil))) (de_var (i := 1) rfl rfl (by first | exact .inl rfl | exact .inr (.inl rfl) | exact .inr (.inr rfl))) (fun _ _ => rfl))))
set_option maxRecDepth 4000 in
theorem ok_law_drawn (T : Txt K mg) : DL.FnOk P w K mg base (L2.CX P w) 1 T.f_law_drawn T.d_law_drawn ["_law_model_here"] (spD T.C sg_law_drawn mir_law_drawn) := by
  refine fn_mk (S := sg_law_drawn) (ft := false) (n := 7) (body := b_law_drawn) (G' := [.z, .z, .z, .z, .z, .z, .z, .z]) rfl T.F_law_drawn sc_law_drawn rfl rfl rfl (fun h => nomatch h) ?_
  rintro ⟨prog, w2, K2, mg2, base2, A, N, s0, H0, ⟨scope, e2, e3, e4, e5, e6, e7, e8, e9⟩, outer, stack, ex, fn, calm, pn, xe⟩ E W hW hP hw hmg hb hN hS hF B hst hfr
  dsimp only at hP hw hmg hb hN hS hF
  have hK := B.hK
  dsimp only [Txt.C] at hK
  subst hW hP hw hmg hb hN hS hF hK
  exact ds_cons wkE (d_set (i := 1) (o := (.c (.c .z))) sc_law_drawn.nd rfl (by first | exact .inl rfl | exact .inr rfl) (de_dcP (vs := [7]) (oe := (.c .z)) (by rfl) T.n_dict B.cm sc_law_drawn.nd (di_val B.hK (de_ix B.hK (hu1 B.hr) (de_var (i := 0) rfl rfl (by first | exact .inl rfl | exact .inr (.inl rfl) | exact .inr (.inr rfl))) de_str (fun _ _ => rfl))) (blkOk_by (N := nm_law_drawn) (sc := defScope s_law_drawn) (own := [("_law_label", 7)]) (by decide +kernel)) rfl (by decide) rfl (fun _ _ _ _ _ => dg_name (i := 7) sc_law_drawn.nd rfl (by first | exact .inl rfl | exact .inr rfl) rfl) (fun _ _ _ _ _ => dts_nil) (fun _ _ _ _ _ => de_var (i := 7) rfl rfl (by first | exact .inl rfl | exact .inr (.inl rfl) | exact .inr (.inr rfl))) (fun _ _ _ _ _ => de_lstO (da_cons de_int (da_cons (de_ix B.hK (hu1 B.hr) (de_var (i := 0) rfl rfl (by first | exact .inl rfl | exact .inr (.inl rfl) | exact .inr (.inr rfl))) de_str (fun _ _ => rfl)) da_nil)))) rfl (by decide)) (ds_cons wkE (d_for wkE B.po B.cm (di_val B.hK (de_frz (de_lc (vs := [2]) (oe := .z) B.cm sc_law_drawn.nd (di_val B.hK (de_ix B.hK (hu1 B.hr) (de_var (i := 0) rfl rfl (by first | exact .inl rfl | exact .inr (.inl rfl) | exact .inr (.inr rfl))) de_str (fun _ _ => rfl))) (blkOk_by (N := nm_law_drawn) (sc := defScope s_law_drawn) (own := [("_law_told_here", 2)]) (by decide +kernel)) rfl (by decide) rfl (fun _ _ _ _ _ => dg_name (i := 2) sc_law_drawn.nd rfl (by first | exact .inl rfl | exact .inr rfl) rfl) (fun _ _ _ _ _ => dts_one (dt_cmp (op_eq_D B.hK (hu64 B.hr)) (de_ix B.hK (hu1 B.hr) (de_var (i := 2) rfl rfl (by first | exact .inl rfl | exact .inr (.inl rfl) | exact .inr (.inr rfl))) de_int (fun _ _ => rfl)) de_str (nomark _))) (fun _ _ _ _ _ => de_var (i := 2) rfl rfl (by first | exact .inl rfl | exact .inr (.inl rfl) | exact .inr (.inr rfl)))))) (dg_name (i := 2) sc_law_drawn.nd rfl (by first | exact .inl rfl | exact .inr rfl) rfl) (ds_kill (ks := [2]) (ds_one (d_setN (i := 1) wkE (de_lstO (da_cons (de_callB (call_max2_D B.cm) (by rfl) T.n_max bt_max (da_cons (de_view (de_ix B.hK (hu1 B.hr) (de_ix B.hK (hu1 B.hr) (de_var (i := 1) rfl rfl (by first | exact .inl rfl | exact .inr (.inl rfl) | exact .inr (.inr rfl))) (de_ix B.hK (hu1 B.hr) (de_var (i := 2) rfl rfl (by first | exact .inl rfl | exact .inr (.inl rfl) | exact .inr (.inr rfl))) de_int (fun _ _ => rfl)) (fun _ _ => rfl)) de_int (fun _ _ => rfl))) (da_cons (de_ix B.hK (hu1 B.hr) (de_var (i := 2) rfl rfl (by first | exact .inl rfl | exact .inr (.inl rfl) | exact .inr (.inr rfl))) de_int (fun _ _ => rfl)) da_nil))) (da_cons (de_callB (call_min2_D B.cm) (by rfl) T.n_min bt_min (da_cons (de_view (de_ix B.hK (hu1 B.hr) (de_ix B.hK (hu1 B.hr) (de_var (i := 1) rfl rfl (by first | exact .inl rfl | exact .inr (.inl rfl) | exact .inr (.inr rfl))) (de_ix B.hK (hu1 B.hr) (de_var (i := 2) rfl rfl (by first | exact .inl rfl | exact .inr (.inl rfl) | exact .inr (.inr rfl))) de_int (fun _ _ => rfl)) (fun _ _ => rfl)) de_int (fun _ _ => rfl))) (da_cons (de_ix B.hK (hu1 B.hr) (de_var (i := 2) rfl rfl (by first | exact .inl rfl | exact .inr (.inl rfl) | exact .inr (.inr rfl))) de_int (fun _ _ => rfl)) da_nil))) da_nil))) (dg_setN (i := 1) (hu1 B.hr) rfl rfl (by first | exact .inl rfl | exact .inr (.inl rfl) | exact .inr (.inr rfl)) (de_ix B.hK (hu1 B.hr) (de_var (i := 2) rfl rfl (by first | exact .inl rfl | exact .inr (.inl rfl) | exact .inr (.inr rfl))) de_int (fun _ _ => rfl)))))) rfl) (ds_cons wkE (d_setLc (i := 3) (oe := .z) B.cm sc_law_drawn.nd rfl rfl (sw_true rfl rfl rfl (by decide +kernel)) (di_val B.hK (de_ix B.hK (hu1 B.hr) (de_var (i := 0) rfl rfl (by first | exact .inl rfl | exact .inr (.inl rfl) | exact .inr (.inr rfl))) de_str (fun _ _ => rfl))) (blkOk_by (N := nm_law_drawn) (sc := defScope s_law_drawn) (own := [("_law_told_here", 2)]) (by decide +kernel)) rfl (by decide) rfl (fun _ _ _ _ _ => dg_name (i := 2) sc_law_drawn.nd rfl (by first | exact .inl rfl | exact .inr rfl) rfl) (fun _ _ _ _ _ => dts_one (dt_cmp (op_eq_D B.hK (hu64 B.hr)) (de_ix B.hK (hu1 B.hr) (de_var (i := 2) rfl rfl (by first | exact .inl rfl | exact .inr (.inl rfl) | exact .inr (.inr rfl))) de_int (fun _ _ => rfl)) de_str (nomark _))) (fun _ _ _ _ _ => de_sl B.hK (de_var (i := 2) rfl rfl (by first | exact .inl rfl | exact .inr (.inl rfl) | exact .inr (.inr rfl))) (do_int de_int) do_none) rfl (by decide)) (ds_le wkE (G1 := [.z, (.c (.c .z)), .z, .z, .z, .z, .z, .z]) rfl (ds_cons wkE (d_for wkE B.po B.cm (di_val B.hK (de_ix B.hK (hu1 B.hr) (de_var (i := 0) rfl rfl (by first | exact .inl rfl | exact .inr (.inl rfl) | exact .inr (.inr rfl))) de_str (fun _ _ => rfl))) (dg_name (i := 4) sc_law_drawn.nd rfl (by first | exact .inl rfl | exact .inr rfl) rfl) (ds_kill (ks := [4, 5, 6]) (ds_one (d_for wkE B.po B.cm (di_val B.hK (de_var (i := 3) rfl rfl (by first | exact .inl rfl | exact .inr (.inl rfl) | exact .inr (.inr rfl)))) (dg_tup B.hK B.cm (dgs_cons (dg_name (i := 5) sc_law_drawn.nd rfl (by first | exact .inl rfl | exact .inr rfl) rfl) (dgs_cons (dg_name (i := 6) sc_law_drawn.nd rfl (by first | exact .inl rfl | exact .inr rfl) rfl) dgs_nil)) rfl) (ds_kill (ks := [5, 6]) (ds_cons wkE (d_stN (i := 1) wkE (de_callB (call_max2_D B.cm) (by rfl) T.n_max bt_max (da_cons (de_view (de_ix B.hK (hu1 B.hr) (de_ix B.hK (hu1 B.hr) (de_var (i := 1) rfl rfl (by first | exact .inl rfl | exact .inr (.inl rfl) | exact .inr (.inr rfl))) (de_var (i := 6) rfl rfl (by first | exact .inl rfl | exact .inr (.inl rfl) | exact .inr (.inr rfl))) (fun _ _ => rfl)) de_int (fun _ _ => rfl))) (da_cons (de_view (de_ix B.hK (hu1 B.hr) (de_ix B.hK (hu1 B.hr) (de_var (i := 1) rfl rfl (by first | exact .inl rfl | exact .inr (.inl rfl) | exact .inr (.inr rfl))) (de_var (i := 5) rfl rfl (by first | exact .inl rfl | exact .inr (.inl rfl) | exact .inr (.inr rfl))) (fun _ _ => rfl)) de_int (fun _ _ => rfl))) da_nil))) (dg_stN (i := 1) (hu1 B.hr) rfl rfl (by first | exact .inl rfl | exact .inr (.inl rfl) | exact .inr (.inr rfl)) (de_var (i := 6) rfl rfl (by first | exact .inl rfl | exact .inr (.inl rfl) | exact .inr (.inr rfl))) (fun _ _ => rfl) de_int)) (ds_one (d_stN (i := 1) wkE (de_callB (call_min2_D B.cm) (by rfl) T.n_min bt_min (da_cons (de_view (de_ix B.hK (hu1 B.hr) (de_ix B.hK (hu1 B.hr) (de_var (i := 1) rfl rfl (by first | exact .inl rfl | exact .inr (.inl rfl) | exact .inr (.inr rfl))) (de_var (i := 5) rfl rfl (by first | exact .inl rfl | exact .inr (.inl rfl) | exact .inr (.inr rfl))) (fun _ _ => rfl)) de_int (fun _ _ => rfl))) (da_cons (de_view (de_ix B.hK (hu1 B.hr) (de_ix B.hK (hu1 B.hr) (de_var (i := 1) rfl rfl (by first | exact .inl rfl | exact .inr (.inl rfl) | exact .inr (.inr rfl))) (de_var (i := 6) rfl rfl (by first | exact .inl rfl | exact .inr (.inl rfl) | exact .inr (.inr rfl))) (fun _ _ => rfl)) de_int (fun _ _ => rfl))) da_nil))) (dg_stN (i := 1) (hu1 B.hr) rfl rfl (by first | exact .inl rfl | exact .inr (.inl rfl) | exact .inr (.inr rfl)) (de_var (i := 5) rfl rfl (by first | exact .inl rfl | exact .inr (.inl rfl) | exact .inr (.inr rfl))) (fun _ _ => rfl) de_int))))) rfl))) rfl) (ds_le wkE (G1 := [.z, .z, .z, .z, .z, .z, .z, .z]) rfl (ds_one (d_ret (G' := [.z, .z, .z, .z, .z, .z, .z, .z]) rfl (de_frz (de_callTy (call_dict_D B.cm) (by rfl) T.n_dict bt_dict (da_cons (de_frz (de_lc (vs := [7]) (oe := .z) B.cm sc_law_drawn.nd (di_val B.hK (de_ix B.hK (hu1 B.hr) (de_var (i := 0) rfl rfl (by first | exact .inl rfl | exact .inr (.inl rfl) | exact .inr (.inr rfl))) de_str (fun _ _ => rfl))) (blkOk_by (N := nm_law_drawn) (sc := defScope s_law_drawn) (own := [("_law_label", 7)]) (by decide +kernel)) rfl (by decide) rfl (fun _ _ _ _ _ => dg_name (i := 7) sc_law_drawn.nd rfl (by first | exact .inl rfl | exact .inr rfl) rfl) (fun _ _ _ _ _ => dts_nil) (fun _ _ _ _ _ => de_tup (da_cons (de_var (i := 7) rfl rfl (by first | exact .inl rfl | exact .inr (.inl rfl) | exact .inr (.inr rfl))) (da_cons (de_callTy (call_tuple_D B.hK) (by rfl) T.n_tuple bt_tuple (da_cons (de_ix B.hK (hu1 B.hr) (de_var (i := 1) rfl rfl (by first | exact .inl rfl | exact .inr (.inl rfl) | exact .inr (.inr rfl))) (de_var (i := 7) rfl rfl (by first | exact .inl rfl | exact .inr (.inl rfl) | exact .inr (.inr rfl))) (fun _ _ => rfl)) da_nil)) da_nil))))) da_nil))))))))))
set_option maxRecDepth 4000 in
theorem ok_law_told (T : Txt K mg) : DL.FnOk P w K mg base (L2.CX P w) 6 T.f_law_told T.d_law_told ["_law_made", "_law_model_here"] (spD T.C sg_law_told mir_law_told) := by
  refine fn_mk (S := sg_law_told) (ft := false) (n := 1) (body := b_law_told) (G' := [.z, .z, .z]) rfl T.F_law_told sc_law_told rfl rfl rfl (fun h => nomatch h) ?_
  rintro ⟨prog, w2, K2, mg2, base2, A, N, s0, H0, ⟨scope, e2, e3, e4, e5, e6, e7, e8, e9⟩, outer, stack, ex, fn, calm, pn, xe⟩ E W hW hP hw hmg hb hN hS hF B hst hfr
  dsimp only at hP hw hmg hb hN hS hF
  have hK := B.hK
  dsimp only [Txt.C] at hK
  subst hW hP hw hmg hb hN hS hF hK
  exact ds_one (d_ret (G' := [.z, .z, .z]) rfl (de_callB (call_repr_D B.hK (hu64g B.hr)) (by rfl) T.n_repr bt_repr (da_cons (de_frz (de_lc (vs := [2]) (oe := .z) B.cm sc_law_told.nd (di_val B.hK (de_ix B.hK (hu1 B.hr) (de_var (i := 1) rfl rfl (by first | exact .inl rfl | exact .inr (.inl rfl) | exact .inr (.inr rfl))) de_str (fun _ _ => rfl))) (blkOk_by (N := nm_law_told) (sc := defScope s_law_told) (own := [("_law_label", 2)]) (by decide +kernel)) rfl (by decide) rfl (fun _ _ _ _ _ => dg_name (i := 2) sc_law_told.nd rfl (by first | exact .inl rfl | exact .inr rfl) rfl) (fun _ _ _ _ _ => dts_nil) (fun _ _ _ _ _ => de_call (S := sg_drawn) (E := nE) (ok_drawn T) B.hr (by decide) (by rfl) T.m_drawn T.k_drawn T.B_drawn takesW0 rfl (by decide) (dm_cons (de_var (i := 0) rfl rfl (by first | exact .inl rfl | exact .inr (.inl rfl) | exact .inr (.inr rfl))) (dm_cons (de_var (i := 2) rfl rfl (by first | exact .inl rfl | exact .inr (.inl rfl) | exact .inr (.inr rfl))) dm_nil))))) da_nil)))
set_option maxRecDepth 4000 in
theorem ok_law_due (T : Txt K mg) : DL.FnOk P w K mg base (L2.CX P w) 2 T.f_law_due T.d_law_due ["_law_model_here"] (spD T.C sg_law_due mir_law_due) := by
  refine fn_mk (S := sg_law_due) (ft := false) (n := 2) (body := b_law_due) (G' := [.z, .z, .z]) rfl T.F_law_due sc_law_due rfl rfl rfl (fun h => nomatch h) ?_
  rintro ⟨prog, w2, K2, mg2, base2, A, N, s0, H0, ⟨scope, e2, e3, e4, e5, e6, e7, e8, e9⟩, outer, stack, ex, fn, calm, pn, xe⟩ E W hW hP hw hmg hb hN hS hF B hst hfr
  dsimp only at hP hw hmg hb hN hS hF
  have hK := B.hK
  dsimp only [Txt.C] at hK
  subst hW hP hw hmg hb hN hS hF hK
  exact ds_cons wkE (d_set (i := 1) (o := .z) sc_law_due.nd rfl (by first | exact .inl rfl | exact .inr rfl) (de_call (S := sg_law_drawn) (E := E) (ok_law_drawn T) B.hr (by decide) (by rfl) T.m_law_drawn T.k_law_drawn T.B_law_drawn B.tk rfl (by decide) (dm_cons (de_var (i := 0) rfl rfl (by first | exact .inl rfl | exact .inr (.inl rfl) | exact .inr (.inr rfl))) dm_nil)) rfl (by decide)) (ds_one (d_ret (G' := [.z, .z, .z]) rfl (de_callB (call_repr_D B.hK (hu64g B.hr)) (by rfl) T.n_repr bt_repr (da_cons (de_frz (de_lc (vs := [2]) (oe := .z) B.cm sc_law_due.nd (di_val B.hK (de_ix B.hK (hu1 B.hr) (de_var (i := 0) rfl rfl (by first | exact .inl rfl | exact .inr (.inl rfl) | exact .inr (.inr rfl))) de_str (fun _ _ => rfl))) (blkOk_by (N := nm_law_due) (sc := defScope s_law_due) (own := [("_law_label", 2)]) (by decide +kernel)) rfl (by decide) rfl (fun _ _ _ _ _ => dg_name (i := 2) sc_law_due.nd rfl (by first | exact .inl rfl | exact .inr rfl) rfl) (fun _ _ _ _ _ => dts_nil) (fun _ _ _ _ _ => de_ix B.hK (hu1 B.hr) (de_var (i := 1) rfl rfl (by first | exact .inl rfl | exact .inr (.inl rfl) | exact .inr (.inr rfl))) (de_var (i := 2) rfl rfl (by first | exact .inl rfl | exact .inr (.inl rfl) | exact .inr (.inr rfl))) (fun _ _ => rfl)))) da_nil))))
set_option maxRecDepth 4000 in
theorem ok_law_with (T : Txt K mg) : DL.FnOk P w K mg base (L2.CX P w) 1 T.f_law_with T.d_law_with ["_law_model_here", "_law_rest"] (spD T.C sg_law_with mir_law_with) := by
  refine fn_mk (S := sg_law_with) (ft := false) (n := 0) (body := b_law_with) (G' := [.z, .z]) rfl T.F_law_with sc_law_with rfl rfl rfl (fun h => nomatch h) ?_
  rintro ⟨prog, w2, K2, mg2, base2, A, N, s0, H0, ⟨scope, e2, e3, e4, e5, e6, e7, e8, e9⟩, outer, stack, ex, fn, calm, pn, xe⟩ E W hW hP hw hmg hb hN hS hF B hst hfr
  dsimp only at hP hw hmg hb hN hS hF
  have hK := B.hK
  dsimp only [Txt.C] at hK
  subst hW hP hw hmg hb hN hS hF hK
  exact ds_one (d_ret (G' := [.z, .z]) rfl (de_frz (de_disp (pps_cons pe_str (de_ix B.hK (hu1 B.hr) (de_var (i := 0) rfl rfl (by first | exact .inl rfl | exact .inr (.inl rfl) | exact .inr (.inr rfl))) de_str (fun _ _ => rfl)) (pps_cons pe_str (de_ix B.hK (hu1 B.hr) (de_var (i := 0) rfl rfl (by first | exact .inl rfl | exact .inr (.inl rfl) | exact .inr (.inr rfl))) de_str (fun _ _ => rfl)) (pps_cons pe_str (de_bin (op_add_D B.hK) (de_ix B.hK (hu1 B.hr) (de_var (i := 0) rfl rfl (by first | exact .inl rfl | exact .inr (.inl rfl) | exact .inr (.inr rfl))) de_str (fun _ _ => rfl)) (de_var (i := 1) rfl rfl (by first | exact .inl rfl | exact .inr (.inl rfl) | exact .inr (.inr rfl)))) pps_nil))) (pairs_cons (key := "folk") (pairs_cons (key := "span") (pairs_cons (key := "tale") pairs_nil))) (by decide) (by decide) rfl rfl (by simp) (by decide))))
set_option maxRecDepth 4000 in
theorem ok_Yardu_addu (T : Txt K mg) : DL.FnOk P w K mg base (L2.CX P w) 8 T.f_Yardu_addu T.d_Yardu_addu ["self", "other"] (spD T.C sg_Yardu_addu mir_Yardu_addu) := by
  refine fn_mk (S := sg_Yardu_addu) (ft := false) (n := 0) (body := b_Yardu_addu) (G' := [.z, .z]) rfl T.F_Yardu_addu sc_Yardu_addu rfl rfl rfl (fun h => nomatch h) ?_
  rintro ⟨prog, w2, K2, mg2, base2, A, N, s0, H0, ⟨scope, e2, e3, e4, e5, e6, e7, e8, e9⟩, outer, stack, ex, fn, calm, pn, xe⟩ E W hW hP hw hmg hb hN hS hF B hst hfr
  dsimp only at hP hw hmg hb hN hS hF
  have hK := B.hK
  dsimp only [Txt.C] at hK
  subst hW hP hw hmg hb hN hS hF hK
  exact ds_cons wkE (d_if wkE (dt_not (dt_val B.hK (de_call (S := sg_is_fact) (E := E) (ok_is_fact T) B.hr (by decide) (by rfl) T.m_is_fact T.k_is_fact T.B_is_fact B.tk rfl (by decide) (dm_cons (de_fld B.hK T.h_Yard T.c_Yard T.a_Yard_own_boxes (de_var (i := 0) rfl rfl (by first | exact .inl rfl | exact .inr (.inl rfl) | exact .inr (.inr rfl)))) (dm_cons (de_fld B.hK T.h_Yard T.c_Yard T.a_Yard_own_days (de_var (i := 0) rfl rfl (by first | exact .inl rfl | exact .inr (.inl rfl) | exact .inr (.inr rfl)))) (dm_cons (de_var (i := 1) rfl rfl (by first | exact .inl rfl | exact .inr (.inl rfl) | exact .inr (.inr rfl))) dm_nil)))))) (ds_one (d_stk (G' := [.z, .z]))) ds_nil) (ds_one (d_ret (G' := [.z, .z]) rfl (de_frz (de_make (n := 3) T.h_Yard (E := E) rfl B.tk T.m_Yard (ok_Yardu_initu T) B.hr (by decide) (by rfl) T.g_Yard T.B_Yardu_initu (da_cons (de_fld B.hK T.h_Yard T.c_Yard T.a_Yard_own_boxes (de_var (i := 0) rfl rfl (by first | exact .inl rfl | exact .inr (.inl rfl) | exact .inr (.inr rfl)))) (da_cons (de_fld B.hK T.h_Yard T.c_Yard T.a_Yard_own_days (de_var (i := 0) rfl rfl (by first | exact .inl rfl | exact .inr (.inl rfl) | exact .inr (.inr rfl)))) (da_cons (de_tup (da_star B.hK (de_fld B.hK T.h_Yard T.c_Yard T.a_Yard_own_facts (de_var (i := 0) rfl rfl (by first | exact .inl rfl | exact .inr (.inl rfl) | exact .inr (.inr rfl)))) (da_cons (de_var (i := 1) rfl rfl (by first | exact .inl rfl | exact .inr (.inl rfl) | exact .inr (.inr rfl))) da_nil))) da_nil)))))))
set_option maxRecDepth 4000 in
theorem ok_law_right (T : Txt K mg) : DL.FnOk P w K mg base (L2.CX P w) 9 T.f_law_right T.d_law_right ["_law_pot_here"] (spD T.C sg_law_right mir_law_right) := by
  refine fn_mk (S := sg_law_right) (ft := false) (n := 10) (body := b_law_right) (G' := [(.c .z), .z, .z, .z, .z, .z, .z, .z, .z, .z, .z]) rfl T.F_law_right sc_law_right rfl rfl rfl (fun h => nomatch h) ?_
  rintro ⟨prog, w2, K2, mg2, base2, A, N, s0, H0, ⟨scope, e2, e3, e4, e5, e6, e7, e8, e9⟩, outer, stack, ex, fn, calm, pn, xe⟩ E W hW hP hw hmg hb hN hS hF B hst hfr
  dsimp only at hP hw hmg hb hN hS hF
  have hK := B.hK
  dsimp only [Txt.C] at hK
  subst hW hP hw hmg hb hN hS hF hK
  exact ds_cons wkE (d_set (i := 1) (o := .z) sc_law_right.nd rfl (by first | exact .inl rfl | exact .inr rfl) (de_call (S := sg_law_model) (E := E) (ok_law_model T) B.hr (by decide) (by rfl) T.m_law_model T.k_law_model T.B_law_model B.tk rfl (by decide) (dm_mv (i := 0) rfl rfl (by first | exact .inl rfl | exact .inr (.inl rfl) | exact .inr (.inr rfl)) (dm_cons de_int (dm_cons de_int (dm_cons de_int dm_nil))))) rfl (by decide)) (ds_cons wkE (d_par (i := 6) (j := 7) (oi := .z) (oj := .z) B.cm sc_law_right.nd rfl rfl (by decide) rfl rfl (dm_cons (de_call (S := sg_law_yard) (E := E) (ok_law_yard T) B.hr (by decide) (by rfl) T.m_law_yard T.k_law_yard T.B_law_yard B.tk rfl (by decide) (dm_cons (de_var (i := 1) rfl rfl (by first | exact .inl rfl | exact .inr (.inl rfl) | exact .inr (.inr rfl))) dm_nil)) (dm_cons (de_call (S := sg_law_pick) (E := E) (ok_law_pick T) B.hr (by decide) (by rfl) T.m_law_pick T.k_law_pick T.B_law_pick B.tk rfl (by decide) (dm_mv (i := 0) rfl rfl (by first | exact .inl rfl | exact .inr (.inl rfl) | exact .inr (.inr rfl)) (dm_cons (de_ix B.hK (hu1 B.hr) (de_var (i := 1) rfl rfl (by first | exact .inl rfl | exact .inr (.inl rfl) | exact .inr (.inr rfl))) de_str (fun _ _ => rfl)) dm_nil))) dm_nil)) rfl rfl (by decide) (by decide) (by rfl)) (ds_cons wkE (d_if wkE (PW.pt (dw_or (dt_cmp (op_ne_D B.hK (hu64 B.hr)) (de_call (S := sg_law_told) (E := E) (ok_law_told T) B.hr (by decide) (by rfl) T.m_law_told T.k_law_told T.B_law_told B.tk rfl (by decide) (dm_cons (de_var (i := 6) rfl rfl (by first | exact .inl rfl | exact .inr (.inl rfl) | exact .inr (.inr rfl))) (dm_cons (de_var (i := 1) rfl rfl (by first | exact .inl rfl | exact .inr (.inl rfl) | exact .inr (.inr rfl))) dm_nil))) (de_call (S := sg_law_due) (E := E) (ok_law_due T) B.hr (by decide) (by rfl) T.m_law_due T.k_law_due T.B_law_due B.tk rfl (by decide) (dm_cons (de_var (i := 1) rfl rfl (by first | exact .inl rfl | exact .inr (.inl rfl) | exact .inr (.inr rfl))) dm_nil)) (nomark _)) (dw_or1 (dt_cmp (op_ne_D B.hK (hu64 B.hr)) (de_callK0 (S := sg_drawn) (n := 2) (nu := 0) (perm := [1, 0]) (E := E) rfl B.tk rfl (ok_drawn T) B.hr (by decide) (by rfl) T.m_drawn T.k_drawn T.K_drawn_0_1_0 (dk_cons (de_var (i := 7) rfl rfl (by first | exact .inl rfl | exact .inr (.inl rfl) | exact .inr (.inr rfl))) (dk_cons (de_var (i := 6) rfl rfl (by first | exact .inl rfl | exact .inr (.inl rfl) | exact .inr (.inr rfl))) dk_nil))) (de_ix B.hK (hu1 B.hr) (de_call (S := sg_law_drawn) (E := E) (ok_law_drawn T) B.hr (by decide) (by rfl) T.m_law_drawn T.k_law_drawn T.B_law_drawn B.tk rfl (by decide) (dm_cons (de_var (i := 1) rfl rfl (by first | exact .inl rfl | exact .inr (.inl rfl) | exact .inr (.inr rfl))) dm_nil)) (de_var (i := 7) rfl rfl (by first | exact .inl rfl | exact .inr (.inl rfl) | exact .inr (.inr rfl))) (fun _ _ => rfl)) (nomark _))))) (ds_one (d_ret (G' := [(.c .z), .z, .z, .z, .z, .z, .z, .z, .z, .z, .z]) rfl de_bl)) ds_nil) (ds_cons wkE (d_set (i := 2) (o := .z) sc_law_right.nd rfl (by first | exact .inl rfl | exact .inr rfl) (de_call (S := sg_law_mixed) (E := E) (ok_law_mixed T) B.hr (by decide) (by rfl) T.m_law_mixed T.k_law_mixed T.B_law_mixed B.tk rfl (by decide) (dm_lt (i := 0) rfl rfl (by first | exact .inl rfl | exact .inr (.inl rfl) | exact .inr (.inr rfl)) (dm_cons (de_bin (op_add_D B.hK) (de_ix B.hK (hu1 B.hr) (de_var (i := 1) rfl rfl (by first | exact .inl rfl | exact .inr (.inl rfl) | exact .inr (.inr rfl))) de_str (fun _ _ => rfl)) (de_sl B.hK (de_ix B.hK (hu1 B.hr) (de_var (i := 1) rfl rfl (by first | exact .inl rfl | exact .inr (.inl rfl) | exact .inr (.inr rfl))) de_str (fun _ _ => rfl)) do_none (do_int (de_call (S := sg_law_draw) (E := E) (ok_law_draw T) B.hr (by decide) (by rfl) T.m_law_draw T.k_law_draw T.B_law_draw B.tk rfl (by decide) (dm_mv (i := 0) rfl rfl (by first | exact .inl rfl | exact .inr (.inl rfl) | exact .inr (.inr rfl)) (dm_cons de_int dm_nil)))))) dm_nil))) rfl (by decide)) (ds_cons wkE (d_set (i := 3) (o := .z) sc_law_right.nd rfl (by first | exact .inl rfl | exact .inr rfl) (de_frz (de_disp (pps_cons pe_str (de_call (S := sg_law_mixed) (E := E) (ok_law_mixed T) B.hr (by decide) (by rfl) T.m_law_mixed T.k_law_mixed T.B_law_mixed B.tk rfl (by decide) (dm_mv (i := 0) rfl rfl (by first | exact .inl rfl | exact .inr (.inl rfl) | exact .inr (.inr rfl)) (dm_cons (de_ix B.hK (hu1 B.hr) (de_var (i := 1) rfl rfl (by first | exact .inl rfl | exact .inr (.inl rfl) | exact .inr (.inr rfl))) de_str (fun _ _ => rfl)) dm_nil))) (pps_cons pe_str (de_ix B.hK (hu1 B.hr) (de_var (i := 1) rfl rfl (by first | exact .inl rfl | exact .inr (.inl rfl) | exact .inr (.inr rfl))) de_str (fun _ _ => rfl)) (pps_cons pe_str (de_var (i := 2) rfl rfl (by first | exact .inl rfl | exact .inr (.inl rfl) | exact .inr (.inr rfl))) pps_nil))) (pairs_cons (key := "folk") (pairs_cons (key := "span") (pairs_cons (key := "tale") pairs_nil))) (by decide) (by decide) rfl rfl (by simp) (by decide))) rfl (by decide)) (ds_cons wkE (d_if wkE (dt_cmp (op_ne_D B.hK (hu64 B.hr)) (de_call (S := sg_law_told) (E := E) (ok_law_told T) B.hr (by decide) (by rfl) T.m_law_told T.k_law_told T.B_law_told B.tk rfl (by decide) (dm_cons (de_call (S := sg_law_yard) (E := E) (ok_law_yard T) B.hr (by decide) (by rfl) T.m_law_yard T.k_law_yard T.B_law_yard B.tk rfl (by decide) (dm_cons (de_var (i := 3) rfl rfl (by first | exact .inl rfl | exact .inr (.inl rfl) | exact .inr (.inr rfl))) dm_nil)) (dm_cons (de_var (i := 1) rfl rfl (by first | exact .inl rfl | exact .inr (.inl rfl) | exact .inr (.inr rfl))) dm_nil))) (de_call (S := sg_law_due) (E := E) (ok_law_due T) B.hr (by decide) (by rfl) T.m_law_due T.k_law_due T.B_law_due B.tk rfl (by decide) (dm_cons (de_var (i := 1) rfl rfl (by first | exact .inl rfl | exact .inr (.inl rfl) | exact .inr (.inr rfl))) dm_nil)) (nomark _)) (ds_one (d_ret (G' := [(.c .z), .z, .z, .z, .z, .z, .z, .z, .z, .z, .z]) rfl de_bl)) ds_nil) (ds_cons wkE (d_set (i := 4) (o := .z) sc_law_right.nd rfl (by first | exact .inl rfl | exact .inr rfl) (de_frz (de_disp (pps_cons pe_str (de_ix B.hK (hu1 B.hr) (de_var (i := 1) rfl rfl (by first | exact .inl rfl | exact .inr (.inl rfl) | exact .inr (.inr rfl))) de_str (fun _ _ => rfl)) (pps_cons pe_str (de_ix B.hK (hu1 B.hr) (de_var (i := 1) rfl rfl (by first | exact .inl rfl | exact .inr (.inl rfl) | exact .inr (.inr rfl))) de_str (fun _ _ => rfl)) (pps_cons pe_str (de_frz (de_lc (vs := [10]) (oe := .z) B.cm sc_law_right.nd (di_val B.hK (de_var (i := 2) rfl rfl (by first | exact .inl rfl | exact .inr (.inl rfl) | exact .inr (.inr rfl)))) (blkOk_by (N := nm_law_right) (sc := defScope s_law_right) (own := [("_law_told_here", 10)]) (by decide +kernel)) rfl (by decide) rfl (fun _ _ _ _ _ => dg_name (i := 10) sc_law_right.nd rfl (by first | exact .inl rfl | exact .inr rfl) rfl) (fun _ _ _ _ _ => dts_one (dt_cmp (op_ne_D B.hK (hu64 B.hr)) (de_ix B.hK (hu1 B.hr) (de_var (i := 10) rfl rfl (by first | exact .inl rfl | exact .inr (.inl rfl) | exact .inr (.inr rfl))) de_int (fun _ _ => rfl)) de_str (nomark _))) (fun _ _ _ _ _ => de_var (i := 10) rfl rfl (by first | exact .inl rfl | exact .inr (.inl rfl) | exact .inr (.inr rfl))))) pps_nil))) (pairs_cons (key := "folk") (pairs_cons (key := "span") (pairs_cons (key := "tale") pairs_nil))) (by decide) (by decide) rfl rfl (by simp) (by decide))) rfl (by decide)) (ds_cons wkE (d_if wkE (dt_cmp (op_ne_D B.hK (hu64 B.hr)) (de_call (S := sg_law_told) (E := E) (ok_law_told T) B.hr (by decide) (by rfl) T.m_law_told T.k_law_told T.B_law_told B.tk rfl (by decide) (dm_cons (de_call (S := sg_law_yard) (E := E) (ok_law_yard T) B.hr (by decide) (by rfl) T.m_law_yard T.k_law_yard T.B_law_yard B.tk rfl (by decide) (dm_cons (de_var (i := 4) rfl rfl (by first | exact .inl rfl | exact .inr (.inl rfl) | exact .inr (.inr rfl))) dm_nil)) (dm_cons (de_var (i := 1) rfl rfl (by first | exact .inl rfl | exact .inr (.inl rfl) | exact .inr (.inr rfl))) dm_nil))) (de_call (S := sg_law_due) (E := E) (ok_law_due T) B.hr (by decide) (by rfl) T.m_law_due T.k_law_due T.B_law_due B.tk rfl (by decide) (dm_cons (de_var (i := 1) rfl rfl (by first | exact .inl rfl | exact .inr (.inl rfl) | exact .inr (.inr rfl))) dm_nil)) (nomark _)) (ds_one (d_ret (G' := [(.c .z), .z, .z, .z, .z, .z, .z, .z, .z, .z, .z]) rfl de_bl)) ds_nil) (ds_cons wkE (d_for wkE B.po B.cm (di_range1 (by rfl) T.n_range (da_cons de_int da_nil)) (dg_name (i := 5) sc_law_right.nd rfl (by first | exact .inl rfl | exact .inr rfl) rfl) (ds_kill (ks := [5, 8, 9]) (ds_cons wkE (d_set (i := 1) (o := .z) sc_law_right.nd rfl (by first | exact .inl rfl | exact .inr rfl) (de_call (S := sg_law_with) (E := E) (ok_law_with T) B.hr (by decide) (by rfl) T.m_law_with T.k_law_with T.B_law_with B.tk rfl (by decide) (dm_cons (de_var (i := 1) rfl rfl (by first | exact .inl rfl | exact .inr (.inl rfl) | exact .inr (.inr rfl))) (dm_cons (de_lst (da_cons (de_call (S := sg_law_fact) (E := E) (ok_law_fact T) B.hr (by decide) (by rfl) T.m_law_fact T.k_law_fact T.B_law_fact B.tk rfl (by decide) (dm_mv (i := 0) rfl rfl (by first | exact .inl rfl | exact .inr (.inl rfl) | exact .inr (.inr rfl)) (dm_cons (de_ix B.hK (hu1 B.hr) (de_var (i := 1) rfl rfl (by first | exact .inl rfl | exact .inr (.inl rfl) | exact .inr (.inr rfl))) de_str (fun _ _ => rfl)) (dm_cons (de_ix B.hK (hu1 B.hr) (de_var (i := 1) rfl rfl (by first | exact .inl rfl | exact .inr (.inl rfl) | exact .inr (.inr rfl))) de_str (fun _ _ => rfl)) dm_nil)))) da_nil)) dm_nil))) rfl (by decide)) (ds_cons wkE (d_set (i := 8) (o := .z) sc_law_right.nd rfl (by first | exact .inl rfl | exact .inr rfl) (de_binO (S := sg_Yardu_addu) rfl B.hK T.h_Yard (E := E) rfl B.tk rfl T.b_Yard_add_tuple (ok_Yardu_addu T) B.hr (by decide) T.B_Yardu_addu (de_var (i := 6) rfl rfl (by first | exact .inl rfl | exact .inr (.inl rfl) | exact .inr (.inr rfl))) (de_ix B.hK (hu1 B.hr) (de_ix B.hK (hu1 B.hr) (de_var (i := 1) rfl rfl (by first | exact .inl rfl | exact .inr (.inl rfl) | exact .inr (.inr rfl))) de_str (fun _ _ => rfl)) (de_un un_negD de_int) (fun _ _ => rfl))) rfl (by decide)) (ds_cons wkE (d_if wkE (dt_cmp (op_ne_D B.hK (hu64 B.hr)) (de_call (S := sg_law_told) (E := E) (ok_law_told T) B.hr (by decide) (by rfl) T.m_law_told T.k_law_told T.B_law_told B.tk rfl (by decide) (dm_cons (de_var (i := 8) rfl rfl (by first | exact .inl rfl | exact .inr (.inl rfl) | exact .inr (.inr rfl))) (dm_cons (de_var (i := 1) rfl rfl (by first | exact .inl rfl | exact .inr (.inl rfl) | exact .inr (.inr rfl))) dm_nil))) (de_call (S := sg_law_due) (E := E) (ok_law_due T) B.hr (by decide) (by rfl) T.m_law_due T.k_law_due T.B_law_due B.tk rfl (by decide) (dm_cons (de_var (i := 1) rfl rfl (by first | exact .inl rfl | exact .inr (.inl rfl) | exact .inr (.inr rfl))) dm_nil)) (nomark _)) (ds_one (d_ret (G' := [(.c .z), .z, .z, .z, .z, .z, .z, .z, .z, .z, .z]) rfl de_bl)) ds_nil) (ds_cons wkE (d_set (i := 9) (o := .z) sc_law_right.nd rfl (by first | exact .inl rfl | exact .inr rfl) (de_frz (de_disp (pps_cons pe_str (de_ix B.hK (hu1 B.hr) (de_var (i := 1) rfl rfl (by first | exact .inl rfl | exact .inr (.inl rfl) | exact .inr (.inr rfl))) de_str (fun _ _ => rfl)) (pps_cons pe_str (de_ix B.hK (hu1 B.hr) (de_var (i := 1) rfl rfl (by first | exact .inl rfl | exact .inr (.inl rfl) | exact .inr (.inr rfl))) de_str (fun _ _ => rfl)) (pps_cons pe_str (de_sl B.hK (de_ix B.hK (hu1 B.hr) (de_var (i := 1) rfl rfl (by first | exact .inl rfl | exact .inr (.inl rfl) | exact .inr (.inr rfl))) de_str (fun _ _ => rfl)) do_none (do_int (de_un un_negD de_int))) pps_nil))) (pairs_cons (key := "folk") (pairs_cons (key := "span") (pairs_cons (key := "tale") pairs_nil))) (by decide) (by decide) rfl rfl (by simp) (by decide))) rfl (by decide)) (ds_cons wkE (d_if wkE (dt_cmp (op_ne_D B.hK (hu64 B.hr)) (de_call (S := sg_law_told) (E := E) (ok_law_told T) B.hr (by decide) (by rfl) T.m_law_told T.k_law_told T.B_law_told B.tk rfl (by decide) (dm_cons (de_var (i := 6) rfl rfl (by first | exact .inl rfl | exact .inr (.inl rfl) | exact .inr (.inr rfl))) (dm_cons (de_var (i := 9) rfl rfl (by first | exact .inl rfl | exact .inr (.inl rfl) | exact .inr (.inr rfl))) dm_nil))) (de_call (S := sg_law_due) (E := E) (ok_law_due T) B.hr (by decide) (by rfl) T.m_law_due T.k_law_due T.B_law_due B.tk rfl (by decide) (dm_cons (de_var (i := 9) rfl rfl (by first | exact .inl rfl | exact .inr (.inl rfl) | exact .inr (.inr rfl))) dm_nil)) (nomark _)) (ds_one (d_ret (G' := [(.c .z), .z, .z, .z, .z, .z, .z, .z, .z, .z, .z]) rfl de_bl)) ds_nil) (ds_one (d_set (i := 6) (o := .z) sc_law_right.nd rfl (by first | exact .inl rfl | exact .inr rfl) (de_var (i := 8) rfl rfl (by first | exact .inl rfl | exact .inr (.inl rfl) | exact .inr (.inr rfl))) rfl (by decide))))))))) rfl) (ds_one (d_ret (G' := [(.c .z), .z, .z, .z, .z, .z, .z, .z, .z, .z, .z]) rfl de_bl))))))))))
set_option maxRecDepth 4000 in
theorem ok_law_pot (T : Txt K mg) : DL.FnOk P w K mg base (L2.CX P w) 1 T.f_law_pot T.d_law_pot ["_law_script", "_law_k"] (spD T.C sg_law_pot mir_law_pot) := by
  refine fn_mk (S := sg_law_pot) (ft := false) (n := 1) (body := b_law_pot) (G' := [.z, .z, .z]) rfl T.F_law_pot sc_law_pot rfl rfl rfl (fun h => nomatch h) ?_
  rintro ⟨prog, w2, K2, mg2, base2, A, N, s0, H0, ⟨scope, e2, e3, e4, e5, e6, e7, e8, e9⟩, outer, stack, ex, fn, calm, pn, xe⟩ E W hW hP hw hmg hb hN hS hF B hst hfr
  dsimp only at hP hw hmg hb hN hS hF
  have hK := B.hK
  dsimp only [Txt.C] at hK
  subst hW hP hw hmg hb hN hS hF hK
  exact ds_cons wkE (d_set (i := 2) (o := .z) sc_law_pot.nd rfl (by first | exact .inl rfl | exact .inr rfl) (de_bin (op_add_D B.hK) (de_bin op_mulI de_int (de_var (i := 1) rfl rfl (by first | exact .inl rfl | exact .inr (.inl rfl) | exact .inr (.inr rfl)))) de_int) rfl (by decide)) (ds_cons wkE (d_if wkE (dt_cmp (op_lt_D B.hK (hu0 B.hr)) (de_var (i := 1) rfl rfl (by first | exact .inl rfl | exact .inr (.inl rfl) | exact .inr (.inr rfl))) (de_callB (call_len_D B.hK) (by rfl) T.n_len PySem.boot_len (da_cons (de_var (i := 0) rfl rfl (by first | exact .inl rfl | exact .inr (.inl rfl) | exact .inr (.inr rfl))) da_nil)) (nomark _)) (ds_one (d_set (i := 2) (o := .z) sc_law_pot.nd rfl (by first | exact .inl rfl | exact .inr rfl) (de_callB call_abs_D (by rfl) T.n_abs bt_abs (da_cons (de_ix B.hK (hu1 B.hr) (de_var (i := 0) rfl rfl (by first | exact .inl rfl | exact .inr (.inl rfl) | exact .inr (.inr rfl))) (de_var (i := 1) rfl rfl (by first | exact .inl rfl | exact .inr (.inl rfl) | exact .inr (.inr rfl))) (fun _ _ => rfl)) da_nil)) rfl (by decide))) ds_nil) (ds_one (d_ret (G' := [.z, .z, .z]) rfl (de_lstO (da_cons (de_callB (call_max2_D B.cm) (by rfl) T.n_max bt_max (da_cons de_int (da_cons (de_bin op_sub_D (de_var (i := 2) rfl rfl (by first | exact .inl rfl | exact .inr (.inl rfl) | exact .inr (.inr rfl))) (de_bin op_pow_D de_int de_int)) da_nil))) (da_cons (de_bin (op_add_D B.hK) (de_bin op_mod_D (de_callTy call_int_D (by rfl) T.n_int bt_int (da_cons (de_bin (op_add_D B.hK) (de_bin (op_add_D B.hK) (de_bin op_mulI (de_bin op_mod_D (de_callTy call_int_D (by rfl) T.n_int bt_int (da_cons (de_var (i := 2) rfl rfl (by first | exact .inl rfl | exact .inr (.inl rfl) | exact .inr (.inr rfl))) da_nil)) de_int) de_int) (de_bin op_mulI de_int (de_var (i := 1) rfl rfl (by first | exact .inl rfl | exact .inr (.inl rfl) | exact .inr (.inr rfl))))) de_int) da_nil)) de_int) de_int) da_nil))))))
set_option maxRecDepth 4000 in
theorem ok_law (T : Txt K mg) : DL.FnOk P w K mg base (L2.CX P w) 10 T.f_law T.d_law ["_law_script"] (spD T.C sg_law mir_law) := by
  refine fn_mk (S := sg_law) (ft := false) (n := 1) (body := b_law) (G' := [.z, .z]) rfl T.F_law sc_law rfl rfl rfl (fun h => nomatch h) ?_
  rintro ⟨prog, w2, K2, mg2, base2, A, N, s0, H0, ⟨scope, e2, e3, e4, e5, e6, e7, e8, e9⟩, outer, stack, ex, fn, calm, pn, xe⟩ E W hW hP hw hmg hb hN hS hF B hst hfr
  dsimp only at hP hw hmg hb hN hS hF
  have hK := B.hK
  dsimp only [Txt.C] at hK
  subst hW hP hw hmg hb hN hS hF hK
  exact ds_one (d_ret (G' := [.z, .z]) rfl (de_callB (call_all_D B.hK B.cm) (by rfl) T.n_all bt_all (da_cons (de_frz (de_lc (vs := [1]) (oe := .z) B.cm sc_law.nd (di_range1 (by rfl) T.n_range (da_cons (de_callB (call_max2_D B.cm) (by rfl) T.n_max bt_max (da_cons de_int (da_cons (de_callB (call_min2_D B.cm) (by rfl) T.n_min bt_min (da_cons de_int (da_cons (de_callB (call_len_D B.hK) (by rfl) T.n_len PySem.boot_len (da_cons (de_var (i := 0) rfl rfl (by first | exact .inl rfl | exact .inr (.inl rfl) | exact .inr (.inr rfl))) da_nil)) da_nil))) da_nil))) da_nil)) (blkOk_by (N := nm_law) (sc := defScope s_law) (own := [("_law_k", 1)]) (by decide +kernel)) rfl (by decide) rfl (fun _ _ _ _ _ => dg_name (i := 1) sc_law.nd rfl (by first | exact .inl rfl | exact .inr rfl) rfl) (fun _ _ _ _ _ => dts_nil) (fun _ _ _ _ _ => de_call (S := sg_law_right) (E := nE) (ok_law_right T) B.hr (by decide) (by rfl) T.m_law_right T.k_law_right T.B_law_right takesW0 rfl (by decide) (dm_cons (de_call (S := sg_law_pot) (E := nE) (ok_law_pot T) B.hr (by decide) (by rfl) T.m_law_pot T.k_law_pot T.B_law_pot takesW0 rfl (by decide) (dm_cons (de_var (i := 0) rfl rfl (by first | exact .inl rfl | exact .inr (.inl rfl) | exact .inr (.inr rfl))) (dm_cons (de_var (i := 1) rfl rfl (by first | exact .inl rfl | exact .inr (.inl rfl) | exact .inr (.inr rfl))) dm_nil))) dm_nil)))) da_nil)))
end
/-! ### all facts -/
theorem all_mk {l : PySem.W.OpenLaw} {w : World} {K : PySem.W.Frag} {h : Heap} {mg : Str → Option Value} {fa : Addr} (X : K.In h) (G : h.Ns mainGlobals mg) (hfa : mg "law" = some (.ref fa))
    {a_Yard : Addr} {t_AHEAD_days : Tok} {t_AHEAD_yards : Tok} {t_DAYS_days : Tok} {t_DAYS_yards : Tok} {t_GONE : Tok} {t_LETTERS : Tok} {t_LONGEST_BOX : Tok} {t_MOST_DAYS : Tok} {f_law_draw : Addr} {od_law_draw an_law_draw : Option Addr} {sl_law_draw : Array (Option Value)} {oc_law_draw kV_law_draw dc_law_draw pm_law_draw cd_law_draw ct_law_draw : Value} {f_law_pick : Addr} {od_law_pick an_law_pick : Option Addr} {sl_law_pick : Array (Option Value)} {oc_law_pick kV_law_pick dc_law_pick pm_law_pick cd_law_pick ct_law_pick : Value} {f_law_folk : Addr} {od_law_folk an_law_folk : Option Addr} {sl_law_folk : Array (Option Value)} {oc_law_folk kV_law_folk dc_law_folk pm_law_folk cd_law_folk ct_law_folk : Value} {f_law_fact : Addr} {od_law_fact an_law_fact : Option Addr} {sl_law_fact : Array (Option Value)} {oc_law_fact kV_law_fact dc_law_fact pm_law_fact cd_law_fact ct_law_fact : Value} {f_law_mixed : Addr} {od_law_mixed an_law_mixed : Option Addr} {sl_law_mixed : Array (Option Value)} {oc_law_mixed kV_law_mixed dc_law_mixed pm_law_mixed cd_law_mixed ct_law_mixed : Value} {f_law_flat : Addr} {od_law_flat an_law_flat : Option Addr} {sl_law_flat : Array (Option Value)} {oc_law_flat kV_law_flat dc_law_flat pm_law_flat cd_law_flat ct_law_flat : Value} {f_law_noon : Addr} {od_law_noon an_law_noon : Option Addr} {sl_law_noon : Array (Option Value)} {oc_law_noon kV_law_noon dc_law_noon pm_law_noon cd_law_noon ct_law_noon : Value} {f_law_left : Addr} {od_law_left an_law_left : Option Addr} {sl_law_left : Array (Option Value)} {oc_law_left kV_law_left dc_law_left pm_law_left cd_law_left ct_law_left : Value} {f_law_fitting : Addr} {od_law_fitting an_law_fitting : Option Addr} {sl_law_fitting : Array (Option Value)} {oc_law_fitting kV_law_fitting dc_law_fitting pm_law_fitting cd_law_fitting ct_law_fitting : Value} {f_law_planted : Addr} {od_law_planted an_law_planted : Option Addr} {sl_law_planted : Array (Option Value)} {oc_law_planted kV_law_planted dc_law_planted pm_law_planted cd_law_planted ct_law_planted : Value} {f_law_model : Addr} {od_law_model an_law_model : Option Addr} {sl_law_model : Array (Option Value)} {oc_law_model kV_law_model dc_law_model pm_law_model cd_law_model ct_law_model : Value} {f_is_list : Addr} {od_is_list an_is_list : Option Addr} {sl_is_list : Array (Option Value)} {oc_is_list kV_is_list dc_is_list pm_is_list cd_is_list ct_is_list : Value} {f_is_box : Addr} {od_is_box an_is_box : Option Addr} {sl_is_box : Array (Option Value)} {oc_is_box kV_is_box dc_is_box pm_is_box cd_is_box ct_is_box : Value} {f_want_boxes : Addr} {od_want_boxes an_want_boxes : Option Addr} {sl_want_boxes : Array (Option Value)} {oc_want_boxes kV_want_boxes dc_want_boxes pm_want_boxes cd_want_boxes ct_want_boxes : Value} {f_is_integer : Addr} {od_is_integer an_is_integer : Option Addr} {sl_is_integer : Array (Option Value)} {oc_is_integer kV_is_integer dc_is_integer pm_is_integer cd_is_integer ct_is_integer : Value} {f_want_days : Addr} {od_want_days an_want_days : Option Addr} {sl_want_days : Array (Option Value)} {oc_want_days kV_want_days dc_want_days pm_want_days cd_want_days ct_want_days : Value} {f_is_known : Addr} {od_is_known an_is_known : Option Addr} {sl_is_known : Array (Option Value)} {oc_is_known kV_is_known dc_is_known pm_is_known cd_is_known ct_is_known : Value} {f_is_ahead_told : Addr} {od_is_ahead_told an_is_ahead_told : Option Addr} {sl_is_ahead_told : Array (Option Value)} {oc_is_ahead_told kV_is_ahead_told dc_is_ahead_told pm_is_ahead_told cd_is_ahead_told ct_is_ahead_told : Value} {f_are_days_told : Addr} {od_are_days_told an_are_days_told : Option Addr} {sl_are_days_told : Array (Option Value)} {oc_are_days_told kV_are_days_told dc_are_days_told pm_are_days_told cd_are_days_told ct_are_days_told : Value} {f_is_count : Addr} {od_is_count an_is_count : Option Addr} {sl_is_count : Array (Option Value)} {oc_is_count kV_is_count dc_is_count pm_is_count cd_is_count ct_is_count : Value} {f_is_gone_told : Addr} {od_is_gone_told an_is_gone_told : Option Addr} {sl_is_gone_told : Array (Option Value)} {oc_is_gone_told kV_is_gone_told dc_is_gone_told pm_is_gone_told cd_is_gone_told ct_is_gone_told : Value} {f_is_fact : Addr} {od_is_fact an_is_fact : Option Addr} {sl_is_fact : Array (Option Value)} {oc_is_fact kV_is_fact dc_is_fact pm_is_fact cd_is_fact ct_is_fact : Value} {f_want_facts : Addr} {od_want_facts an_want_facts : Option Addr} {sl_want_facts : Array (Option Value)} {oc_want_facts kV_want_facts dc_want_facts pm_want_facts cd_want_facts ct_want_facts : Value} {f_Yardu_initu : Addr} {od_Yardu_initu an_Yardu_initu : Option Addr} {sl_Yardu_initu : Array (Option Value)} {oc_Yardu_initu kV_Yardu_initu dc_Yardu_initu pm_Yardu_initu cd_Yardu_initu ct_Yardu_initu : Value} {f_law_yard : Addr} {od_law_yard an_law_yard : Option Addr} {sl_law_yard : Array (Option Value)} {oc_law_yard kV_law_yard dc_law_yard pm_law_yard cd_law_yard ct_law_yard : Value} {f_Yardu_containsu : Addr} {od_Yardu_containsu an_Yardu_containsu : Option Addr} {sl_Yardu_containsu : Array (Option Value)} {oc_Yardu_containsu kV_Yardu_containsu dc_Yardu_containsu pm_Yardu_containsu cd_Yardu_containsu ct_Yardu_containsu : Value} {f_want_box : Addr} {od_want_box an_want_box : Option Addr} {sl_want_box : Array (Option Value)} {oc_want_box kV_want_box dc_want_box pm_want_box cd_want_box ct_want_box : Value} {f_drawn_by : Addr} {od_drawn_by an_drawn_by : Option Addr} {sl_drawn_by : Array (Option Value)} {oc_drawn_by kV_drawn_by dc_drawn_by pm_drawn_by cd_drawn_by ct_drawn_by : Value} {f_Yard_boxes : Addr} {od_Yard_boxes an_Yard_boxes : Option Addr} {sl_Yard_boxes : Array (Option Value)} {oc_Yard_boxes kV_Yard_boxes dc_Yard_boxes pm_Yard_boxes cd_Yard_boxes ct_Yard_boxes : Value} {f_next_boxes : Addr} {od_next_boxes an_next_boxes : Option Addr} {sl_next_boxes : Array (Option Value)} {oc_next_boxes kV_next_boxes dc_next_boxes pm_next_boxes cd_next_boxes ct_next_boxes : Value} {f_boxes_behind : Addr} {od_boxes_behind an_boxes_behind : Option Addr} {sl_boxes_behind : Array (Option Value)} {oc_boxes_behind kV_boxes_behind dc_boxes_behind pm_boxes_behind cd_boxes_behind ct_boxes_behind : Value} {f_ways_of : Addr} {od_ways_of an_ways_of : Option Addr} {sl_ways_of : Array (Option Value)} {oc_ways_of kV_ways_of dc_ways_of pm_ways_of cd_ways_of ct_ways_of : Value} {f_Yard_days : Addr} {od_Yard_days an_Yard_days : Option Addr} {sl_Yard_days : Array (Option Value)} {oc_Yard_days kV_Yard_days dc_Yard_days pm_Yard_days cd_Yard_days ct_Yard_days : Value} {p_Yard_days : Addr} {rs_Yard_days : List Value} {f_told_days : Addr} {od_told_days an_told_days : Option Addr} {sl_told_days : Array (Option Value)} {oc_told_days kV_told_days dc_told_days pm_told_days cd_told_days ct_told_days : Value} {f_drawn_days : Addr} {od_drawn_days an_drawn_days : Option Addr} {sl_drawn_days : Array (Option Value)} {oc_drawn_days kV_drawn_days dc_drawn_days pm_drawn_days cd_drawn_days ct_drawn_days : Value} {f_Yard_facts : Addr} {od_Yard_facts an_Yard_facts : Option Addr} {sl_Yard_facts : Array (Option Value)} {oc_Yard_facts kV_Yard_facts dc_Yard_facts pm_Yard_facts cd_Yard_facts ct_Yard_facts : Value} {f_drawn : Addr} {od_drawn an_drawn : Option Addr} {sl_drawn : Array (Option Value)} {oc_drawn kV_drawn dc_drawn pm_drawn cd_drawn ct_drawn : Value} {f_law_drawn : Addr} {od_law_drawn an_law_drawn : Option Addr} {sl_law_drawn : Array (Option Value)} {oc_law_drawn kV_law_drawn dc_law_drawn pm_law_drawn cd_law_drawn ct_law_drawn : Value} {f_law_told : Addr} {od_law_told an_law_told : Option Addr} {sl_law_told : Array (Option Value)} {oc_law_told kV_law_told dc_law_told pm_law_told cd_law_told ct_law_told : Value} {f_law_due : Addr} {od_law_due an_law_due : Option Addr} {sl_law_due : Array (Option Value)} {oc_law_due kV_law_due dc_law_due pm_law_due cd_law_due ct_law_due : Value} {f_law_with : Addr} {od_law_with an_law_with : Option Addr} {sl_law_with : Array (Option Value)} {oc_law_with kV_law_with dc_law_with pm_law_with cd_law_with ct_law_with : Value} {f_Yardu_addu : Addr} {od_Yardu_addu an_Yardu_addu : Option Addr} {sl_Yardu_addu : Array (Option Value)} {oc_Yardu_addu kV_Yardu_addu dc_Yardu_addu pm_Yardu_addu cd_Yardu_addu ct_Yardu_addu : Value} {fo_Yard_add_tuple ro_Yard_add_tuple : Option Value} {f_law_right : Addr} {od_law_right an_law_right : Option Addr} {sl_law_right : Array (Option Value)} {oc_law_right kV_law_right dc_law_right pm_law_right cd_law_right ct_law_right : Value} {f_law_pot : Addr} {od_law_pot an_law_pot : Option Addr} {sl_law_pot : Array (Option Value)} {oc_law_pot kV_law_pot dc_law_pot pm_law_pot cd_law_pot ct_law_pot : Value} {f_law : Addr} {od_law an_law : Option Addr} {sl_law : Array (Option Value)} {oc_law kV_law dc_law pm_law cd_law ct_law : Value} {tv_Yard_MOST_BOXES : Tok} {tv_Yard_MOST_FACTS : Tok}
    (h_g_Yard : PySem.W.nsIn K mainGlobals "Yard" = some (some (.ref a_Yard)))
    (h_pg_Yard : PySem.W.plainGet K a_Yard Str.empty = true)
    (h_hd_Yard : PySem.W.hasDictIn K a_Yard = true)
    (h_po_Yard : PySem.W.plainOver K a_Yard = true)
    (h_sa_Yard : PySem.W.findIn K (.ref a_Yard) "__setattr__" = some (some (.builtin "object.__setattr__")))
    (h_n_abs : PySem.W.nsIn K mainGlobals "abs" = some none)
    (h_n_all : PySem.W.nsIn K mainGlobals "all" = some none)
    (h_n_bool : PySem.W.nsIn K mainGlobals "bool" = some none)
    (h_n_dict : PySem.W.nsIn K mainGlobals "dict" = some none)
    (h_n_divmod : PySem.W.nsIn K mainGlobals "divmod" = some none)
    (h_n_enumerate : PySem.W.nsIn K mainGlobals "enumerate" = some none)
    (h_n_int : PySem.W.nsIn K mainGlobals "int" = some none)
    (h_n_isinstance : PySem.W.nsIn K mainGlobals "isinstance" = some none)
    (h_n_len : PySem.W.nsIn K mainGlobals "len" = some none)
    (h_n_list : PySem.W.nsIn K mainGlobals "list" = some none)
    (h_n_max : PySem.W.nsIn K mainGlobals "max" = some none)
    (h_n_min : PySem.W.nsIn K mainGlobals "min" = some none)
    (h_n_range : PySem.W.nsIn K mainGlobals "range" = some none)
    (h_n_repr : PySem.W.nsIn K mainGlobals "repr" = some none)
    (h_n_sorted : PySem.W.nsIn K mainGlobals "sorted" = some none)
    (h_n_str : PySem.W.nsIn K mainGlobals "str" = some none)
    (h_n_sum : PySem.W.nsIn K mainGlobals "sum" = some none)
    (h_n_tuple : PySem.W.nsIn K mainGlobals "tuple" = some none)
    (h_g_AHEAD_days : PySem.W.nsIn K mainGlobals "AHEAD_days" = some (some (.str "ahead" t_AHEAD_days)))
    (h_g_AHEAD_yards : PySem.W.nsIn K mainGlobals "AHEAD_yards" = some (some (.str "ahead" t_AHEAD_yards)))
    (h_g_DAYS_days : PySem.W.nsIn K mainGlobals "DAYS_days" = some (some (.str "days" t_DAYS_days)))
    (h_g_DAYS_yards : PySem.W.nsIn K mainGlobals "DAYS_yards" = some (some (.str "days" t_DAYS_yards)))
    (h_g_GONE : PySem.W.nsIn K mainGlobals "GONE" = some (some (.str "gone" t_GONE)))
    (h_g_LETTERS : PySem.W.nsIn K mainGlobals "LETTERS" = some (some (.str "abcdefghijklmnopqrstuvwxyz" t_LETTERS)))
    (h_g_LONGEST_BOX : PySem.W.nsIn K mainGlobals "LONGEST_BOX" = some (some (.int 6 t_LONGEST_BOX)))
    (h_g_MOST_DAYS : PySem.W.nsIn K mainGlobals "MOST_DAYS" = some (some (.int 9 t_MOST_DAYS)))
    (h_m_law_draw : PySem.W.nsIn K mainGlobals "_law_draw" = some (some (.ref f_law_draw)))
    (l_law_draw : K.lookup f_law_draw = some ⟨oc_law_draw, od_law_draw, .func (PySem.W.fnOf "_law_draw" "_law_draw" (defArgs s_law_draw) (defBody s_law_draw) (defScope s_law_draw) .none kV_law_draw dc_law_draw pm_law_draw an_law_draw cd_law_draw ct_law_draw), sl_law_draw⟩)
    (cc_law_draw : PySem.W.codeIn K cd_law_draw "_law_draw" = true)
    (kk_law_draw : PySem.W.keepIn K (.ref f_law_draw) = true)
    (h_m_law_pick : PySem.W.nsIn K mainGlobals "_law_pick" = some (some (.ref f_law_pick)))
    (l_law_pick : K.lookup f_law_pick = some ⟨oc_law_pick, od_law_pick, .func (PySem.W.fnOf "_law_pick" "_law_pick" (defArgs s_law_pick) (defBody s_law_pick) (defScope s_law_pick) .none kV_law_pick dc_law_pick pm_law_pick an_law_pick cd_law_pick ct_law_pick), sl_law_pick⟩)
    (cc_law_pick : PySem.W.codeIn K cd_law_pick "_law_pick" = true)
    (kk_law_pick : PySem.W.keepIn K (.ref f_law_pick) = true)
    (h_m_law_folk : PySem.W.nsIn K mainGlobals "_law_folk" = some (some (.ref f_law_folk)))
    (l_law_folk : K.lookup f_law_folk = some ⟨oc_law_folk, od_law_folk, .func (PySem.W.fnOf "_law_folk" "_law_folk" (defArgs s_law_folk) (defBody s_law_folk) (defScope s_law_folk) .none kV_law_folk dc_law_folk pm_law_folk an_law_folk cd_law_folk ct_law_folk), sl_law_folk⟩)
    (cc_law_folk : PySem.W.codeIn K cd_law_folk "_law_folk" = true)
    (kk_law_folk : PySem.W.keepIn K (.ref f_law_folk) = true)
    (h_m_law_fact : PySem.W.nsIn K mainGlobals "_law_fact" = some (some (.ref f_law_fact)))
    (l_law_fact : K.lookup f_law_fact = some ⟨oc_law_fact, od_law_fact, .func (PySem.W.fnOf "_law_fact" "_law_fact" (defArgs s_law_fact) (defBody s_law_fact) (defScope s_law_fact) .none kV_law_fact dc_law_fact pm_law_fact an_law_fact cd_law_fact ct_law_fact), sl_law_fact⟩)
    (cc_law_fact : PySem.W.codeIn K cd_law_fact "_law_fact" = true)
    (kk_law_fact : PySem.W.keepIn K (.ref f_law_fact) = true)
    (h_m_law_mixed : PySem.W.nsIn K mainGlobals "_law_mixed" = some (some (.ref f_law_mixed)))
    (l_law_mixed : K.lookup f_law_mixed = some ⟨oc_law_mixed, od_law_mixed, .func (PySem.W.fnOf "_law_mixed" "_law_mixed" (defArgs s_law_mixed) (defBody s_law_mixed) (defScope s_law_mixed) .none kV_law_mixed dc_law_mixed pm_law_mixed an_law_mixed cd_law_mixed ct_law_mixed), sl_law_mixed⟩)
    (cc_law_mixed : PySem.W.codeIn K cd_law_mixed "_law_mixed" = true)
    (kk_law_mixed : PySem.W.keepIn K (.ref f_law_mixed) = true)
    (h_m_law_flat : PySem.W.nsIn K mainGlobals "_law_flat" = some (some (.ref f_law_flat)))
    (l_law_flat : K.lookup f_law_flat = some ⟨oc_law_flat, od_law_flat, .func (PySem.W.fnOf "_law_flat" "_law_flat" (defArgs s_law_flat) (defBody s_law_flat) (defScope s_law_flat) .none kV_law_flat dc_law_flat pm_law_flat an_law_flat cd_law_flat ct_law_flat), sl_law_flat⟩)
    (cc_law_flat : PySem.W.codeIn K cd_law_flat "_law_flat" = true)
    (kk_law_flat : PySem.W.keepIn K (.ref f_law_flat) = true)
    (h_m_law_noon : PySem.W.nsIn K mainGlobals "_law_noon" = some (some (.ref f_law_noon)))
    (l_law_noon : K.lookup f_law_noon = some ⟨oc_law_noon, od_law_noon, .func (PySem.W.fnOf "_law_noon" "_law_noon" (defArgs s_law_noon) (defBody s_law_noon) (defScope s_law_noon) .none kV_law_noon dc_law_noon pm_law_noon an_law_noon cd_law_noon ct_law_noon), sl_law_noon⟩)
    (cc_law_noon : PySem.W.codeIn K cd_law_noon "_law_noon" = true)
    (kk_law_noon : PySem.W.keepIn K (.ref f_law_noon) = true)
    (h_m_law_left : PySem.W.nsIn K mainGlobals "_law_left" = some (some (.ref f_law_left)))
    (l_law_left : K.lookup f_law_left = some ⟨oc_law_left, od_law_left, .func (PySem.W.fnOf "_law_left" "_law_left" (defArgs s_law_left) (defBody s_law_left) (defScope s_law_left) .none kV_law_left dc_law_left pm_law_left an_law_left cd_law_left ct_law_left), sl_law_left⟩)
    (cc_law_left : PySem.W.codeIn K cd_law_left "_law_left" = true)
    (kk_law_left : PySem.W.keepIn K (.ref f_law_left) = true)
    (h_m_law_fitting : PySem.W.nsIn K mainGlobals "_law_fitting" = some (some (.ref f_law_fitting)))
    (l_law_fitting : K.lookup f_law_fitting = some ⟨oc_law_fitting, od_law_fitting, .func (PySem.W.fnOf "_law_fitting" "_law_fitting" (defArgs s_law_fitting) (defBody s_law_fitting) (defScope s_law_fitting) .none kV_law_fitting dc_law_fitting pm_law_fitting an_law_fitting cd_law_fitting ct_law_fitting), sl_law_fitting⟩)
    (cc_law_fitting : PySem.W.codeIn K cd_law_fitting "_law_fitting" = true)
    (kk_law_fitting : PySem.W.keepIn K (.ref f_law_fitting) = true)
    (h_m_law_planted : PySem.W.nsIn K mainGlobals "_law_planted" = some (some (.ref f_law_planted)))
    (l_law_planted : K.lookup f_law_planted = some ⟨oc_law_planted, od_law_planted, .func (PySem.W.fnOf "_law_planted" "_law_planted" (defArgs s_law_planted) (defBody s_law_planted) (defScope s_law_planted) .none kV_law_planted dc_law_planted pm_law_planted an_law_planted cd_law_planted ct_law_planted), sl_law_planted⟩)
    (cc_law_planted : PySem.W.codeIn K cd_law_planted "_law_planted" = true)
    (kk_law_planted : PySem.W.keepIn K (.ref f_law_planted) = true)
    (h_m_law_model : PySem.W.nsIn K mainGlobals "_law_model" = some (some (.ref f_law_model)))
    (l_law_model : K.lookup f_law_model = some ⟨oc_law_model, od_law_model, .func (PySem.W.fnOf "_law_model" "_law_model" (defArgs s_law_model) (defBody s_law_model) (defScope s_law_model) .none kV_law_model dc_law_model pm_law_model an_law_model cd_law_model ct_law_model), sl_law_model⟩)
    (cc_law_model : PySem.W.codeIn K cd_law_model "_law_model" = true)
    (kk_law_model : PySem.W.keepIn K (.ref f_law_model) = true)
    (h_m_is_list : PySem.W.nsIn K mainGlobals "is_list" = some (some (.ref f_is_list)))
    (l_is_list : K.lookup f_is_list = some ⟨oc_is_list, od_is_list, .func (PySem.W.fnOf "is_list" "is_list" (defArgs s_is_list) (defBody s_is_list) (defScope s_is_list) .none kV_is_list dc_is_list pm_is_list an_is_list cd_is_list ct_is_list), sl_is_list⟩)
    (cc_is_list : PySem.W.codeIn K cd_is_list "is_list" = true)
    (kk_is_list : PySem.W.keepIn K (.ref f_is_list) = true)
    (h_m_is_box : PySem.W.nsIn K mainGlobals "is_box" = some (some (.ref f_is_box)))
    (l_is_box : K.lookup f_is_box = some ⟨oc_is_box, od_is_box, .func (PySem.W.fnOf "is_box" "is_box" (defArgs s_is_box) (defBody s_is_box) (defScope s_is_box) .none kV_is_box dc_is_box pm_is_box an_is_box cd_is_box ct_is_box), sl_is_box⟩)
    (cc_is_box : PySem.W.codeIn K cd_is_box "is_box" = true)
    (kk_is_box : PySem.W.keepIn K (.ref f_is_box) = true)
    (h_m_want_boxes : PySem.W.nsIn K mainGlobals "want_boxes" = some (some (.ref f_want_boxes)))
    (l_want_boxes : K.lookup f_want_boxes = some ⟨oc_want_boxes, od_want_boxes, .func (PySem.W.fnOf "want_boxes" "want_boxes" (defArgs s_want_boxes) (defBody s_want_boxes) (defScope s_want_boxes) .none kV_want_boxes dc_want_boxes pm_want_boxes an_want_boxes cd_want_boxes ct_want_boxes), sl_want_boxes⟩)
    (cc_want_boxes : PySem.W.codeIn K cd_want_boxes "want_boxes" = true)
    (kk_want_boxes : PySem.W.keepIn K (.ref f_want_boxes) = true)
    (h_m_is_integer : PySem.W.nsIn K mainGlobals "is_integer" = some (some (.ref f_is_integer)))
    (l_is_integer : K.lookup f_is_integer = some ⟨oc_is_integer, od_is_integer, .func (PySem.W.fnOf "is_integer" "is_integer" (defArgs s_is_integer) (defBody s_is_integer) (defScope s_is_integer) .none kV_is_integer dc_is_integer pm_is_integer an_is_integer cd_is_integer ct_is_integer), sl_is_integer⟩)
    (cc_is_integer : PySem.W.codeIn K cd_is_integer "is_integer" = true)
    (kk_is_integer : PySem.W.keepIn K (.ref f_is_integer) = true)
    (h_m_want_days : PySem.W.nsIn K mainGlobals "want_days" = some (some (.ref f_want_days)))
    (l_want_days : K.lookup f_want_days = some ⟨oc_want_days, od_want_days, .func (PySem.W.fnOf "want_days" "want_days" (defArgs s_want_days) (defBody s_want_days) (defScope s_want_days) .none kV_want_days dc_want_days pm_want_days an_want_days cd_want_days ct_want_days), sl_want_days⟩)
    (cc_want_days : PySem.W.codeIn K cd_want_days "want_days" = true)
    (kk_want_days : PySem.W.keepIn K (.ref f_want_days) = true)
    (h_m_is_known : PySem.W.nsIn K mainGlobals "is_known" = some (some (.ref f_is_known)))
    (l_is_known : K.lookup f_is_known = some ⟨oc_is_known, od_is_known, .func (PySem.W.fnOf "is_known" "is_known" (defArgs s_is_known) (defBody s_is_known) (defScope s_is_known) .none kV_is_known dc_is_known pm_is_known an_is_known cd_is_known ct_is_known), sl_is_known⟩)
    (cc_is_known : PySem.W.codeIn K cd_is_known "is_known" = true)
    (kk_is_known : PySem.W.keepIn K (.ref f_is_known) = true)
    (h_m_is_ahead_told : PySem.W.nsIn K mainGlobals "is_ahead_told" = some (some (.ref f_is_ahead_told)))
    (l_is_ahead_told : K.lookup f_is_ahead_told = some ⟨oc_is_ahead_told, od_is_ahead_told, .func (PySem.W.fnOf "is_ahead_told" "is_ahead_told" (defArgs s_is_ahead_told) (defBody s_is_ahead_told) (defScope s_is_ahead_told) .none kV_is_ahead_told dc_is_ahead_told pm_is_ahead_told an_is_ahead_told cd_is_ahead_told ct_is_ahead_told), sl_is_ahead_told⟩)
    (cc_is_ahead_told : PySem.W.codeIn K cd_is_ahead_told "is_ahead_told" = true)
    (kk_is_ahead_told : PySem.W.keepIn K (.ref f_is_ahead_told) = true)
    (h_m_are_days_told : PySem.W.nsIn K mainGlobals "are_days_told" = some (some (.ref f_are_days_told)))
    (l_are_days_told : K.lookup f_are_days_told = some ⟨oc_are_days_told, od_are_days_told, .func (PySem.W.fnOf "are_days_told" "are_days_told" (defArgs s_are_days_told) (defBody s_are_days_told) (defScope s_are_days_told) .none kV_are_days_told dc_are_days_told pm_are_days_told an_are_days_told cd_are_days_told ct_are_days_told), sl_are_days_told⟩)
    (cc_are_days_told : PySem.W.codeIn K cd_are_days_told "are_days_told" = true)
    (kk_are_days_told : PySem.W.keepIn K (.ref f_are_days_told) = true)
    (h_m_is_count : PySem.W.nsIn K mainGlobals "is_count" = some (some (.ref f_is_count)))
    (l_is_count : K.lookup f_is_count = some ⟨oc_is_count, od_is_count, .func (PySem.W.fnOf "is_count" "is_count" (defArgs s_is_count) (defBody s_is_count) (defScope s_is_count) .none kV_is_count dc_is_count pm_is_count an_is_count cd_is_count ct_is_count), sl_is_count⟩)
    (cc_is_count : PySem.W.codeIn K cd_is_count "is_count" = true)
    (kk_is_count : PySem.W.keepIn K (.ref f_is_count) = true)
    (h_m_is_gone_told : PySem.W.nsIn K mainGlobals "is_gone_told" = some (some (.ref f_is_gone_told)))
    (l_is_gone_told : K.lookup f_is_gone_told = some ⟨oc_is_gone_told, od_is_gone_told, .func (PySem.W.fnOf "is_gone_told" "is_gone_told" (defArgs s_is_gone_told) (defBody s_is_gone_told) (defScope s_is_gone_told) .none kV_is_gone_told dc_is_gone_told pm_is_gone_told an_is_gone_told cd_is_gone_told ct_is_gone_told), sl_is_gone_told⟩)
    (cc_is_gone_told : PySem.W.codeIn K cd_is_gone_told "is_gone_told" = true)
    (kk_is_gone_told : PySem.W.keepIn K (.ref f_is_gone_told) = true)
    (h_m_is_fact : PySem.W.nsIn K mainGlobals "is_fact" = some (some (.ref f_is_fact)))
    (l_is_fact : K.lookup f_is_fact = some ⟨oc_is_fact, od_is_fact, .func (PySem.W.fnOf "is_fact" "is_fact" (defArgs s_is_fact) (defBody s_is_fact) (defScope s_is_fact) .none kV_is_fact dc_is_fact pm_is_fact an_is_fact cd_is_fact ct_is_fact), sl_is_fact⟩)
    (cc_is_fact : PySem.W.codeIn K cd_is_fact "is_fact" = true)
    (kk_is_fact : PySem.W.keepIn K (.ref f_is_fact) = true)
    (h_m_want_facts : PySem.W.nsIn K mainGlobals "want_facts" = some (some (.ref f_want_facts)))
    (l_want_facts : K.lookup f_want_facts = some ⟨oc_want_facts, od_want_facts, .func (PySem.W.fnOf "want_facts" "want_facts" (defArgs s_want_facts) (defBody s_want_facts) (defScope s_want_facts) .none kV_want_facts dc_want_facts pm_want_facts an_want_facts cd_want_facts ct_want_facts), sl_want_facts⟩)
    (cc_want_facts : PySem.W.codeIn K cd_want_facts "want_facts" = true)
    (kk_want_facts : PySem.W.keepIn K (.ref f_want_facts) = true)
    (h_at_Yardu_initu : PySem.W.findIn K (.ref a_Yard) "__init__" = some (some (.ref f_Yardu_initu)))
    (l_Yardu_initu : K.lookup f_Yardu_initu = some ⟨oc_Yardu_initu, od_Yardu_initu, .func (PySem.W.fnOf "__init__" "Yard.__init__" (defArgs s_Yardu_initu) (defBody s_Yardu_initu) (defScope s_Yardu_initu) .none kV_Yardu_initu dc_Yardu_initu pm_Yardu_initu an_Yardu_initu cd_Yardu_initu ct_Yardu_initu), sl_Yardu_initu⟩)
    (cc_Yardu_initu : PySem.W.codeIn K cd_Yardu_initu "Yard.__init__" = true)
    (kk_Yardu_initu : PySem.W.keepIn K (.ref f_Yardu_initu) = true)
    (h_fn_Yardu_initu : PySem.W.isFn K (.ref f_Yardu_initu) = true)
    (h_mk_Yard : PySem.W.makesIn K a_Yard = true)
    (h_kc_Yard : PySem.W.keepIn K (.ref a_Yard) = true)
    (h_m_law_yard : PySem.W.nsIn K mainGlobals "_law_yard" = some (some (.ref f_law_yard)))
    (l_law_yard : K.lookup f_law_yard = some ⟨oc_law_yard, od_law_yard, .func (PySem.W.fnOf "_law_yard" "_law_yard" (defArgs s_law_yard) (defBody s_law_yard) (defScope s_law_yard) .none kV_law_yard dc_law_yard pm_law_yard an_law_yard cd_law_yard ct_law_yard), sl_law_yard⟩)
    (cc_law_yard : PySem.W.codeIn K cd_law_yard "_law_yard" = true)
    (kk_law_yard : PySem.W.keepIn K (.ref f_law_yard) = true)
    (h_at_Yardu_containsu : PySem.W.findIn K (.ref a_Yard) "__contains__" = some (some (.ref f_Yardu_containsu)))
    (l_Yardu_containsu : K.lookup f_Yardu_containsu = some ⟨oc_Yardu_containsu, od_Yardu_containsu, .func (PySem.W.fnOf "__contains__" "Yard.__contains__" (defArgs s_Yardu_containsu) (defBody s_Yardu_containsu) (defScope s_Yardu_containsu) .none kV_Yardu_containsu dc_Yardu_containsu pm_Yardu_containsu an_Yardu_containsu cd_Yardu_containsu ct_Yardu_containsu), sl_Yardu_containsu⟩)
    (cc_Yardu_containsu : PySem.W.codeIn K cd_Yardu_containsu "Yard.__contains__" = true)
    (kk_Yardu_containsu : PySem.W.keepIn K (.ref f_Yardu_containsu) = true)
    (h_fn_Yardu_containsu : PySem.W.isFn K (.ref f_Yardu_containsu) = true)
    (h_m_want_box : PySem.W.nsIn K mainGlobals "want_box" = some (some (.ref f_want_box)))
    (l_want_box : K.lookup f_want_box = some ⟨oc_want_box, od_want_box, .func (PySem.W.fnOf "want_box" "want_box" (defArgs s_want_box) (defBody s_want_box) (defScope s_want_box) .none kV_want_box dc_want_box pm_want_box an_want_box cd_want_box ct_want_box), sl_want_box⟩)
    (cc_want_box : PySem.W.codeIn K cd_want_box "want_box" = true)
    (kk_want_box : PySem.W.keepIn K (.ref f_want_box) = true)
    (h_m_drawn_by : PySem.W.nsIn K mainGlobals "drawn_by" = some (some (.ref f_drawn_by)))
    (l_drawn_by : K.lookup f_drawn_by = some ⟨oc_drawn_by, od_drawn_by, .func (PySem.W.fnOf "drawn_by" "drawn_by" (defArgs s_drawn_by) (defBody s_drawn_by) (defScope s_drawn_by) .none kV_drawn_by dc_drawn_by pm_drawn_by an_drawn_by cd_drawn_by ct_drawn_by), sl_drawn_by⟩)
    (cc_drawn_by : PySem.W.codeIn K cd_drawn_by "drawn_by" = true)
    (kk_drawn_by : PySem.W.keepIn K (.ref f_drawn_by) = true)
    (h_at_Yard_boxes : PySem.W.findIn K (.ref a_Yard) "boxes" = some (some (.ref f_Yard_boxes)))
    (l_Yard_boxes : K.lookup f_Yard_boxes = some ⟨oc_Yard_boxes, od_Yard_boxes, .func (PySem.W.fnOf "boxes" "Yard.boxes" (defArgs s_Yard_boxes) (defBody s_Yard_boxes) (defScope s_Yard_boxes) .none kV_Yard_boxes dc_Yard_boxes pm_Yard_boxes an_Yard_boxes cd_Yard_boxes ct_Yard_boxes), sl_Yard_boxes⟩)
    (cc_Yard_boxes : PySem.W.codeIn K cd_Yard_boxes "Yard.boxes" = true)
    (kk_Yard_boxes : PySem.W.keepIn K (.ref f_Yard_boxes) = true)
    (h_fn_Yard_boxes : PySem.W.isFn K (.ref f_Yard_boxes) = true)
    (h_m_next_boxes : PySem.W.nsIn K mainGlobals "next_boxes" = some (some (.ref f_next_boxes)))
    (l_next_boxes : K.lookup f_next_boxes = some ⟨oc_next_boxes, od_next_boxes, .func (PySem.W.fnOf "next_boxes" "next_boxes" (defArgs s_next_boxes) (defBody s_next_boxes) (defScope s_next_boxes) .none kV_next_boxes dc_next_boxes pm_next_boxes an_next_boxes cd_next_boxes ct_next_boxes), sl_next_boxes⟩)
    (cc_next_boxes : PySem.W.codeIn K cd_next_boxes "next_boxes" = true)
    (kk_next_boxes : PySem.W.keepIn K (.ref f_next_boxes) = true)
    (h_m_boxes_behind : PySem.W.nsIn K mainGlobals "boxes_behind" = some (some (.ref f_boxes_behind)))
    (l_boxes_behind : K.lookup f_boxes_behind = some ⟨oc_boxes_behind, od_boxes_behind, .func (PySem.W.fnOf "boxes_behind" "boxes_behind" (defArgs s_boxes_behind) (defBody s_boxes_behind) (defScope s_boxes_behind) .none kV_boxes_behind dc_boxes_behind pm_boxes_behind an_boxes_behind cd_boxes_behind ct_boxes_behind), sl_boxes_behind⟩)
    (cc_boxes_behind : PySem.W.codeIn K cd_boxes_behind "boxes_behind" = true)
    (kk_boxes_behind : PySem.W.keepIn K (.ref f_boxes_behind) = true)
    (h_m_ways_of : PySem.W.nsIn K mainGlobals "ways_of" = some (some (.ref f_ways_of)))
    (l_ways_of : K.lookup f_ways_of = some ⟨oc_ways_of, od_ways_of, .func (PySem.W.fnOf "ways_of" "ways_of" (defArgs s_ways_of) (defBody s_ways_of) (defScope s_ways_of) .none kV_ways_of dc_ways_of pm_ways_of an_ways_of cd_ways_of ct_ways_of), sl_ways_of⟩)
    (cc_ways_of : PySem.W.codeIn K cd_ways_of "ways_of" = true)
    (kk_ways_of : PySem.W.keepIn K (.ref f_ways_of) = true)
    (hp_at_Yard_days : PySem.W.findIn K (.ref a_Yard) "days" = some (some (.ref p_Yard_days)))
    (hp_rec_Yard_days : PySem.W.recIn K p_Yard_days "property" = some (.ref f_Yard_days :: rs_Yard_days))
    (l_Yard_days : K.lookup f_Yard_days = some ⟨oc_Yard_days, od_Yard_days, .func (PySem.W.fnOf "days" "Yard.days" (defArgs s_Yard_days) (defBody s_Yard_days) (defScope s_Yard_days) .none kV_Yard_days dc_Yard_days pm_Yard_days an_Yard_days cd_Yard_days ct_Yard_days), sl_Yard_days⟩)
    (cc_Yard_days : PySem.W.codeIn K cd_Yard_days "Yard.days" = true)
    (kk_Yard_days : PySem.W.keepIn K (.ref f_Yard_days) = true)
    (hp_get_Yard_days : PySem.W.specialIn K (.ref p_Yard_days) "__get__" = some (some (.builtin "property.__get__")))
    (hp_tak_Yard_days : PySem.W.takesIn K (.ref p_Yard_days) = some true)
    (h_m_told_days : PySem.W.nsIn K mainGlobals "told_days" = some (some (.ref f_told_days)))
    (l_told_days : K.lookup f_told_days = some ⟨oc_told_days, od_told_days, .func (PySem.W.fnOf "told_days" "told_days" (defArgs s_told_days) (defBody s_told_days) (defScope s_told_days) .none kV_told_days dc_told_days pm_told_days an_told_days cd_told_days ct_told_days), sl_told_days⟩)
    (cc_told_days : PySem.W.codeIn K cd_told_days "told_days" = true)
    (kk_told_days : PySem.W.keepIn K (.ref f_told_days) = true)
    (h_m_drawn_days : PySem.W.nsIn K mainGlobals "drawn_days" = some (some (.ref f_drawn_days)))
    (l_drawn_days : K.lookup f_drawn_days = some ⟨oc_drawn_days, od_drawn_days, .func (PySem.W.fnOf "drawn_days" "drawn_days" (defArgs s_drawn_days) (defBody s_drawn_days) (defScope s_drawn_days) .none kV_drawn_days dc_drawn_days pm_drawn_days an_drawn_days cd_drawn_days ct_drawn_days), sl_drawn_days⟩)
    (cc_drawn_days : PySem.W.codeIn K cd_drawn_days "drawn_days" = true)
    (kk_drawn_days : PySem.W.keepIn K (.ref f_drawn_days) = true)
    (h_at_Yard_facts : PySem.W.findIn K (.ref a_Yard) "facts" = some (some (.ref f_Yard_facts)))
    (l_Yard_facts : K.lookup f_Yard_facts = some ⟨oc_Yard_facts, od_Yard_facts, .func (PySem.W.fnOf "facts" "Yard.facts" (defArgs s_Yard_facts) (defBody s_Yard_facts) (defScope s_Yard_facts) .none kV_Yard_facts dc_Yard_facts pm_Yard_facts an_Yard_facts cd_Yard_facts ct_Yard_facts), sl_Yard_facts⟩)
    (cc_Yard_facts : PySem.W.codeIn K cd_Yard_facts "Yard.facts" = true)
    (kk_Yard_facts : PySem.W.keepIn K (.ref f_Yard_facts) = true)
    (h_fn_Yard_facts : PySem.W.isFn K (.ref f_Yard_facts) = true)
    (h_m_drawn : PySem.W.nsIn K mainGlobals "drawn" = some (some (.ref f_drawn)))
    (l_drawn : K.lookup f_drawn = some ⟨oc_drawn, od_drawn, .func (PySem.W.fnOf "drawn" "drawn" (defArgs s_drawn) (defBody s_drawn) (defScope s_drawn) .none kV_drawn dc_drawn pm_drawn an_drawn cd_drawn ct_drawn), sl_drawn⟩)
    (cc_drawn : PySem.W.codeIn K cd_drawn "drawn" = true)
    (kk_drawn : PySem.W.keepIn K (.ref f_drawn) = true)
    (h_m_law_drawn : PySem.W.nsIn K mainGlobals "_law_drawn" = some (some (.ref f_law_drawn)))
    (l_law_drawn : K.lookup f_law_drawn = some ⟨oc_law_drawn, od_law_drawn, .func (PySem.W.fnOf "_law_drawn" "_law_drawn" (defArgs s_law_drawn) (defBody s_law_drawn) (defScope s_law_drawn) .none kV_law_drawn dc_law_drawn pm_law_drawn an_law_drawn cd_law_drawn ct_law_drawn), sl_law_drawn⟩)
    (cc_law_drawn : PySem.W.codeIn K cd_law_drawn "_law_drawn" = true)
    (kk_law_drawn : PySem.W.keepIn K (.ref f_law_drawn) = true)
    (h_m_law_told : PySem.W.nsIn K mainGlobals "_law_told" = some (some (.ref f_law_told)))
    (l_law_told : K.lookup f_law_told = some ⟨oc_law_told, od_law_told, .func (PySem.W.fnOf "_law_told" "_law_told" (defArgs s_law_told) (defBody s_law_told) (defScope s_law_told) .none kV_law_told dc_law_told pm_law_told an_law_told cd_law_told ct_law_told), sl_law_told⟩)
    (cc_law_told : PySem.W.codeIn K cd_law_told "_law_told" = true)
    (kk_law_told : PySem.W.keepIn K (.ref f_law_told) = true)
    (h_m_law_due : PySem.W.nsIn K mainGlobals "_law_due" = some (some (.ref f_law_due)))
    (l_law_due : K.lookup f_law_due = some ⟨oc_law_due, od_law_due, .func (PySem.W.fnOf "_law_due" "_law_due" (defArgs s_law_due) (defBody s_law_due) (defScope s_law_due) .none kV_law_due dc_law_due pm_law_due an_law_due cd_law_due ct_law_due), sl_law_due⟩)
    (cc_law_due : PySem.W.codeIn K cd_law_due "_law_due" = true)
    (kk_law_due : PySem.W.keepIn K (.ref f_law_due) = true)
    (h_m_law_with : PySem.W.nsIn K mainGlobals "_law_with" = some (some (.ref f_law_with)))
    (l_law_with : K.lookup f_law_with = some ⟨oc_law_with, od_law_with, .func (PySem.W.fnOf "_law_with" "_law_with" (defArgs s_law_with) (defBody s_law_with) (defScope s_law_with) .none kV_law_with dc_law_with pm_law_with an_law_with cd_law_with ct_law_with), sl_law_with⟩)
    (cc_law_with : PySem.W.codeIn K cd_law_with "_law_with" = true)
    (kk_law_with : PySem.W.keepIn K (.ref f_law_with) = true)
    (h_at_Yardu_addu : PySem.W.findIn K (.ref a_Yard) "__add__" = some (some (.ref f_Yardu_addu)))
    (l_Yardu_addu : K.lookup f_Yardu_addu = some ⟨oc_Yardu_addu, od_Yardu_addu, .func (PySem.W.fnOf "__add__" "Yard.__add__" (defArgs s_Yardu_addu) (defBody s_Yardu_addu) (defScope s_Yardu_addu) .none kV_Yardu_addu dc_Yardu_addu pm_Yardu_addu an_Yardu_addu cd_Yardu_addu ct_Yardu_addu), sl_Yardu_addu⟩)
    (cc_Yardu_addu : PySem.W.codeIn K cd_Yardu_addu "Yard.__add__" = true)
    (kk_Yardu_addu : PySem.W.keepIn K (.ref f_Yardu_addu) = true)
    (h_fn_Yardu_addu : PySem.W.isFn K (.ref f_Yardu_addu) = true)
    (h_bf_Yard_add_tuple : PySem.W.selfFirst K a_Yard = true)
    (h_br_Yard_add_tuple : PySem.W.findIn K (.ref a_Yard) (dunderR "add") = some none)
    (h_bo_Yard_add_tuple : PySem.W.findIn K (.type "tuple") (PySem.dunder "add") = some fo_Yard_add_tuple)
    (h_bp_Yard_add_tuple : PySem.W.findIn K (.type "tuple") (dunderR "add") = some ro_Yard_add_tuple)
    (h_bs_Yard_add_tuple : PySem.W.subIn K (.type "tuple") (.ref a_Yard) = some false)
    (h_m_law_right : PySem.W.nsIn K mainGlobals "_law_right" = some (some (.ref f_law_right)))
    (l_law_right : K.lookup f_law_right = some ⟨oc_law_right, od_law_right, .func (PySem.W.fnOf "_law_right" "_law_right" (defArgs s_law_right) (defBody s_law_right) (defScope s_law_right) .none kV_law_right dc_law_right pm_law_right an_law_right cd_law_right ct_law_right), sl_law_right⟩)
    (cc_law_right : PySem.W.codeIn K cd_law_right "_law_right" = true)
    (kk_law_right : PySem.W.keepIn K (.ref f_law_right) = true)
    (h_m_law_pot : PySem.W.nsIn K mainGlobals "_law_pot" = some (some (.ref f_law_pot)))
    (l_law_pot : K.lookup f_law_pot = some ⟨oc_law_pot, od_law_pot, .func (PySem.W.fnOf "_law_pot" "_law_pot" (defArgs s_law_pot) (defBody s_law_pot) (defScope s_law_pot) .none kV_law_pot dc_law_pot pm_law_pot an_law_pot cd_law_pot ct_law_pot), sl_law_pot⟩)
    (cc_law_pot : PySem.W.codeIn K cd_law_pot "_law_pot" = true)
    (kk_law_pot : PySem.W.keepIn K (.ref f_law_pot) = true)
    (h_m_law : PySem.W.nsIn K mainGlobals "law" = some (some (.ref f_law)))
    (l_law : K.lookup f_law = some ⟨oc_law, od_law, .func (PySem.W.fnOf "law" "law" (defArgs s_law) (defBody s_law) (defScope s_law) .none kV_law dc_law pm_law an_law cd_law ct_law), sl_law⟩)
    (cc_law : PySem.W.codeIn K cd_law "law" = true)
    (kk_law : PySem.W.keepIn K (.ref f_law) = true)
    (h_na_Yard_own_boxes : PySem.W.findIn K (.ref a_Yard) "own_boxes" = some none)
    (h_na_Yard_own_days : PySem.W.findIn K (.ref a_Yard) "own_days" = some none)
    (h_na_Yard_own_facts : PySem.W.findIn K (.ref a_Yard) "own_facts" = some none)
    (h_rd_Yard : PySem.W.readsIn K a_Yard (.type "type") = true)
    (h_ga_Yard : PySem.W.specialIn K (.ref a_Yard) "__getattribute__" = some (some (.builtin "type.__getattribute__")))
    (h_cv_Yard_MOST_BOXES : PySem.W.findCls K (.ref a_Yard) (.type "type") "MOST_BOXES" = some (.val (.int 10 tv_Yard_MOST_BOXES)))
    (h_cv_Yard_MOST_FACTS : PySem.W.findCls K (.ref a_Yard) (.type "type") "MOST_FACTS" = some (.val (.int 40 tv_Yard_MOST_FACTS)))
    : ∃ T : Txt K mg, T.f_law = fa ∧ (∀ (s : Shared) (v : Value), BindsTo s T.d_law ⟨[v], []⟩ [("_law_script", v)]) := by
  have e := hfa.symm.trans (PySem.W.mg_of X G h_m_law)
  cases e
  exact ⟨Txt.mk a_Yard (PySem.W.mg_of X G h_g_Yard) ⟨h_pg_Yard, h_hd_Yard, h_po_Yard, h_sa_Yard⟩ (PySem.W.mg_none_of X G h_n_abs) (PySem.W.mg_none_of X G h_n_all) (PySem.W.mg_none_of X G h_n_bool) (PySem.W.mg_none_of X G h_n_dict) (PySem.W.mg_none_of X G h_n_divmod) (PySem.W.mg_none_of X G h_n_enumerate) (PySem.W.mg_none_of X G h_n_int) (PySem.W.mg_none_of X G h_n_isinstance) (PySem.W.mg_none_of X G h_n_len) (PySem.W.mg_none_of X G h_n_list) (PySem.W.mg_none_of X G h_n_max) (PySem.W.mg_none_of X G h_n_min) (PySem.W.mg_none_of X G h_n_range) (PySem.W.mg_none_of X G h_n_repr) (PySem.W.mg_none_of X G h_n_sorted) (PySem.W.mg_none_of X G h_n_str) (PySem.W.mg_none_of X G h_n_sum) (PySem.W.mg_none_of X G h_n_tuple) t_AHEAD_days (PySem.W.mg_of X G h_g_AHEAD_days) t_AHEAD_yards (PySem.W.mg_of X G h_g_AHEAD_yards) t_DAYS_days (PySem.W.mg_of X G h_g_DAYS_days) t_DAYS_yards (PySem.W.mg_of X G h_g_DAYS_yards) t_GONE (PySem.W.mg_of X G h_g_GONE) t_LETTERS (PySem.W.mg_of X G h_g_LETTERS) t_LONGEST_BOX (PySem.W.mg_of X G h_g_LONGEST_BOX) t_MOST_DAYS (PySem.W.mg_of X G h_g_MOST_DAYS) f_law_draw _ (fun_mk (st := s_law_draw) l_law_draw cc_law_draw kk_law_draw) ((fun_mk (st := s_law_draw) l_law_draw cc_law_draw kk_law_draw).binds (ps := ["_law_pot_here", "_law_size"]) fun _ _ _ _ _ _ us hl => match us, hl with | [_, _], _ => rfl) (PySem.W.mg_of X G h_m_law_draw) kk_law_draw f_law_pick _ (fun_mk (st := s_law_pick) l_law_pick cc_law_pick kk_law_pick) ((fun_mk (st := s_law_pick) l_law_pick cc_law_pick kk_law_pick).binds (ps := ["_law_pot_here", "_law_some"]) fun _ _ _ _ _ _ us hl => match us, hl with | [_, _], _ => rfl) (PySem.W.mg_of X G h_m_law_pick) kk_law_pick f_law_folk _ (fun_mk (st := s_law_folk) l_law_folk cc_law_folk kk_law_folk) ((fun_mk (st := s_law_folk) l_law_folk cc_law_folk kk_law_folk).binds (ps := ["_law_pot_here", "_law_size"]) fun _ _ _ _ _ _ us hl => match us, hl with | [_, _], _ => rfl) (PySem.W.mg_of X G h_m_law_folk) kk_law_folk f_law_fact _ (fun_mk (st := s_law_fact) l_law_fact cc_law_fact kk_law_fact) ((fun_mk (st := s_law_fact) l_law_fact cc_law_fact kk_law_fact).binds (ps := ["_law_pot_here", "_law_folk_here", "_law_span"]) fun _ _ _ _ _ _ us hl => match us, hl with | [_, _, _], _ => rfl) (PySem.W.mg_of X G h_m_law_fact) kk_law_fact f_law_mixed _ (fun_mk (st := s_law_mixed) l_law_mixed cc_law_mixed kk_law_mixed) ((fun_mk (st := s_law_mixed) l_law_mixed cc_law_mixed kk_law_mixed).binds (ps := ["_law_pot_here", "_law_some"]) fun _ _ _ _ _ _ us hl => match us, hl with | [_, _], _ => rfl) (PySem.W.mg_of X G h_m_law_mixed) kk_law_mixed f_law_flat _ (fun_mk (st := s_law_flat) l_law_flat cc_law_flat kk_law_flat) ((fun_mk (st := s_law_flat) l_law_flat cc_law_flat kk_law_flat).binds (ps := ["_law_lists"]) fun _ _ _ _ _ _ us hl => match us, hl with | [_], _ => rfl) (PySem.W.mg_of X G h_m_law_flat) kk_law_flat f_law_noon _ (fun_mk (st := s_law_noon) l_law_noon cc_law_noon kk_law_noon) ((fun_mk (st := s_law_noon) l_law_noon cc_law_noon kk_law_noon).binds (ps := ["_law_told_here", "_law_label"]) fun _ _ _ _ _ _ us hl => match us, hl with | [_, _], _ => rfl) (PySem.W.mg_of X G h_m_law_noon) kk_law_noon f_law_left _ (fun_mk (st := s_law_left) l_law_left cc_law_left kk_law_left) ((fun_mk (st := s_law_left) l_law_left cc_law_left kk_law_left).binds (ps := ["_law_told_here", "_law_noon_here"]) fun _ _ _ _ _ _ us hl => match us, hl with | [_, _], _ => rfl) (PySem.W.mg_of X G h_m_law_left) kk_law_left f_law_fitting _ (fun_mk (st := s_law_fitting) l_law_fitting cc_law_fitting kk_law_fitting) ((fun_mk (st := s_law_fitting) l_law_fitting cc_law_fitting kk_law_fitting).binds (ps := ["_law_pot_here", "_law_folk_here", "_law_told_here"]) fun _ _ _ _ _ _ us hl => match us, hl with | [_, _, _], _ => rfl) (PySem.W.mg_of X G h_m_law_fitting) kk_law_fitting f_law_planted _ (fun_mk (st := s_law_planted) l_law_planted cc_law_planted kk_law_planted) ((fun_mk (st := s_law_planted) l_law_planted cc_law_planted kk_law_planted).binds (ps := ["_law_pot_here", "_law_size", "_law_top", "_law_long"]) fun _ _ _ _ _ _ us hl => match us, hl with | [_, _, _, _], _ => rfl) (PySem.W.mg_of X G h_m_law_planted) kk_law_planted f_law_model _ (fun_mk (st := s_law_model) l_law_model cc_law_model kk_law_model) ((fun_mk (st := s_law_model) l_law_model cc_law_model kk_law_model).binds (ps := ["_law_pot_here", "_law_size", "_law_top", "_law_long"]) fun _ _ _ _ _ _ us hl => match us, hl with | [_, _, _, _], _ => rfl) (PySem.W.mg_of X G h_m_law_model) kk_law_model f_is_list _ (fun_mk (st := s_is_list) l_is_list cc_is_list kk_is_list) ((fun_mk (st := s_is_list) l_is_list cc_is_list kk_is_list).binds (ps := ["value"]) fun _ _ _ _ _ _ us hl => match us, hl with | [_], _ => rfl) (PySem.W.mg_of X G h_m_is_list) kk_is_list f_is_box _ (fun_mk (st := s_is_box) l_is_box cc_is_box kk_is_box) ((fun_mk (st := s_is_box) l_is_box cc_is_box kk_is_box).binds (ps := ["value"]) fun _ _ _ _ _ _ us hl => match us, hl with | [_], _ => rfl) (PySem.W.mg_of X G h_m_is_box) kk_is_box f_want_boxes _ (fun_mk (st := s_want_boxes) l_want_boxes cc_want_boxes kk_want_boxes) ((fun_mk (st := s_want_boxes) l_want_boxes cc_want_boxes kk_want_boxes).binds (ps := ["value"]) fun _ _ _ _ _ _ us hl => match us, hl with | [_], _ => rfl) (PySem.W.mg_of X G h_m_want_boxes) kk_want_boxes f_is_integer _ (fun_mk (st := s_is_integer) l_is_integer cc_is_integer kk_is_integer) ((fun_mk (st := s_is_integer) l_is_integer cc_is_integer kk_is_integer).binds (ps := ["value"]) fun _ _ _ _ _ _ us hl => match us, hl with | [_], _ => rfl) (PySem.W.mg_of X G h_m_is_integer) kk_is_integer f_want_days _ (fun_mk (st := s_want_days) l_want_days cc_want_days kk_want_days) ((fun_mk (st := s_want_days) l_want_days cc_want_days kk_want_days).binds (ps := ["value"]) fun _ _ _ _ _ _ us hl => match us, hl with | [_], _ => rfl) (PySem.W.mg_of X G h_m_want_days) kk_want_days f_is_known _ (fun_mk (st := s_is_known) l_is_known cc_is_known kk_is_known) ((fun_mk (st := s_is_known) l_is_known cc_is_known kk_is_known).binds (ps := ["boxes", "value"]) fun _ _ _ _ _ _ us hl => match us, hl with | [_, _], _ => rfl) (PySem.W.mg_of X G h_m_is_known) kk_is_known f_is_ahead_told _ (fun_mk (st := s_is_ahead_told) l_is_ahead_told cc_is_ahead_told kk_is_ahead_told) ((fun_mk (st := s_is_ahead_told) l_is_ahead_told cc_is_ahead_told kk_is_ahead_told).binds (ps := ["boxes", "rest"]) fun _ _ _ _ _ _ us hl => match us, hl with | [_, _], _ => rfl) (PySem.W.mg_of X G h_m_is_ahead_told) kk_is_ahead_told f_are_days_told _ (fun_mk (st := s_are_days_told) l_are_days_told cc_are_days_told kk_are_days_told) ((fun_mk (st := s_are_days_told) l_are_days_told cc_are_days_told kk_are_days_told).binds (ps := ["boxes", "days", "rest"]) fun _ _ _ _ _ _ us hl => match us, hl with | [_, _, _], _ => rfl) (PySem.W.mg_of X G h_m_are_days_told) kk_are_days_told f_is_count _ (fun_mk (st := s_is_count) l_is_count cc_is_count kk_is_count) ((fun_mk (st := s_is_count) l_is_count cc_is_count kk_is_count).binds (ps := ["value"]) fun _ _ _ _ _ _ us hl => match us, hl with | [_], _ => rfl) (PySem.W.mg_of X G h_m_is_count) kk_is_count f_is_gone_told _ (fun_mk (st := s_is_gone_told) l_is_gone_told cc_is_gone_told kk_is_gone_told) ((fun_mk (st := s_is_gone_told) l_is_gone_told cc_is_gone_told kk_is_gone_told).binds (ps := ["many", "days", "rest"]) fun _ _ _ _ _ _ us hl => match us, hl with | [_, _, _], _ => rfl) (PySem.W.mg_of X G h_m_is_gone_told) kk_is_gone_told f_is_fact _ (fun_mk (st := s_is_fact) l_is_fact cc_is_fact kk_is_fact) ((fun_mk (st := s_is_fact) l_is_fact cc_is_fact kk_is_fact).binds (ps := ["boxes", "days", "value"]) fun _ _ _ _ _ _ us hl => match us, hl with | [_, _, _], _ => rfl) (PySem.W.mg_of X G h_m_is_fact) kk_is_fact f_want_facts _ (fun_mk (st := s_want_facts) l_want_facts cc_want_facts kk_want_facts) ((fun_mk (st := s_want_facts) l_want_facts cc_want_facts kk_want_facts).binds (ps := ["boxes", "days", "value"]) fun _ _ _ _ _ _ us hl => match us, hl with | [_, _, _], _ => rfl) (PySem.W.mg_of X G h_m_want_facts) kk_want_facts f_Yardu_initu _ (fun_mk (st := s_Yardu_initu) l_Yardu_initu cc_Yardu_initu kk_Yardu_initu) ((fun_mk (st := s_Yardu_initu) l_Yardu_initu cc_Yardu_initu kk_Yardu_initu).binds (ps := ["self", "boxes", "days", "facts"]) fun _ _ _ _ _ _ us hl => match us, hl with | [_, _, _, _], _ => rfl) ⟨h_mk_Yard, h_at_Yardu_initu, h_fn_Yardu_initu, h_kc_Yard⟩ f_law_yard _ (fun_mk (st := s_law_yard) l_law_yard cc_law_yard kk_law_yard) ((fun_mk (st := s_law_yard) l_law_yard cc_law_yard kk_law_yard).binds (ps := ["_law_model_here"]) fun _ _ _ _ _ _ us hl => match us, hl with | [_], _ => rfl) (PySem.W.mg_of X G h_m_law_yard) kk_law_yard f_Yardu_containsu _ (fun_mk (st := s_Yardu_containsu) l_Yardu_containsu cc_Yardu_containsu kk_Yardu_containsu) ((fun_mk (st := s_Yardu_containsu) l_Yardu_containsu cc_Yardu_containsu kk_Yardu_containsu).binds (ps := ["self", "value"]) fun _ _ _ _ _ _ us hl => match us, hl with | [_, _], _ => rfl) ⟨h_at_Yardu_containsu, h_fn_Yardu_containsu⟩ f_want_box _ (fun_mk (st := s_want_box) l_want_box cc_want_box kk_want_box) ((fun_mk (st := s_want_box) l_want_box cc_want_box kk_want_box).binds (ps := ["yard", "value"]) fun _ _ _ _ _ _ us hl => match us, hl with | [_, _], _ => rfl) (PySem.W.mg_of X G h_m_want_box) kk_want_box f_drawn_by _ (fun_mk (st := s_drawn_by) l_drawn_by cc_drawn_by kk_drawn_by) ((fun_mk (st := s_drawn_by) l_drawn_by cc_drawn_by kk_drawn_by).binds (ps := ["told", "ways"]) fun _ _ _ _ _ _ us hl => match us, hl with | [_, _], _ => rfl) (PySem.W.mg_of X G h_m_drawn_by) kk_drawn_by f_Yard_boxes _ (fun_mk (st := s_Yard_boxes) l_Yard_boxes cc_Yard_boxes kk_Yard_boxes) ((fun_mk (st := s_Yard_boxes) l_Yard_boxes cc_Yard_boxes kk_Yard_boxes).binds (ps := ["self"]) fun _ _ _ _ _ _ us hl => match us, hl with | [_], _ => rfl) ⟨h_at_Yard_boxes, h_fn_Yard_boxes, kk_Yard_boxes⟩ f_next_boxes _ (fun_mk (st := s_next_boxes) l_next_boxes cc_next_boxes kk_next_boxes) ((fun_mk (st := s_next_boxes) l_next_boxes cc_next_boxes kk_next_boxes).binds (ps := ["yard", "facts"]) fun _ _ _ _ _ _ us hl => match us, hl with | [_, _], _ => rfl) (PySem.W.mg_of X G h_m_next_boxes) kk_next_boxes f_boxes_behind _ (fun_mk (st := s_boxes_behind) l_boxes_behind cc_boxes_behind kk_boxes_behind) ((fun_mk (st := s_boxes_behind) l_boxes_behind cc_boxes_behind kk_boxes_behind).binds (ps := ["nexts", "box"]) fun _ _ _ _ _ _ us hl => match us, hl with | [_, _], _ => rfl) (PySem.W.mg_of X G h_m_boxes_behind) kk_boxes_behind f_ways_of _ (fun_mk (st := s_ways_of) l_ways_of cc_ways_of kk_ways_of) ((fun_mk (st := s_ways_of) l_ways_of cc_ways_of kk_ways_of).binds (ps := ["yard", "facts"]) fun _ _ _ _ _ _ us hl => match us, hl with | [_, _], _ => rfl) (PySem.W.mg_of X G h_m_ways_of) kk_ways_of f_Yard_days _ (fun_mk (st := s_Yard_days) l_Yard_days cc_Yard_days kk_Yard_days) ((fun_mk (st := s_Yard_days) l_Yard_days cc_Yard_days kk_Yard_days).binds (ps := ["self"]) fun _ _ _ _ _ _ us hl => match us, hl with | [_], _ => rfl) p_Yard_days ⟨hp_at_Yard_days, hp_get_Yard_days, hp_tak_Yard_days, rs_Yard_days, hp_rec_Yard_days⟩ f_told_days _ (fun_mk (st := s_told_days) l_told_days cc_told_days kk_told_days) ((fun_mk (st := s_told_days) l_told_days cc_told_days kk_told_days).binds (ps := ["yard", "facts"]) fun _ _ _ _ _ _ us hl => match us, hl with | [_, _], _ => rfl) (PySem.W.mg_of X G h_m_told_days) kk_told_days f_drawn_days _ (fun_mk (st := s_drawn_days) l_drawn_days cc_drawn_days kk_drawn_days) ((fun_mk (st := s_drawn_days) l_drawn_days cc_drawn_days kk_drawn_days).binds (ps := ["yard", "facts"]) fun _ _ _ _ _ _ us hl => match us, hl with | [_, _], _ => rfl) (PySem.W.mg_of X G h_m_drawn_days) kk_drawn_days f_Yard_facts _ (fun_mk (st := s_Yard_facts) l_Yard_facts cc_Yard_facts kk_Yard_facts) ((fun_mk (st := s_Yard_facts) l_Yard_facts cc_Yard_facts kk_Yard_facts).binds (ps := ["self"]) fun _ _ _ _ _ _ us hl => match us, hl with | [_], _ => rfl) ⟨h_at_Yard_facts, h_fn_Yard_facts, kk_Yard_facts⟩ f_drawn _ (fun_mk (st := s_drawn) l_drawn cc_drawn kk_drawn) ((fun_mk (st := s_drawn) l_drawn cc_drawn kk_drawn).binds (ps := ["yard", "box"]) fun _ _ _ _ _ _ us hl => match us, hl with | [_, _], _ => rfl) (PySem.W.mg_of X G h_m_drawn) kk_drawn f_law_drawn _ (fun_mk (st := s_law_drawn) l_law_drawn cc_law_drawn kk_law_drawn) ((fun_mk (st := s_law_drawn) l_law_drawn cc_law_drawn kk_law_drawn).binds (ps := ["_law_model_here"]) fun _ _ _ _ _ _ us hl => match us, hl with | [_], _ => rfl) (PySem.W.mg_of X G h_m_law_drawn) kk_law_drawn f_law_told _ (fun_mk (st := s_law_told) l_law_told cc_law_told kk_law_told) ((fun_mk (st := s_law_told) l_law_told cc_law_told kk_law_told).binds (ps := ["_law_made", "_law_model_here"]) fun _ _ _ _ _ _ us hl => match us, hl with | [_, _], _ => rfl) (PySem.W.mg_of X G h_m_law_told) kk_law_told f_law_due _ (fun_mk (st := s_law_due) l_law_due cc_law_due kk_law_due) ((fun_mk (st := s_law_due) l_law_due cc_law_due kk_law_due).binds (ps := ["_law_model_here"]) fun _ _ _ _ _ _ us hl => match us, hl with | [_], _ => rfl) (PySem.W.mg_of X G h_m_law_due) kk_law_due f_law_with _ (fun_mk (st := s_law_with) l_law_with cc_law_with kk_law_with) ((fun_mk (st := s_law_with) l_law_with cc_law_with kk_law_with).binds (ps := ["_law_model_here", "_law_rest"]) fun _ _ _ _ _ _ us hl => match us, hl with | [_, _], _ => rfl) (PySem.W.mg_of X G h_m_law_with) kk_law_with f_Yardu_addu _ (fun_mk (st := s_Yardu_addu) l_Yardu_addu cc_Yardu_addu kk_Yardu_addu) ((fun_mk (st := s_Yardu_addu) l_Yardu_addu cc_Yardu_addu kk_Yardu_addu).binds (ps := ["self", "other"]) fun _ _ _ _ _ _ us hl => match us, hl with | [_, _], _ => rfl) ⟨h_bf_Yard_add_tuple, h_at_Yardu_addu, h_fn_Yardu_addu, ⟨none, h_br_Yard_add_tuple, .inl rfl⟩, ⟨_, h_bo_Yard_add_tuple⟩, ⟨_, h_bp_Yard_add_tuple⟩, h_bs_Yard_add_tuple⟩ f_law_right _ (fun_mk (st := s_law_right) l_law_right cc_law_right kk_law_right) ((fun_mk (st := s_law_right) l_law_right cc_law_right kk_law_right).binds (ps := ["_law_pot_here"]) fun _ _ _ _ _ _ us hl => match us, hl with | [_], _ => rfl) (PySem.W.mg_of X G h_m_law_right) kk_law_right f_law_pot _ (fun_mk (st := s_law_pot) l_law_pot cc_law_pot kk_law_pot) ((fun_mk (st := s_law_pot) l_law_pot cc_law_pot kk_law_pot).binds (ps := ["_law_script", "_law_k"]) fun _ _ _ _ _ _ us hl => match us, hl with | [_, _], _ => rfl) (PySem.W.mg_of X G h_m_law_pot) kk_law_pot fa _ (fun_mk (st := s_law) l_law cc_law kk_law) ((fun_mk (st := s_law) l_law cc_law kk_law).binds (ps := ["_law_script"]) fun _ _ _ _ _ _ us hl => match us, hl with | [_], _ => rfl) (PySem.W.mg_of X G h_m_law) kk_law h_na_Yard_own_boxes h_na_Yard_own_days h_na_Yard_own_facts ⟨h_rd_Yard, h_ga_Yard⟩ tv_Yard_MOST_BOXES ⟨h_cv_Yard_MOST_BOXES, ⟨_, rfl⟩⟩ tv_Yard_MOST_FACTS ⟨h_cv_Yard_MOST_FACTS, ⟨_, rfl⟩⟩ (kb_of (by decide) fun us ws h1 h2 => match us, ws, h1, h2 with | [], [_, _], _, _ => rfl), rfl, fun s v => .of_eq rfl⟩
end K20
set_option Elab.async false
set_option linter.all false
set_option autoImplicit false
namespace K20
open PySem PySem.Spec PyProof.Rows L2 DL
/-- the law's pot -/
def Pot (d : D) : Prop := ∃ a b : Int, d = .lst [.int a, .int b] ∧ 0 ≤ a ∧ 0 ≤ b ∧ b < 4294967296
theorem integer_int (n : Int) : mir_is_integer [.int n] = .ok (.bl true) [none] := by
  simp [mir_is_integer, mkF_ap, b_is_integer]
theorem draw_ok {d : D} (h : Pot d) {n : Int} (h0 : 0 < n) (h1 : n < 1073741824) : ∃ k d', mir_law_draw [d, .int n] = .ok (.int k) [some d', none] ∧ 0 ≤ k ∧ k < n ∧ Pot d' := by
  obtain ⟨a, b, rfl, ha, hb, hb2⟩ := h
  by_cases hp : 0 < a
  · refine ⟨a % n, .lst [.int (a / n), .int b], ?_, Int.emod_nonneg _ (by omega), Int.emod_lt_of_pos _ h0, a / n, b, rfl, Int.ediv_nonneg ha (by omega), hb, hb2⟩
    simp [mir_law_draw, mkF_ap, b_law_draw, ixD, atI, ixN, hp, divmodD, h0, h1, setIx]
  · have hb3 : 0 ≤ (b * 48271 + 20023) % 2147483587 := Int.emod_nonneg _ (by decide)
    have hb4 : (b * 48271 + 20023) % 2147483587 < 2147483587 := Int.emod_lt_of_pos _ (by decide)
    have hm : (-(2 ^ 64) < b ∧ b < 2 ^ 64) := ⟨by omega, by omega⟩
    generalize hc : (b * 48271 + 20023) % 2147483587 = c at hb3 hb4
    have hm2 : (-(2 ^ 64) < c ∧ c < 2 ^ 64) := ⟨by omega, by omega⟩
    refine ⟨c * c % 2147483549 / 13 % n, .lst [.int a, .int c], ?_, Int.emod_nonneg _ (by omega), Int.emod_lt_of_pos _ h0, a, c, rfl, ha, hb3, by omega⟩
    have m1 : mulI (.int b) (.int 48271) = some (.int (b * 48271)) := by simp only [mulI]; rw [if_pos (.inl hm)]
    have m2 : mulI (.int c) (.int c) = some (.int (c * c)) := by simp only [mulI]; rw [if_pos (.inl hm2)]
    simp [mir_law_draw, mkF_ap, b_law_draw, ixD, atI, ixN, hp, modD, fdivD, setIx, m1, hc, m2, h0]
theorem lenD_lst (xs : List D) : lenD (.lst xs) = some (.int xs.length) := rfl
theorem ix_lst {xs : List D} {k : Int} (h0 : 0 ≤ k) (h1 : k < xs.length) : ∃ x, x ∈ xs ∧ ixD (.lst xs) (.int k) = some x := by
  have hk : k.toNat < xs.length := by omega
  refine ⟨xs[k.toNat], List.getElem_mem hk, ?_⟩
  simp [ixD, atI, ixN, h0, h1]
theorem pick_ok {d : D} (h : Pot d) {xs : List D} (h0 : xs ≠ []) (h1 : xs.length < 1000) : ∃ x d', mir_law_pick [d, .lst xs] = .ok x [some d', none] ∧ x ∈ xs ∧ Pot d' := by
  have hl : 0 < xs.length := List.length_pos_iff.mpr h0
  obtain ⟨k, d', e, k0, k1, p⟩ := draw_ok h (n := xs.length) (by omega) (by omega)
  obtain ⟨x, hx, ex⟩ := ix_lst k0 k1
  refine ⟨x, d', ?_, hx, p⟩
  simp [mir_law_pick, mkF_ap, b_law_pick, lenD_lst, e, ex]
def menu : List Str := ["a", "b", "c", "x", "y", "zz", "ab", "ba", "ahead", "days", "gone", "put", "undo", "stacks"]
def strL (bs : List Str) : List D := bs.map D.str
theorem strL_len (bs : List Str) : (strL bs).length = bs.length := by simp [strL]
theorem mem_strL {b : Str} {bs : List Str} : D.str b ∈ strL bs ↔ b ∈ bs := by simp [strL]
theorem menu_ok : ∀ b ∈ menu, PyData.strOk b = true := by decide +kernel
theorem pl_str {n : Nat} {b : Str} (h : PyData.strOk b = true) : pl n (.str b) = true := by cases n <;> simpa [pl] using h
theorem pl_strL {n : Nat} {bs : List Str} (h : ∀ b ∈ bs, b ∈ menu) : plL n (strL bs) = true := by
  rw [plL_all]
  intro x hx
  obtain ⟨b, hb, rfl⟩ := List.mem_map.mp hx
  exact pl_str (menu_ok b (h b hb))
theorem nin_str {x : Str} {bs : List Str} (hx : x ∈ menu) (h : ∀ b ∈ bs, b ∈ menu) : ninD (.str x) (.lst (strL bs)) = some (!decide (x ∈ bs)) := by
  unfold ninD
  rw [inD_lst (pl_str (menu_ok x hx)) (pl_strL h)]
  simp [mem_strL]
theorem filter_strL (p : Str → Bool) (q : D → Bool) (hq : ∀ x, q (.str x) = p x) (bs : List Str) : (strL bs).filter q = strL (bs.filter p) := by
  induction bs with
  | nil => rfl
  | cons b bs ih =>
    have e : strL (b :: bs) = .str b :: strL bs := rfl
    rw [e]
    simp only [List.filter_cons, hq, ih]
    split <;> rfl
abbrev folkB : SS := lb_law_folk_0
theorem folk_ok {d : D} (h : Pot d) {n : Int} (h0 : 1 ≤ n) (h1 : n ≤ 10) : ∃ bs d', mir_law_folk [d, .int n] = .ok (.lst (strL bs)) [some d', none] ∧ (bs.length : Int) = n ∧ bs.Nodup ∧ (∀ b ∈ bs, b ∈ menu) ∧ Pot d' := by
  have rg : rg1 [.int n] = some (rngD 0 n) := rg1_int (by simp [okI]; omega)
  have step : ∀ (i : Nat) (x : D) (r : DL.Env), (rngD 0 n)[i]? = some x → (∃ bs d', r = [some d', some (.int n), none, some (.lst (strL menu)), some (.lst (strL bs)), none] ∧ bs.length = i ∧ bs.Nodup ∧ (∀ b ∈ bs, b ∈ menu) ∧ Pot d') →
      ∃ r1 r2, (Tg.nm 2).put x r = some r1 ∧ lb_law_folk_0 r1 = .nx r2 ∧ ∃ bs d', r2 = [some d', some (.int n), none, some (.lst (strL menu)), some (.lst (strL bs)), none] ∧ bs.length = i + 1 ∧ bs.Nodup ∧ (∀ b ∈ bs, b ∈ menu) ∧ Pot d' := by
    rintro i x r hx ⟨bs, d', rfl, hl, hn, hm, hp⟩
    obtain ⟨rfl, hi⟩ := rng_get hx
    -- the names that are left
    have comp : lcL (.nm 5) [5] ct_law_folk_0 ce_law_folk_0 (strL menu) [none, some (.int n), some (.int i), some (.lst (strL menu)), some (.lst (strL bs)), none] = .ok (strL (menu.filter fun m => !decide (m ∈ bs))) [none, some (.int n), some (.int i), some (.lst (strL menu)), some (.lst (strL bs)), none] := by
      have z := lcL_pure (t := .nm 5) (vs := [5]) (ts := ct_law_folk_0) (f := ce_law_folk_0) (r := [none, some (.int n), some (.int i), some (.lst (strL menu)), some (.lst (strL bs)), none]) (fun x => match x with | .str s => !decide (s ∈ bs) | _ => false) id (items := strL menu) fun x hx => by
        obtain ⟨s, hs, rfl⟩ := List.mem_map.mp hx
        exact ⟨[none, some (.int n), some (.int i), some (.lst (strL menu)), some (.lst (strL bs)), some (.str s)], by simp, by simp [ct_law_folk_0, nin_str hs hm], by simp [ce_law_folk_0], by simp⟩
      rw [z, filter_strL (fun m => !decide (m ∈ bs)) _ (fun _ => rfl)]
      simp
    have ne : strL (menu.filter fun m => !decide (m ∈ bs)) ≠ [] := by
      intro z
      have z : menu.filter (fun m => !decide (m ∈ bs)) = [] := by simpa [strL] using z
      rw [List.filter_eq_nil_iff] at z
      have sub : ∀ m ∈ menu, m ∈ bs := fun m hm => by simpa using z m hm
      have := List.Nodup.length_le_of_subset (l₁ := menu) (l₂ := bs) (by decide +kernel) sub
      have h12 : menu.length = 14 := rfl
      omega
    obtain ⟨x, d2, e1, hx2, p2⟩ := pick_ok hp ne (by rw [strL_len]; exact Nat.lt_of_le_of_lt (List.length_filter_le _ _) (by decide))
    obtain ⟨s, hs, rfl⟩ := List.mem_map.mp hx2
    have hs := List.mem_filter.mp hs
    refine ⟨[some d', some (.int n), some (.int i), some (.lst (strL menu)), some (.lst (strL bs)), none], [some d2, some (.int n), none, some (.lst (strL menu)), some (.lst (strL (bs ++ [s]))), none], by simp, ?_, bs ++ [s], d2, rfl, by simp [hl], ?_, ?_, p2⟩
    · have hle : (menu.filter fun m => !decide (m ∈ bs)).length ≤ sizeLine := Nat.le_trans (List.length_filter_le _ _) (by decide)
      have hle2 : bs.length < sizeLine := Nat.lt_of_lt_of_le (by omega : bs.length < 10) (by decide)
      simp [lb_law_folk_0, eLc_ap, comp, e1, hle, gAppend, strL_len, hle2]
      simp [strL]
    · refine List.nodup_append.mpr ⟨hn, by simp, ?_⟩
      intro a ha b hb e
      have hb : b = s := by simpa using hb
      subst hb e
      simp [ha] at hs
    · intro b hb
      rcases List.mem_append.mp hb with hb | hb
      · exact hm b hb
      · have hb : b = s := by simpa using hb
        subst hb
        exact hs.1
  obtain ⟨r', e, bs, d', er, hl, hn, hm, hp⟩ := forL_inv (t := .nm 2) (body := lb_law_folk_0) (items := rngD 0 n) (r := [some d, some (.int n), none, some (.lst (strL menu)), some (.lst []), none]) _ ⟨[], d, rfl, rfl, .nil, by simp, h⟩ step
  rw [rng_len (by omega)] at hl
  refine ⟨bs, d', ?_, by omega, hn, hm, hp⟩
  subst er
  have e2 : sTup [3, 4] (aCons (eA mkLst (aCons (eC (.str "a")) (aCons (eC (.str "b")) (aCons (eC (.str "c")) (aCons (eC (.str "x")) (aCons (eC (.str "y")) (aCons (eC (.str "zz")) (aCons (eC (.str "ab")) (aCons (eC (.str "ba")) (aCons (eC (.str "ahead")) (aCons (eC (.str "days")) (aCons (eC (.str "gone")) (aCons (eC (.str "put")) (aCons (eC (.str "undo")) (aCons (eC (.str "stacks")) aNil))))))))))))))) (aCons (eC (.lst [])) aNil)) [some d, some (.int n), none, none, none, none] = .nx [some d, some (.int n), none, some (.lst (strL menu)), some (.lst []), none] := by
    simp [sTup, Tg.putO, mkLst, sizeLine_eq, strL, menu]
  have e3 : b_law_folk [some d, some (.int n), none, none, none, none] = .rt (.lst (strL bs)) [some d', some (.int n), none, some (.lst (strL menu)), none, none] := by
    unfold b_law_folk
    rw [sSeq_ap, e2, seq_nx, sSeq_ap, sFor_ap]
    simp [rg, e]
  simp [mir_law_folk, mkF_ap]
  rw [e3]
  simp
end K20
set_option Elab.async false
set_option linter.all false
set_option autoImplicit false
namespace K20
open PySem PySem.Spec PyProof.Rows L2 DL
/-- a fact of the yard -/
inductive Fa where
  | ah (a b : Str)
  | dy (a : Str) (f l : Int)
  | gn (k f l : Int)
def Fa.d : Fa → D
  | .ah a b => .tup [.str "ahead", .str a, .str b]
  | .dy a f l => .tup [.str "days", .str a, .int f, .int l]
  | .gn k f l => .tup [.str "gone", .int k, .int f, .int l]
def Fa.ok (bs : List Str) (span : Int) : Fa → Prop
  | .ah a b => a ∈ bs ∧ b ∈ bs ∧ a ≠ b
  | .dy a f l => a ∈ bs ∧ 1 ≤ f ∧ f ≤ l ∧ l ≤ span
  | .gn k f l => 1 ≤ k ∧ k ≤ span ∧ 0 ≤ f ∧ f ≤ l ∧ l ≤ bs.length
structure Bs (bs : List Str) : Prop where
  l1 : 1 ≤ bs.length
  l6 : bs.length ≤ 10
  nd : bs.Nodup
  mn : ∀ b ∈ bs, b ∈ menu
def SomeC (c : List D → D) : Prop := c = .lst ∨ c = .tup
theorem known_ok {c : List D → D} (hc : SomeC c) {bs : List Str} (hm : ∀ b ∈ bs, b ∈ menu) {x : Str} (hx : x ∈ menu) : mir_is_known [c (strL bs), .str x] = .ok (.bl (decide (x ∈ bs))) [none, none] := by
  rcases hc with rfl | rfl
  · simp [mir_is_known, mkF_ap, b_is_known, inD_lst (pl_str (menu_ok x hx)) (pl_strL hm), mem_strL]
  · simp [mir_is_known, mkF_ap, b_is_known, inD_tup (pl_str (menu_ok x hx)) (pl_strL hm), mem_strL]
theorem eqD_str {a b : Str} (ha : PyData.strOk a = true) (hb : PyData.strOk b = true) : eqD (.str a) (.str b) = some (decide (a = b)) := by
  rw [eqD_pl (pl_str ha) (pl_str hb)]
  simp
theorem neD_str {a b : Str} (ha : PyData.strOk a = true) (hb : PyData.strOk b = true) : neD (.str a) (.str b) = some (!decide (a = b)) := by simp [neD, eqD_str ha hb]
theorem neD_int (a b : Int) : neD (.int a) (.int b) = some (!decide (a = b)) := by simp [neD, eqD_int]
theorem ahead_ok {c : List D → D} (hc : SomeC c) {bs : List Str} (hm : ∀ b ∈ bs, b ∈ menu) {a b : Str} (ha : a ∈ bs) (hb : b ∈ bs) (hab : a ≠ b) : mir_is_ahead_told [c (strL bs), .tup [.str a, .str b]] = .ok (.bl true) [none, none] := by
  simp [mir_is_ahead_told, mkF_ap, b_is_ahead_told, eqD_int, ix_tup0, ix_tup1, known_ok hc hm (hm a ha), known_ok hc hm (hm b hb), ha, hb, neD_str (menu_ok a (hm a ha)) (menu_ok b (hm b hb)), hab]
theorem days_ok {c : List D → D} (hc : SomeC c) {bs : List Str} (hm : ∀ b ∈ bs, b ∈ menu) {a : Str} {f l span : Int} (ha : a ∈ bs) (h1 : 1 ≤ f) (h2 : f ≤ l) (h3 : l ≤ span) : mir_are_days_told [c (strL bs), .int span, .tup [.str a, .int f, .int l]] = .ok (.bl true) [none, none, none] := by
  simp [mir_are_days_told, mkF_ap, b_are_days_told, neD_int, ix_tup0, ix_tup1, ix_tup2, known_ok hc hm (hm a ha), ha, integer_int, h1, h2, h3]
theorem count_int {n : Int} (h : 0 ≤ n) : mir_is_count [.int n] = .ok (.bl true) [none] := by
  simp [mir_is_count, mkF_ap, b_is_count, integer_int, h]
theorem gone_ok {many span k f l : Int} (h1 : 1 ≤ k) (h2 : k ≤ span) (h3 : 0 ≤ f) (h4 : f ≤ l) (h5 : l ≤ many) : mir_is_gone_told [.int many, .int span, .tup [.int k, .int f, .int l]] = .ok (.bl true) [none, none, none] := by
  have h6 : 0 ≤ k := by omega
  have h7 : 0 ≤ l := by omega
  have h8 : 3 ≤ sizeLine := by decide
  simp [mir_is_gone_told, mkF_ap, b_is_gone_told, ce_is_gone_told_0, neD_int, ix_tup0, ix_tup1, ix_tup2, eLc_ap, lcL, count_int h3, count_int h6, count_int h7, h8, h1, h2, h4, h5, allD, boolsD]
theorem k_ahead : PyData.strOk "ahead" = true := by decide +kernel
theorem k_days : PyData.strOk "days" = true := by decide +kernel
theorem k_gone : PyData.strOk "gone" = true := by decide +kernel
theorem ad : ("ahead" : Str) = "days" ↔ False := by decide +kernel
theorem ag : ("ahead" : Str) = "gone" ↔ False := by decide +kernel
theorem da : ("days" : Str) = "ahead" ↔ False := by decide +kernel
theorem dg : ("days" : Str) = "gone" ↔ False := by decide +kernel
theorem ga : ("gone" : Str) = "ahead" ↔ False := by decide +kernel
theorem gd : ("gone" : Str) = "days" ↔ False := by decide +kernel
theorem cut1 (x : D) (xs : List D) : cutD (x :: xs) (some 1) none = xs := by
  have := cut_from (xs := x :: xs) (n := 1) (by simp)
  simpa using this
theorem lenC {c : List D → D} (hc : SomeC c) (xs : List D) : lenD (c xs) = some (.int xs.length) := by rcases hc with rfl | rfl <;> rfl
theorem fact_is {c : List D → D} (hc : SomeC c) {bs : List Str} (hm : ∀ b ∈ bs, b ∈ menu) {span : Int} {f : Fa} (h : f.ok bs span) : mir_is_fact [c (strL bs), .int span, f.d] = .ok (.bl true) [none, none, none] := by
  cases f with
  | ah a b =>
    obtain ⟨h1, h2, h3⟩ := h
    simp [mir_is_fact, mkF_ap, b_is_fact, Fa.d, eqD_int, ix_tup0, eqD_str k_ahead k_ahead, cut1, ahead_ok hc hm h1 h2 h3]
  | dy a f l =>
    obtain ⟨h1, h2, h3, h4⟩ := h
    simp [mir_is_fact, mkF_ap, b_is_fact, Fa.d, eqD_int, ix_tup0, eqD_str k_days k_ahead, eqD_str k_days k_days, da, cut1, days_ok hc hm h1 h2 h3 h4]
  | gn k f l =>
    obtain ⟨h1, h2, h3, h4, h5⟩ := h
    simp [mir_is_fact, mkF_ap, b_is_fact, Fa.d, eqD_int, ix_tup0, eqD_str k_gone k_ahead, eqD_str k_gone k_days, eqD_str k_gone k_gone, gd, ga, cut1, lenC hc, strL_len, gone_ok h1 h2 h3 h4 h5]
theorem ix_str {bs : List Str} {k : Int} (h0 : 0 ≤ k) (h1 : k < bs.length) : ∃ b, b ∈ bs ∧ bs[k.toNat]? = some b ∧ ixD (.lst (strL bs)) (.int k) = some (.str b) := by
  have hk : k.toNat < bs.length := by omega
  refine ⟨bs[k.toNat], List.getElem_mem hk, by simp [hk], ?_⟩
  simp [ixD, atI, ixN, h0, h1, strL, hk]
theorem law_fact_ok {d : D} (h : Pot d) {bs : List Str} (hb : Bs bs) {span : Int} (s1 : 1 ≤ span) (s9 : span ≤ 9) : ∃ f d', mir_law_fact [d, .lst (strL bs), .int span] = .ok (Fa.d f) [some d', none, none] ∧ f.ok bs span ∧ Pot d' := by
  have l1 := hb.l1
  have l6 := hb.l6
  obtain ⟨w, d1, e1, w0, w5, p1⟩ := draw_ok h (n := 5) (by omega) (by omega)
  have h3 : 3 ≤ sizeLine := by decide
  have h4 : 4 ≤ sizeLine := by decide
  by_cases c1 : w < 2 ∧ (1 : Int) < bs.length
  · obtain ⟨a, d2, e2, a0, an, p2⟩ := draw_ok p1 (n := bs.length) (by omega) (by omega)
    obtain ⟨b, d3, e3, b0, bn, p3⟩ := draw_ok p2 (n := bs.length - 1) (by omega) (by omega)
    obtain ⟨x, hx, gx, ex⟩ := ix_str (bs := bs) a0 an
    have m0 : 0 ≤ (a + 1 + b) % bs.length := Int.emod_nonneg _ (by omega)
    have mn : (a + 1 + b) % bs.length < bs.length := Int.emod_lt_of_pos _ (by omega)
    obtain ⟨y, hy, gy, ey⟩ := ix_str (bs := bs) m0 mn
    refine ⟨.ah x y, d3, ?_, ⟨hx, hy, ?_⟩, p3⟩
    · have nz : 0 < bs.length := by omega
      simp [mir_law_fact, mkF_ap, b_law_fact, e1, c1.1, c1.2, strL_len, e2, e3, ex, ey, modD, h3, Fa.d, nz]
    · intro e
      have e' : a.toNat = ((a + 1 + b) % bs.length).toNat := by
        refine (List.getElem?_inj (l := bs) (by omega) hb.nd).mp ?_
        rw [gx, gy, e]
      have e'' : a = (a + 1 + b) % bs.length := by omega
      have := Int.emod_add_mul_ediv (a + 1 + b) bs.length
      generalize hq : (a + 1 + b) / (bs.length : Int) = q at this
      rw [← e''] at this
      have h5 : (bs.length : Int) * q = 1 + b := by omega
      rcases Int.lt_or_le q 1 with h6 | h6
      · have : (bs.length : Int) * q ≤ 0 := Int.mul_nonpos_of_nonneg_of_nonpos (by omega) (by omega)
        omega
      · have : (bs.length : Int) * 1 ≤ bs.length * q := Int.mul_le_mul_of_nonneg_left h6 (by omega)
        omega
  · by_cases c2 : w < 4
    · obtain ⟨a, d2, e2, a0, an, p2⟩ := draw_ok p1 (n := span) (by omega) (by omega)
      obtain ⟨x, d3, e3, hx, p3⟩ := pick_ok p2 (xs := strL bs) (by intro z; simp [strL] at z; subst z; simp at l1) (by rw [strL_len]; omega)
      obtain ⟨x, hx2, rfl⟩ := List.mem_map.mp hx
      obtain ⟨b, d4, e4, b0, bn, p4⟩ := draw_ok p3 (n := span - (1 + a) + 1) (by omega) (by omega)
      refine ⟨.dy x (1 + a) (1 + a + b), d4, ?_, ⟨hx2, by omega, by omega, by omega⟩, p4⟩
      by_cases c3 : w < 2
      · have c4 : ¬ ((1 : Int) < bs.length) := fun z => c1 ⟨c3, z⟩
        simp [mir_law_fact, mkF_ap, b_law_fact, e1, c3, c4, strL_len, e2, e3, e4, h4, Fa.d, c2]
      · simp [mir_law_fact, mkF_ap, b_law_fact, e1, c3, strL_len, e2, e3, e4, h4, Fa.d, c2]
    · obtain ⟨a, d2, e2, a0, an, p2⟩ := draw_ok p1 (n := bs.length + 1) (by omega) (by omega)
      obtain ⟨b, d3, e3, b0, bn, p3⟩ := draw_ok p2 (n := span) (by omega) (by omega)
      obtain ⟨x, d4, e4, x0, xn, p4⟩ := draw_ok p3 (n := bs.length - a + 1) (by omega) (by omega)
      refine ⟨.gn (1 + b) a (a + x), d4, ?_, ⟨by omega, by omega, by omega, by omega, by omega⟩, p4⟩
      by_cases c3 : w < 2
      · have c4 : ¬ ((1 : Int) < bs.length) := fun z => c1 ⟨c3, z⟩
        simp [mir_law_fact, mkF_ap, b_law_fact, e1, c3, c4, strL_len, e2, e3, e4, h4, Fa.d, c2]
      · simp [mir_law_fact, mkF_ap, b_law_fact, e1, c3, strL_len, e2, e3, e4, h4, Fa.d, c2]
end K20
set_option Elab.async false
set_option linter.all false
set_option autoImplicit false
namespace K20
open PySem PySem.Spec PyProof.Rows L2 DL
def isT1 : Out → Bool
  | .ok (.bl true) [none] => true
  | _ => false
theorem isT1_eq {o : Out} (h : isT1 o = true) : o = .ok (.bl true) [none] := by
  unfold isT1 at h
  split at h
  · rfl
  · simp at h
theorem box_ok : ∀ b ∈ menu, mir_is_box [.str b] = .ok (.bl true) [none] := fun b hb => isT1_eq ((by decide +kernel : ∀ b ∈ menu, isT1 (mir_is_box [.str b]) = true) b hb)
theorem list_ok {c : List D → D} (hc : SomeC c) (xs : List D) : mir_is_list [c xs] = .ok (.bl true) [none] := by
  rcases hc with rfl | rfl <;> simp [mir_is_list, mkF_ap, b_is_list]
theorem enAC {c : List D → D} (hc : SomeC c) (n : Int) (xs : List D) : enA n [c xs] = some (enD n xs) := by rcases hc with rfl | rfl <;> rfl
theorem slC {c : List D → D} (hc : SomeC c) (xs : List D) (lo hi : Option Int) : slD (c xs) lo hi = some (c (cutD xs lo hi)) := by rcases hc with rfl | rfl <;> rfl
theorem inC_str {c : List D → D} (hc : SomeC c) {x : Str} {bs : List Str} (hx : x ∈ menu) (h : ∀ b ∈ bs, b ∈ menu) : inD (.str x) (c (strL bs)) = some (decide (x ∈ bs)) := by
  rcases hc with rfl | rfl
  · simp [inD_lst (pl_str (menu_ok x hx)) (pl_strL h), mem_strL]
  · simp [inD_tup (pl_str (menu_ok x hx)) (pl_strL h), mem_strL]
theorem strL_get {bs : List Str} {i : Nat} {x : D} (h : (strL bs)[i]? = some x) : ∃ b, bs[i]? = some b ∧ x = .str b := by
  unfold strL at h
  rw [List.getElem?_map, Option.map_eq_some_iff] at h
  obtain ⟨b, h1, h2⟩ := h
  exact ⟨b, h1, h2.symm⟩
theorem boxes_ok {c : List D → D} (hc : SomeC c) {bs : List Str} (hb : Bs bs) : mir_want_boxes [c (strL bs)] = .ok .non [none] := by
  have l1 := hb.l1
  have l6 := hb.l6
  have l1' : (1 : Int) ≤ bs.length := by omega
  have l10 : (bs.length : Int) ≤ 10 := by omega
  simp [mir_want_boxes, mkF_ap, b_want_boxes, list_ok hc, lenC hc, strL_len, l1, l10, l1', sFor_ap, enAC hc]
  obtain ⟨r', e, er⟩ := forL_inv (t := .tp [.nm 1, .nm 2]) (items := enD 0 (strL bs)) (body := lb_want_boxes_0) (r := [some (c (strL bs)), none, none]) (fun _ r => r = [some (c (strL bs)), none, none]) rfl (by
    rintro i x r hx rfl
    obtain ⟨y, hy, rfl⟩ := en_get hx
    obtain ⟨s, hs, rfl⟩ := strL_get hy
    obtain ⟨hi, hs'⟩ := List.getElem?_eq_some_iff.mp hs
    have mb : s ∈ bs := List.mem_of_getElem? hs
    refine ⟨[some (c (strL bs)), some (.int i), some (.str s)], [some (c (strL bs)), none, none], by simp, ?_, rfl⟩
    have ct : cutD (strL bs) none (some (i : Int)) = strL (bs.take i) := by
      rw [cut_to (by rw [strL_len]; omega)]
      simp [strL, List.map_take]
    have nin : ¬ s ∈ bs.take i := by
      intro z
      obtain ⟨j, hj, ej⟩ := List.getElem_of_mem z
      rw [List.length_take] at hj
      have := (List.getElem?_inj (l := bs) (i := j) (j := i) (by omega) hb.nd).mp (by rw [hs]; rw [List.getElem_take] at ej; rw [List.getElem?_eq_getElem (by omega)]; exact congrArg some ej)
      omega
    have sub : ∀ b ∈ bs.take i, b ∈ menu := fun b hx => hb.mn b (List.mem_of_mem_take hx)
    simp [lb_want_boxes_0, box_ok s (hb.mn s mb), slC hc, ct, inC_str hc (hb.mn s mb) sub, nin])
  rw [e, er]
  simp
theorem wdays_ok {n : Int} (h1 : 1 ≤ n) (h9 : n ≤ 9) : mir_want_days [.int n] = .ok .non [none] := by
  simp [mir_want_days, mkF_ap, b_want_days, integer_int, h1, h9]
def faL (fs : List Fa) : List D := fs.map Fa.d
theorem faL_get {bs : List Fa} {i : Nat} {x : D} (h : (faL bs)[i]? = some x) : ∃ b, bs[i]? = some b ∧ x = b.d := by
  unfold faL at h
  rw [List.getElem?_map, Option.map_eq_some_iff] at h
  obtain ⟨b, h1, h2⟩ := h
  exact ⟨b, h1, h2.symm⟩
theorem faL_len (fs : List Fa) : (faL fs).length = fs.length := by simp [faL]
theorem facts_ok {c e : List D → D} (hc : SomeC c) (he : SomeC e) {bs : List Str} (hm : ∀ b ∈ bs, b ∈ menu) {span : Int} {fs : List Fa} (hf : ∀ f ∈ fs, f.ok bs span) : mir_want_facts [c (strL bs), .int span, e (faL fs)] = .ok .non [none, none, none] := by
  simp [mir_want_facts, mkF_ap, b_want_facts, list_ok he, sFor_ap, enAC he]
  obtain ⟨r', e, er⟩ := forL_inv (t := .tp [.nm 3, .nm 4]) (items := enD 0 (faL fs)) (body := lb_want_facts_0) (r := [some (c (strL bs)), some (.int span), some (e (faL fs)), none, none]) (fun _ r => r = [some (c (strL bs)), some (.int span), some (e (faL fs)), none, none]) rfl (by
    rintro i x r hx rfl
    obtain ⟨y, hy, rfl⟩ := en_get hx
    obtain ⟨f, hs, rfl⟩ := faL_get hy
    refine ⟨[some (c (strL bs)), some (.int span), some (e (faL fs)), some (.int i), some f.d], [some (c (strL bs)), some (.int span), some (e (faL fs)), none, none], by simp, ?_, rfl⟩
    simp [lb_want_facts_0, fact_is hc hm (hf f (List.mem_of_getElem? hs))])
  rw [e, er]
  simp
def Yd (bs : List Str) (span : Int) (fs : List Fa) : D := .ins "Yard" [("own_boxes", .tup (strL bs)), ("own_days", .int span), ("own_facts", .tup (faL fs))]
theorem n1 : ("own_boxes" : Str) = "own_days" ↔ False := by decide +kernel
theorem n2 : ("own_boxes" : Str) = "own_facts" ↔ False := by decide +kernel
theorem n3 : ("own_days" : Str) = "own_facts" ↔ False := by decide +kernel
theorem n4 : ("own_days" : Str) = "own_boxes" ↔ False := by decide +kernel
theorem n5 : ("own_facts" : Str) = "own_boxes" ↔ False := by decide +kernel
theorem n6 : ("own_facts" : Str) = "own_days" ↔ False := by decide +kernel
theorem init_ok {c e : List D → D} (hc : SomeC c) (he : SomeC e) {bs : List Str} (hb : Bs bs) {span : Int} (s1 : 1 ≤ span) (s9 : span ≤ 9) {fs : List Fa} (hf : ∀ f ∈ fs, f.ok bs span) (hl : fs.length ≤ 40) : mir_Yardu_initu [.ins "Yard" [], c (strL bs), .int span, e (faL fs)] = .ok .non [some (Yd bs span fs), none, none, none] := by
  have hl' : ¬ ((40 : Int) < fs.length) := by omega
  have t1 : tupleD (c (strL bs)) = some (.tup (strL bs)) := by rcases hc with rfl | rfl <;> rfl
  have t2 : tupleD (e (faL fs)) = some (.tup (faL fs)) := by rcases he with rfl | rfl <;> rfl
  simp [mir_Yardu_initu, mkF_ap, b_Yardu_initu, boxes_ok hc hb, wdays_ok s1 s9, facts_ok hc he hb.mn hf, lenC he, faL_len, hl', t1, t2, putFD, n1, n2, n3, Yd]
@[simp] theorem f_boxes (bs : List Str) (span : Int) (fs : List Fa) : fldD "Yard" "own_boxes" (Yd bs span fs) = some (.tup (strL bs)) := by simp [Yd, lkF_cons]
@[simp] theorem f_days (bs : List Str) (span : Int) (fs : List Fa) : fldD "Yard" "own_days" (Yd bs span fs) = some (.int span) := by simp [Yd, lkF_cons, n4]
@[simp] theorem f_facts (bs : List Str) (span : Int) (fs : List Fa) : fldD "Yard" "own_facts" (Yd bs span fs) = some (.tup (faL fs)) := by simp [Yd, lkF_cons, n5, n6]
theorem yfacts (bs : List Str) (span : Int) (fs : List Fa) : mir_Yard_facts [Yd bs span fs] = .ok (.lst (faL fs)) [none] := by simp [mir_Yard_facts, mkF_ap, b_Yard_facts]
theorem ydays (bs : List Str) (span : Int) (fs : List Fa) : mir_Yard_days [Yd bs span fs] = .ok (.int span) [none] := by simp [mir_Yard_days, mkF_ap, b_Yard_days]
theorem yboxes (bs : List Str) (span : Int) (fs : List Fa) : mir_Yard_boxes [Yd bs span fs] = .ok (.lst (strL bs)) [none] := by simp [mir_Yard_boxes, mkF_ap, b_Yard_boxes]
theorem yin {bs : List Str} (span : Int) (fs : List Fa) (hm : ∀ b ∈ bs, b ∈ menu) {x : Str} (hx : x ∈ menu) : mir_Yardu_containsu [Yd bs span fs, .str x] = .ok (.bl (decide (x ∈ bs))) [none, none] := by simp [mir_Yardu_containsu, mkF_ap, b_Yardu_containsu, known_ok (.inr rfl) hm hx]
theorem m1 : ("facts" : Str) = "own_boxes" ↔ False := by decide +kernel
theorem m2 : ("facts" : Str) = "own_days" ↔ False := by decide +kernel
theorem m3 : ("facts" : Str) = "own_facts" ↔ False := by decide +kernel
theorem m4 : ("boxes" : Str) = "own_boxes" ↔ False := by decide +kernel
theorem m5 : ("boxes" : Str) = "own_days" ↔ False := by decide +kernel
theorem m6 : ("boxes" : Str) = "own_facts" ↔ False := by decide +kernel
@[simp] theorem e_facts (bs : List Str) (span : Int) (fs : List Fa) (r : DL.Env) : methX "Yard" "facts" 1 mir_Yard_facts aNil (Yd bs span fs) r = .ok (.lst (faL fs)) r := by
  have := yfacts bs span fs
  unfold Yd at this ⊢
  simp [methX_ins, lkF_cons, m1, m2, m3, this]
@[simp] theorem e_boxes (bs : List Str) (span : Int) (fs : List Fa) (r : DL.Env) : methX "Yard" "boxes" 1 mir_Yard_boxes aNil (Yd bs span fs) r = .ok (.lst (strL bs)) r := by
  have := yboxes bs span fs
  unfold Yd at this ⊢
  simp [methX_ins, lkF_cons, m4, m5, m6, this]
@[simp] theorem e_days (bs : List Str) (span : Int) (fs : List Fa) (r : DL.Env) : propX "Yard" mir_Yard_days (Yd bs span fs) r = .ok (.int span) r := by
  have := ydays bs span fs
  unfold Yd at this ⊢
  simp [propX_ins, this]
@[simp] theorem e_call (bs : List Str) (span : Int) (fs : List Fa) (mir : List D → Out) (x : D) (r : DL.Env) : callI "Yard" mir (Yd bs span fs) x r = mirOk mir [Yd bs span fs, x] r := by
  unfold Yd
  rw [callI_ins]
@[simp] theorem e_okEq (bs : List Str) (span : Int) (fs : List Fa) : okEq "Yard" (Yd bs span fs) = true := by
  unfold Yd
  rw [okEq_ins]
theorem e_make {c e : List D → D} (hc : SomeC c) (he : SomeC e) {bs : List Str} (hb : Bs bs) {span : Int} (s1 : 1 ≤ span) (s9 : span ≤ 9) {fs : List Fa} (hf : ∀ f ∈ fs, f.ok bs span) (hl : fs.length ≤ 40) {k : SA} {r r1 : DL.Env} (h : k r = .ok [c (strL bs), .int span, e (faL fs)] r1) : eMake "Yard" 3 mir_Yardu_initu k r = .ok (Yd bs span fs) r1 := by
  simp [h, init_ok hc he hb s1 s9 hf hl]
theorem add_ok {bs : List Str} (hb : Bs bs) {span : Int} (s1 : 1 ≤ span) (s9 : span ≤ 9) {fs : List Fa} (hf : ∀ f ∈ fs, f.ok bs span) (hl : fs.length < 40) {g : Fa} (hg : g.ok bs span) : mir_Yardu_addu [Yd bs span fs, g.d] = .ok (Yd bs span (fs ++ [g])) [none, none] := by
  have hf' : ∀ f ∈ fs ++ [g], f.ok bs span := by
    intro f h
    rcases List.mem_append.mp h with h | h
    · exact hf f h
    · rw [List.mem_singleton.mp h]; exact hg
  have ef : faL fs ++ [g.d] = faL (fs ++ [g]) := by simp [faL]
  have sz : fs.length + 1 ≤ sizeLine := small_le (by omega)
  have := init_ok (c := .tup) (e := .tup) (.inr rfl) (.inr rfl) hb s1 s9 hf' (by simp; omega)
  simp [mir_Yardu_addu, mkF_ap, b_Yardu_addu, fact_is (.inr rfl) hb.mn hg, faL_len, sz, ef, this]
theorem pl_fa {bs : List Str} (hm : ∀ b ∈ bs, b ∈ menu) {span : Int} {f : Fa} (h : f.ok bs span) (n : Nat) : pl (n + 2) f.d = true := by
  cases f with
  | ah a b => simp [Fa.d, pl, plL, k_ahead, menu_ok a (hm a h.1), menu_ok b (hm b h.2.1)]
  | dy a f l => simp [Fa.d, pl, plL, k_days, menu_ok a (hm a h.1)]
  | gn k f l => simp [Fa.d, pl, plL, k_gone]
theorem pl_faL {bs : List Str} (hm : ∀ b ∈ bs, b ∈ menu) {span : Int} {fs : List Fa} (hf : ∀ f ∈ fs, f.ok bs span) (n : Nat) : plL (n + 2) (faL fs) = true := by
  rw [plL_all]
  intro x hx
  obtain ⟨f, h, rfl⟩ := List.mem_map.mp hx
  exact pl_fa hm (hf f h) n
end K20
set_option Elab.async false
set_option linter.all false
set_option autoImplicit false
namespace K20
open PySem PySem.Spec PyProof.Rows L2 DL
theorem perm_map_ex {α β : Type} {f : α → β} {ms ns : List β} (h : ms.Perm ns) : ∀ xs : List α, ns = xs.map f → ∃ ys : List α, ys.Perm xs ∧ ms = ys.map f := by
  induction h with
  | nil =>
    intro xs e
    have : xs = [] := by simpa using e.symm
    subst this
    exact ⟨[], .refl _, rfl⟩
  | cons x p ih =>
    intro xs e
    cases xs with
    | nil => cases e
    | cons a xs =>
      rw [List.map_cons] at e
      injection e with e1 e2
      obtain ⟨ys, p2, e3⟩ := ih xs e2
      exact ⟨a :: ys, p2.cons a, by rw [List.map_cons, e3, e1]⟩
  | swap x y l =>
    intro xs e
    cases xs with
    | nil => cases e
    | cons a xs =>
      cases xs with
      | nil => cases e
      | cons b xs =>
        simp only [List.map_cons] at e
        injection e with e1 e2
        injection e2 with e2 e3
        exact ⟨b :: a :: xs, .swap a b xs, by simp only [List.map_cons, e1, e2, e3]⟩
  | trans p q ihp ihq =>
    intro xs e
    obtain ⟨ys, p1, e1⟩ := ihq xs e
    obtain ⟨zs, p2, e2⟩ := ihp ys e1
    exact ⟨zs, p2.trans p1, e2⟩
theorem erase_perm {α : Type} {xs : List α} {i : Nat} (h : i < xs.length) : (xs[i] :: xs.eraseIdx i).Perm xs := by
  have e : xs.take i ++ xs[i] :: xs.drop (i + 1) = xs := by
    rw [List.getElem_cons_drop, List.take_append_drop]
  rw [List.eraseIdx_eq_take_drop_succ]
  exact List.perm_middle.symm.trans (.of_eq e)
theorem mixed_ok {d : D} (h : Pot d) {bs : List D} (hb : bs.length < 1000) : ∃ ms d', mir_law_mixed [d, .lst bs] = .ok (.lst ms) [some d', none] ∧ ms.Perm bs ∧ Pot d' := by
  have rg : rg1 [.int (bs.length : Int)] = some (rngD 0 bs.length) := rg1_int (by simp [okI]; omega)
  obtain ⟨xs, r', e, ms, rest, d', er, ex, hp, hl, p'⟩ := lcL_inv (t := .nm 3) (vs := [3]) (ts := tYesD) (f := ce_law_mixed_0) (items := rngD 0 bs.length) (r := [some d, some (.lst bs), some (.lst bs), none]) (fun i acc r => ∃ ms rest d', r = [some d', some (.lst bs), some (.lst rest), none] ∧ acc = ms ∧ (ms ++ rest).Perm bs ∧ rest.length + i = bs.length ∧ Pot d') [] ⟨[], bs, d, rfl, rfl, .refl _, rfl, h⟩ (by
    rintro i x acc r hx ⟨ms, rest, d', rfl, rfl, hp, hl, hpot⟩
    obtain ⟨rfl, hi⟩ := rng_get hx
    obtain ⟨k, d2, e1, k0, k1, p2⟩ := draw_ok hpot (n := rest.length) (by omega) (by omega)
    have hk : k.toNat < rest.length := by omega
    refine ⟨[some d', some (.lst bs), some (.lst rest), some (.int i)], by simp, .inr ⟨[some d', some (.lst bs), some (.lst rest), some (.int i)], rest[k.toNat], [some d2, some (.lst bs), some (.lst (rest.eraseIdx k.toNat)), some (.int i)], by simp, ?_, acc ++ [rest[k.toNat]], rest.eraseIdx k.toNat, d2, by simp, rfl, ?_, ?_, p2⟩⟩
    · have hg : rest[k.toNat]? = some rest[k.toNat] := by simp [hk]
      have hix : ixN rest.length k = some k.toNat := by simp [ixN, k0, k1]
      simp [ce_law_mixed_0, e1, gPopAt, hix, hg]
    · rw [List.append_assoc]
      exact List.Perm.trans (List.Perm.append_left acc (erase_perm hk)) hp
    · rw [List.length_eraseIdx_of_lt hk]
      omega)
  rw [rng_len (by omega)] at hl
  have hr : rest = [] := List.eq_nil_of_length_eq_zero (by omega)
  subst hr er
  simp at ex hp
  refine ⟨ms, d', ?_, hp, p'⟩
  have hs : ms.length ≤ sizeLine := by rw [hp.length_eq]; exact small_le (by omega)
  subst ex
  simp [mir_law_mixed, mkF_ap, b_law_mixed, eLc_ap, rg, e, hs]
/-! leavings -/
def lvD (lvs : List (List Str)) : D := .lst (lvs.map fun l => .lst (strL l))
def Lv (bs : List Str) (lvs : List (List Str)) : Prop := lvs.flatten.Perm bs
theorem flat_ok {lvs : List (List Str)} (h : lvs.flatten.length ≤ 1000) : mir_law_flat [lvD lvs] = .ok (.lst (strL lvs.flatten)) [none] := by
  have key : ∀ (ls : List (List Str)) (acc : List Str), acc.length + ls.flatten.length ≤ 1000 → forL (.nm 2) lb_law_flat_0 (ls.map fun l => .lst (strL l)) [some (lvD lvs), some (.lst (strL acc)), none] = .nx [some (lvD lvs), some (.lst (strL (acc ++ ls.flatten))), none] := by
    intro ls
    induction ls with
    | nil => intro acc _; simp [forL]
    | cons l ls ih =>
      intro acc hl
      have hs : acc.length + l.length ≤ sizeLine := small_le (by simp at hl; omega)
      have e : lb_law_flat_0 [some (lvD lvs), some (.lst (strL acc)), some (.lst (strL l))] = .nx [some (lvD lvs), some (.lst (strL (acc ++ l))), none] := by
        simp [lb_law_flat_0, gExtend, strL_len, hs]
        simp [strL]
      rw [List.map_cons]
      unfold forL
      simp only [put_nm]
      simp only [List.length_cons, List.length_nil, Nat.reduceAdd, Nat.reduceLT, if_true, List.set_cons_succ, List.set_cons_zero]
      rw [e]
      have z := ih (acc ++ l) (by simp at hl ⊢; omega)
      simp only [List.flatten_cons, ← List.append_assoc]
      exact z
  have k := key lvs [] (by simpa using h)
  have e0 : strL [] = [] := rfl
  rw [e0, List.nil_append] at k
  have e1 : itD (lvD lvs) = some (lvs.map fun l => .lst (strL l)) := rfl
  simp [mir_law_flat, mkF_ap, b_law_flat, sFor_ap, e1, k]
theorem lvs_menu {bs : List Str} {lvs : List (List Str)} (h : Lv bs lvs) (hm : ∀ b ∈ bs, b ∈ menu) {l : List Str} (hl : l ∈ lvs) : ∀ b ∈ l, b ∈ menu := fun b hb => hm b (h.mem_iff.mp (List.mem_flatten.mpr ⟨l, hl, hb⟩))
noncomputable def hasP (b : Str) : D → Bool
  | .tup [_, .lst ys] => decide (D.str b ∈ ys)
  | _ => false
def nextD : D → D
  | .tup [.int i, _] => .int (i + 1)
  | _ => .non
theorem first_has {b : Str} : ∀ (ls : List (List Str)) (n : Int), b ∈ ls.flatten → ∃ (k : Nat) (l : List Str) (rest : List D), ls[k]? = some l ∧ b ∈ l ∧ ((enD n (ls.map fun l => D.lst (strL l))).filter (hasP b)).map nextD = .int (n + k + 1) :: rest
  | [], n, h => by simp at h
  | l :: ls, n, h => by
    have e2 : enD n ((l :: ls).map fun l => D.lst (strL l)) = .tup [.int n, .lst (strL l)] :: enD (n + 1) (ls.map fun l => D.lst (strL l)) := by
      unfold enD
      rw [List.map_cons, List.mapIdx_cons]
      refine congr (congrArg List.cons (by simp)) ?_
      congr 1
      funext i x
      rw [show n + ((i + 1 : Nat) : Int) = n + 1 + (i : Int) by omega]
    rw [e2, List.filter_cons]
    by_cases c : b ∈ l
    · refine ⟨0, l, ((enD (n + 1) (ls.map fun l => D.lst (strL l))).filter (hasP b)).map nextD, rfl, c, ?_⟩
      have hp : hasP b (.tup [.int n, .lst (strL l)]) = true := by simp [hasP, mem_strL, c]
      rw [if_pos hp, List.map_cons]
      simp [nextD]
    · have hp : ¬ hasP b (.tup [.int n, .lst (strL l)]) = true := by simp [hasP, mem_strL, c]
      rw [if_neg hp]
      obtain ⟨k, l', rest, h1, h2, h3⟩ := first_has ls (n + 1) (by simpa [c] using h)
      refine ⟨k + 1, l', rest, by simpa using h1, h2, ?_⟩
      rw [h3]
      congr 2
      omega
theorem noon_ok {bs : List Str} {lvs : List (List Str)} (h : Lv bs lvs) (hm : ∀ b ∈ bs, b ∈ menu) (hz : lvs.length ≤ 1000) {b : Str} (hb : b ∈ bs) : ∃ (k : Nat) (l : List Str), lvs[k]? = some l ∧ b ∈ l ∧ mir_law_noon [lvD lvs, .str b] = .ok (.int (k + 1)) [none, none] := by
  have mb := hm b hb
  obtain ⟨k, l, rest, h1, h2, h3⟩ := first_has lvs 0 (h.mem_iff.mpr hb)
  refine ⟨k, l, h1, h2, ?_⟩
  have z := lcL_pure (t := .tp [.nm 2, .nm 3]) (vs := [2, 3]) (ts := ct_law_noon_0) (f := ce_law_noon_0) (r := [some (lvD lvs), some (.str b), none, none]) (hasP b) nextD (items := enD 0 (lvs.map fun l => D.lst (strL l))) fun x hx => by
    obtain ⟨i, hi, ei⟩ := List.getElem_of_mem hx
    obtain ⟨y, hy, rfl⟩ := en_get (by rw [List.getElem?_eq_getElem hi, ei])
    rw [List.getElem?_map, Option.map_eq_some_iff] at hy
    obtain ⟨l', hl', rfl⟩ := hy
    have hin := inD_lst (pl_str (menu_ok b mb)) (pl_strL (n := 59) (lvs_menu h hm (List.mem_of_getElem? hl')))
    exact ⟨[some (lvD lvs), some (.str b), some (.int (0 + (i : Int))), some (.lst (strL l'))], by simp, by simp [ct_law_noon_0, hin, hasP], by simp [ce_law_noon_0, nextD], by simp⟩
  rw [h3] at z
  have e1 : enA 0 [lvD lvs] = some (enD 0 (lvs.map fun l => D.lst (strL l))) := rfl
  have sz : rest.length + 1 ≤ sizeLine := by
    have l1 := congrArg List.length h3
    rw [List.length_map] at l1
    have l2 := List.length_filter_le (hasP b) (enD 0 (lvs.map fun l => D.lst (strL l)))
    have l3 : (enD 0 (lvs.map fun l => D.lst (strL l))).length = lvs.length := by simp [enD]
    refine small_le ?_
    simp at l1
    omega
  have e0 : (0 : Int) + (k : Int) + 1 = (k : Int) + 1 := by omega
  rw [e0] at z
  have ei : ixD (.lst (.int ((k : Int) + 1) :: rest)) (.int 0) = some (.int ((k : Int) + 1)) := by simp [ixD, atI, ixN]
  simp only [mir_law_noon, mkF_ap, b_law_noon, sRet_ap, e2_ap, eLc_ap, iEn_ap, aCons_ap, aNil_ap, eVar_ap]
  simp [e1, z, sz, ei]
theorem left_ok {lvs : List (List Str)} (hz : lvs.length ≤ 1000) {k : Nat} (hk : k ≤ lvs.length) : mir_law_left [lvD lvs, .int k] = .ok (.int (lvs.take k).flatten.length) [none, none] := by
  have ct : cutD (lvs.map fun l => D.lst (strL l)) none (some (k : Int)) = (lvs.take k).map fun l => .lst (strL l) := by
    rw [cut_to (by simpa using hk), List.map_take]
  have z := lcL_pure (t := .nm 2) (vs := [2]) (ts := tYesD) (f := ce_law_left_0) (r := [some (lvD lvs), some (.int k), none]) (fun _ => true) (fun x => match x with | .lst xs => .int xs.length | _ => .non) (items := (lvs.take k).map fun l => .lst (strL l)) fun x hx => by
    obtain ⟨l, hl, rfl⟩ := List.mem_map.mp hx
    exact ⟨[some (lvD lvs), some (.int k), some (.lst (strL l))], by simp, by simp, by simp [ce_law_left_0], by simp⟩
  have ef : ((lvs.take k).map fun l => D.lst (strL l)).filter (fun _ => true) = (lvs.take k).map fun l => .lst (strL l) := List.filter_eq_self.mpr fun _ _ => rfl
  rw [ef, List.map_map] at z
  have es : ∀ ls : List (List Str), intsD (ls.map ((fun x => match x with | .lst xs => D.int xs.length | _ => .non) ∘ fun l => D.lst (strL l))) = some (ls.map fun l => (l.length : Int)) := by
    intro ls
    induction ls with
    | nil => rfl
    | cons l ls ih =>
      simp only [List.map_cons, Function.comp, intsD, strL_len] at ih ⊢
      rw [ih]
      rfl
  have el : ∀ ls : List (List Str), (ls.map fun l => (l.length : Int)).sum = (ls.flatten.length : Int) := by
    intro ls
    induction ls with
    | nil => rfl
    | cons l ls ih => simp [ih]
  have sz : (lvs.take k).length ≤ sizeLine := small_le (by simp; omega)
  have sl : slD (lvD lvs) none (some (k : Int)) = some (.lst ((lvs.take k).map fun l => .lst (strL l))) := by unfold lvD; rw [slD_lst, ct]
  have ei : intsD (((lvs.take k).map ((fun x => match x with | .lst xs => D.int xs.length | _ => .non) ∘ fun l => D.lst (strL l)))) = some ((lvs.take k).map fun l => (l.length : Int)) := es _
  have sz2 : ((lvs.take k).map ((fun x => match x with | .lst xs => D.int xs.length | _ => .non) ∘ fun l => D.lst (strL l))).length ≤ sizeLine := by rw [List.length_map]; exact sz
  have ew := el (lvs.take k)
  generalize ((lvs.take k).map ((fun x => match x with | .lst xs => D.int xs.length | _ => .non) ∘ fun l => D.lst (strL l))) = out at z ei sz2
  generalize (lvs.take k).map (fun l => D.lst (strL l)) = items at z sl
  generalize (lvs.take k).map (fun l => (l.length : Int)) = ns at ei ew
  generalize (lvs.take k).flatten.length = m at ew
  simp [mir_law_left, mkF_ap, b_law_left, eLc_ap, sl, z, sz2, sumD, ei, ew]
end K20
set_option Elab.async false
set_option linter.all false
set_option autoImplicit false
namespace K20
open PySem PySem.Spec PyProof.Rows L2 DL
/-- a leaving fits a fact -/
def Fits (lvs : List (List Str)) : Fa → Prop
  | .ah a b => ∃ i j : Nat, i < j ∧ lvs.flatten[i]? = some a ∧ lvs.flatten[j]? = some b
  | .dy a f l => ∃ (k : Nat) (x : List Str), lvs[k]? = some x ∧ a ∈ x ∧ f ≤ k + 1 ∧ (k : Int) + 1 ≤ l
  | .gn k f l => f ≤ (lvs.take k.toNat).flatten.length ∧ ((lvs.take k.toNat).flatten.length : Int) ≤ l
theorem mul_small {a b : Int} (h0 : 0 ≤ a) (h1 : a < 2) : mulI (.int a) (.int b) = some (.int (a * b)) := by
  have hm : (-(2 ^ 64) < a ∧ a < 2 ^ 64) := ⟨by omega, by omega⟩
  simp only [mulI]
  rw [if_pos (.inl hm)]
theorem prod01 {a b n : Int} (h0 : 0 ≤ a) (h1 : a < 2) (b0 : 0 ≤ b) (bn : b < n) : 0 ≤ a * b ∧ a * b < n := by
  have : a = 0 ∨ a = 1 := by omega
  rcases this with rfl | rfl
  · simp; omega
  · simp; omega
theorem take_le {lvs : List (List Str)} {bs : List Str} (h : Lv bs lvs) (k : Nat) : (lvs.take k).flatten.length ≤ bs.length := by
  have e : (lvs.take k ++ lvs.drop k).flatten.length = bs.length := by rw [List.take_append_drop]; exact h.length_eq
  rw [List.flatten_append, List.length_append] at e
  omega
theorem lenD_lv (lvs : List (List Str)) : lenD (lvD lvs) = some (.int lvs.length) := by simp [lvD]
theorem fitting_ok {d : D} (h : Pot d) {bs : List Str} (hb : Bs bs) {lvs : List (List Str)} (lv : Lv bs lvs) (s1 : 1 ≤ lvs.length) (s9 : lvs.length ≤ 9) : ∃ f d', mir_law_fitting [d, .lst (strL bs), lvD lvs] = .ok (Fa.d f) [some d', none, none] ∧ f.ok bs lvs.length ∧ Fits lvs f ∧ Pot d' := by
  have l1 := hb.l1
  have l6 := hb.l6
  have rl : lvs.flatten.length = bs.length := lv.length_eq
  have fl := flat_ok (lvs := lvs) (by omega)
  obtain ⟨w, d1, e1, w0, w5, p1⟩ := draw_ok h (n := 6) (by omega) (by omega)
  have h3 : 3 ≤ sizeLine := by decide
  have h4 : 4 ≤ sizeLine := by decide
  have nd : lvs.flatten.Nodup := lv.nodup_iff.mpr hb.nd
  by_cases c1 : w < 2 ∧ (1 : Int) < bs.length
  · obtain ⟨a, d2, e2, a0, an, p2⟩ := draw_ok p1 (n := lvs.flatten.length - 1) (by omega) (by omega)
    obtain ⟨b, d3, e3, b0, bn, p3⟩ := draw_ok p2 (n := lvs.flatten.length - a - 1) (by omega) (by omega)
    obtain ⟨x, hx, gx, ex⟩ := ix_str (bs := lvs.flatten) (k := a) a0 (by omega)
    obtain ⟨y, hy, gy, ey⟩ := ix_str (bs := lvs.flatten) (k := a + 1 + b) (by omega) (by omega)
    refine ⟨.ah x y, d3, ?_, ⟨lv.mem_iff.mp hx, lv.mem_iff.mp hy, ?_⟩, ⟨a.toNat, (a + 1 + b).toNat, by omega, gx, gy⟩, p3⟩
    · generalize lvs.flatten = row at fl e2 e3 ex ey
      simp [mir_law_fitting, mkF_ap, b_law_fitting, fl, e1, c1.1, c1.2, lenD_lv, strL_len, e2, e3, ex, ey, h3, Fa.d]
    · intro e
      have e' : a.toNat = (a + 1 + b).toNat := by
        refine (List.getElem?_inj (l := lvs.flatten) (by omega) nd).mp ?_
        rw [gx, gy, e]
      omega
  · by_cases c2 : w < 4
    · obtain ⟨x, d3, e3, hx, p3⟩ := pick_ok p1 (xs := strL bs) (by intro z; simp [strL] at z; subst z; simp at l1) (by rw [strL_len]; omega)
      obtain ⟨x, hx2, rfl⟩ := List.mem_map.mp hx
      obtain ⟨k, l, hk, hl, en⟩ := noon_ok lv hb.mn (by omega) hx2
      have hkl : k < lvs.length := (List.getElem?_eq_some_iff.mp hk).1
      obtain ⟨a, d4, e4, a0, an, p4⟩ := draw_ok p3 (n := 2) (by omega) (by omega)
      obtain ⟨b, d5, e5, b0, bn, p5⟩ := draw_ok p4 (n := (k : Int) + 1) (by omega) (by omega)
      obtain ⟨a', d6, e6, a0', an', p6⟩ := draw_ok p5 (n := 2) (by omega) (by omega)
      obtain ⟨b', d7, e7, b0', bn', p7⟩ := draw_ok p6 (n := (lvs.length : Int) - ((k : Int) + 1) + 1) (by omega) (by omega)
      obtain ⟨q1, q2⟩ := prod01 a0 an b0 bn
      obtain ⟨q3, q4⟩ := prod01 a0' an' b0' bn'
      have m1 := mul_small (b := b) a0 an
      have m2 := mul_small (b := b') a0' an'
      generalize a * b = u at q1 q2 m1
      generalize a' * b' = v at q3 q4 m2
      refine ⟨.dy x ((k : Int) + 1 - u) ((k : Int) + 1 + v), d7, ?_, ⟨hx2, by omega, by omega, by omega⟩, ⟨k, l, hk, hl, by omega, by omega⟩, p7⟩
      by_cases c3 : w < 2
      · have c4 : ¬ ((1 : Int) < bs.length) := fun z => c1 ⟨c3, z⟩
        simp [mir_law_fitting, mkF_ap, b_law_fitting, fl, e1, c3, c4, lenD_lv, strL_len, e3, en, e4, e5, e6, e7, m1, m2, h4, Fa.d, c2]
      · simp [mir_law_fitting, mkF_ap, b_law_fitting, fl, e1, c3, lenD_lv, strL_len, e3, en, e4, e5, e6, e7, m1, m2, h4, Fa.d, c2]
    · obtain ⟨n, d2, e2, n0, nn, p2⟩ := draw_ok p1 (n := lvs.length) (by omega) (by omega)
      obtain ⟨k, hk⟩ : ∃ k : Nat, 1 + n = (k : Int) := ⟨(1 + n).toNat, by omega⟩
      have hkl : k ≤ lvs.length := by omega
      have lf := left_ok (lvs := lvs) (by omega) hkl
      have tl := take_le lv k
      have tk : (lvs.take ((k : Int)).toNat).flatten.length = (lvs.take k).flatten.length := by rw [Int.toNat_natCast]
      generalize hm : (lvs.take k).flatten.length = m at lf tl tk
      obtain ⟨a, d4, e4, a0, an, p4⟩ := draw_ok p2 (n := 2) (by omega) (by omega)
      obtain ⟨b, d5, e5, b0, bn, p5⟩ := draw_ok p4 (n := (m : Int) + 1) (by omega) (by omega)
      obtain ⟨a', d6, e6, a0', an', p6⟩ := draw_ok p5 (n := 2) (by omega) (by omega)
      obtain ⟨b', d7, e7, b0', bn', p7⟩ := draw_ok p6 (n := (bs.length : Int) - (m : Int) + 1) (by omega) (by omega)
      obtain ⟨q1, q2⟩ := prod01 a0 an b0 bn
      obtain ⟨q3, q4⟩ := prod01 a0' an' b0' bn'
      have m1 := mul_small (b := b) a0 an
      have m2 := mul_small (b := b') a0' an'
      generalize a * b = u at q1 q2 m1
      generalize a' * b' = v at q3 q4 m2
      refine ⟨.gn k ((m : Int) - u) ((m : Int) + v), d7, ?_, ⟨by omega, by omega, by omega, by omega, by omega⟩, ⟨by rw [tk]; omega, by rw [tk]; omega⟩, p7⟩
      by_cases c3 : w < 2
      · have c4 : ¬ ((1 : Int) < bs.length) := fun z => c1 ⟨c3, z⟩
        simp [mir_law_fitting, mkF_ap, b_law_fitting, fl, e1, c3, c4, lenD_lv, strL_len, e2, hk, lf, e4, e5, e6, e7, m1, m2, h4, Fa.d, c2]
      · simp [mir_law_fitting, mkF_ap, b_law_fitting, fl, e1, c3, lenD_lv, strL_len, e2, hk, lf, e4, e5, e6, e7, m1, m2, h4, Fa.d, c2]
end K20
set_option Elab.async false
set_option linter.all false
set_option autoImplicit false
set_option maxHeartbeats 1000000
namespace K20
open PySem PySem.Spec PyProof.Rows L2 DL
/-- pieces of a row between rising ends -/
def pieces (row : List Str) (es : List Nat) : List (List Str) := (List.range (es.length - 1)).map fun k => (row.drop (es.getD k 0)).take (es.getD (k + 1) 0 - es.getD k 0)
theorem pieces_flat {row : List Str} {es : List Nat} (h0 : es.getD 0 0 = 0) (mono : ∀ k, k + 1 < es.length → es.getD k 0 ≤ es.getD (k + 1) 0) (top : es.getD (es.length - 1) 0 = row.length) : (pieces row es).flatten = row := by
  have key : ∀ m, m ≤ es.length - 1 → ((List.range m).map fun k => (row.drop (es.getD k 0)).take (es.getD (k + 1) 0 - es.getD k 0)).flatten = row.take (es.getD m 0) := by
    intro m
    induction m with
    | zero => intro _; rw [h0]; simp
    | succ m ih =>
      intro hm
      rw [List.range_succ, List.map_append, List.flatten_append, ih (by omega)]
      simp only [List.map_cons, List.map_nil, List.flatten_cons, List.flatten_nil, List.append_nil]
      have := mono m (by omega)
      generalize es.getD m 0 = a at this ⊢
      generalize es.getD (m + 1) 0 = b at this ⊢
      rw [← List.drop_take]
      conv => rhs; rw [← List.take_append_drop a (row.take b)]
      rw [List.take_take, Nat.min_eq_left this]
  have z := key (es.length - 1) (Nat.le_refl _)
  rw [top, List.take_length] at z
  exact z
theorem cut_mid {xs : List D} {a b : Nat} (h : a ≤ b) (hb : b ≤ xs.length) : DL.cutD xs (some (a : Int)) (some (b : Int)) = (xs.drop a).take (b - a) := by
  simp only [DL.cutD, HT.sIx_nat]
  rw [Nat.min_eq_left hb, Nat.min_eq_left (by omega)]
/-- many draws -/
theorem draws_ok {d : D} (h : Pot d) {n : Int} (h0 : 0 < n) (h1 : n < 1073741824) {m : Int} {t : Tg} {vs : List Nat} {f : SE} (env : D → DL.Env) (hp : ∀ (i : Nat) (d : D), (i : Int) < m → ∃ r1, t.put (.int i) (env d) = some r1 ∧ ∀ k d', mir_law_draw [d, .int n] = .ok (.int k) [some d', none] → ∃ r3, f r1 = .ok (.int k) r3 ∧ wipeE r3 vs = env d') (m0 : 0 ≤ m) :
    ∃ (ws : List Int) (d' : D), lcL t vs tYesD f (rngD 0 m) (env d) = .ok (ws.map D.int) (env d') ∧ (ws.length : Int) = m ∧ (∀ w ∈ ws, 0 ≤ w ∧ w < n) ∧ Pot d' := by
  obtain ⟨xs, r', e, ws, d', er, ex, hl, hw, p⟩ := lcL_inv (t := t) (vs := vs) (ts := tYesD) (f := f) (items := rngD 0 m) (r := env d) (fun i acc r => ∃ (ws : List Int) (d' : D), r = env d' ∧ acc = ws.map D.int ∧ ws.length = i ∧ (∀ w ∈ ws, 0 ≤ w ∧ w < n) ∧ Pot d') [] ⟨[], d, rfl, rfl, rfl, by simp, h⟩ (by
    rintro i x acc r hx ⟨ws, d', rfl, rfl, hl, hw, hpot⟩
    obtain ⟨rfl, hi⟩ := rng_get hx
    obtain ⟨k, d2, e1, k0, k1, p2⟩ := draw_ok hpot h0 h1
    obtain ⟨r1, e2, e3⟩ := hp i d' hi
    obtain ⟨r3, e4, e5⟩ := e3 k d2 e1
    refine ⟨r1, e2, .inr ⟨r1, .int k, r3, rfl, e4, ws ++ [k], d2, e5, by simp, by simp [hl], fun w hm => ?_, p2⟩⟩
    rcases List.mem_append.mp hm with z | z
    · exact hw w z
    · have : w = k := by simpa using z
      subst this
      exact ⟨k0, k1⟩)
  rw [rng_len m0] at hl
  subst er
  refine ⟨ws, d', ?_, by omega, hw, p⟩
  rw [e]
  simp at ex
  rw [ex]
theorem facts_made {d : D} (h : Pot d) {m : Int} {t : Tg} {vs : List Nat} {f : SE} {good : Fa → Prop} (env : D → DL.Env) (hp : ∀ (i : Nat) (d : D), (i : Int) < m → Pot d → ∃ r1, t.put (.int i) (env d) = some r1 ∧ ∃ g d' r3, f r1 = .ok (Fa.d g) r3 ∧ wipeE r3 vs = env d' ∧ good g ∧ Pot d') (m0 : 0 ≤ m) :
    ∃ (gs : List Fa) (d' : D), lcL t vs tYesD f (rngD 0 m) (env d) = .ok (faL gs) (env d') ∧ (gs.length : Int) = m ∧ (∀ g ∈ gs, good g) ∧ Pot d' := by
  obtain ⟨xs, r', e, ws, d', er, ex, hl, hw, p⟩ := lcL_inv (t := t) (vs := vs) (ts := tYesD) (f := f) (items := rngD 0 m) (r := env d) (fun i acc r => ∃ (ws : List Fa) (d' : D), r = env d' ∧ acc = faL ws ∧ ws.length = i ∧ (∀ w ∈ ws, good w) ∧ Pot d') [] ⟨[], d, rfl, rfl, rfl, by simp, h⟩ (by
    rintro i x acc r hx ⟨ws, d', rfl, rfl, hl, hw, hpot⟩
    obtain ⟨rfl, hi⟩ := rng_get hx
    obtain ⟨r1, e2, g, d2, r3, e4, e5, gg, p2⟩ := hp i d' hi hpot
    refine ⟨r1, e2, .inr ⟨r1, g.d, r3, rfl, e4, ws ++ [g], d2, e5, by simp [faL], by simp [hl], fun w hm => ?_, p2⟩⟩
    rcases List.mem_append.mp hm with z | z
    · exact hw w z
    · have : w = g := by simpa using z
      subst this
      exact gg)
  rw [rng_len m0] at hl
  subst er
  refine ⟨ws, d', ?_, by omega, hw, p⟩
  rw [e]
  simp at ex
  rw [ex]
/-- what the law keeps of a yard -/
def mdl (bs : List Str) (n : Int) (fs : List Fa) (rest : List (D × D)) : D := .dct false ((.str "folk", .lst (strL bs)) :: (.str "span", .int n) :: (.str "tale", .lst (faL fs)) :: rest)
theorem kFF : keyB (.str "folk") (.str "folk") = true := by decide +kernel
theorem kFS : keyB (.str "folk") (.str "span") = false := by decide +kernel
theorem kFT : keyB (.str "folk") (.str "tale") = false := by decide +kernel
theorem kSS : keyB (.str "span") (.str "span") = true := by decide +kernel
theorem kST : keyB (.str "span") (.str "tale") = false := by decide +kernel
theorem kTT : keyB (.str "tale") (.str "tale") = true := by decide +kernel
theorem mdl_folk (bs : List Str) (n : Int) (fs : List Fa) (rest : List (D × D)) : ixD (mdl bs n fs rest) (.str "folk") = some (.lst (strL bs)) := by
  simp [mdl, ixD, lookD, toKey, kFF]
theorem mdl_span (bs : List Str) (n : Int) (fs : List Fa) (rest : List (D × D)) : ixD (mdl bs n fs rest) (.str "span") = some (.int n) := by
  simp [mdl, ixD, lookD, toKey, kFS, kSS]
theorem mdl_tale (bs : List Str) (n : Int) (fs : List Fa) (rest : List (D × D)) : ixD (mdl bs n fs rest) (.str "tale") = some (.lst (faL fs)) := by
  simp [mdl, ixD, lookD, toKey, kFT, kST, kTT]
end K20
set_option Elab.async false
set_option linter.all false
set_option autoImplicit false
set_option maxHeartbeats 2000000
namespace K20
open PySem PySem.Spec PyProof.Rows L2 DL
theorem span_okI {m : Int} (h0 : 0 ≤ m) (h1 : m ≤ 1000) : rg1 [.int m] = some (rngD 0 m) := rg1_int (by simp [okI]; omega)
/-- the ends that are drawn -/
def endsOf (ws : List Int) (n : Nat) : List Int := 0 :: (sortI ws ++ [(n : Int)])
theorem ends_len (ws : List Int) (n : Nat) : (endsOf ws n).length = ws.length + 2 := by simp [endsOf, (sortI_perm ws).length_eq]
theorem ends_sorted {ws : List Int} {n : Nat} (h : ∀ w ∈ ws, 0 ≤ w ∧ w < (n : Int) + 1) : (endsOf ws n).Pairwise (· ≤ ·) := by
  unfold endsOf
  have hw : ∀ w ∈ sortI ws, 0 ≤ w ∧ w < (n : Int) + 1 := fun w hm => h w ((sortI_perm ws).mem_iff.mp hm)
  rw [List.pairwise_cons, List.pairwise_append]
  refine ⟨fun w hm => ?_, sortI_sorted ws, List.pairwise_singleton _ _, fun a ha b hb => ?_⟩
  · rcases List.mem_append.mp hm with z | z
    · exact (hw w z).1
    · have : w = (n : Int) := by simpa using z
      omega
  · have : b = (n : Int) := by simpa using hb
    have := (hw a ha).2
    omega
theorem ends_mem {ws : List Int} {n : Nat} (h : ∀ w ∈ ws, 0 ≤ w ∧ w < (n : Int) + 1) : ∀ w ∈ endsOf ws n, 0 ≤ w ∧ w ≤ n := by
  intro w hm
  simp only [endsOf, List.mem_cons, List.mem_append, List.not_mem_nil, or_false] at hm
  rcases hm with rfl | z | rfl
  · omega
  · have := h w ((sortI_perm ws).mem_iff.mp z); omega
  · omega
theorem ends_get {ws : List Int} {n : Nat} (h : ∀ w ∈ ws, 0 ≤ w ∧ w < (n : Int) + 1) {k : Nat} (hk : k < (endsOf ws n).length) : ((((endsOf ws n).map Int.toNat).getD k 0 : Nat) : Int) = (endsOf ws n)[k] ∧ ((endsOf ws n).map Int.toNat).getD k 0 ≤ n := by
  have e : ((endsOf ws n).map Int.toNat).getD k 0 = ((endsOf ws n)[k]).toNat := by
    rw [List.getD_eq_getElem?_getD, List.getElem?_map, List.getElem?_eq_getElem hk]
    rfl
  have := ends_mem h _ (List.getElem_mem hk)
  rw [e]
  omega
theorem planted_ok {d : D} (h : Pot d) {sz top long : Int} (z1 : 1 ≤ sz) (z2 : sz ≤ 10) (t1 : 1 ≤ top) (t2 : top ≤ 9) (g0 : 0 ≤ long) (g1 : long ≤ 39) :
    ∃ bs lvs fs d', mir_law_planted [d, .int sz, .int top, .int long] = .ok (mdl bs lvs.length fs [(.str "told", lvD lvs)]) [some d', none, none, none] ∧ Bs bs ∧ (bs.length : Int) ≤ sz ∧ Lv bs lvs ∧ 1 ≤ lvs.length ∧ (lvs.length : Int) ≤ top ∧ (∀ f ∈ fs, f.ok bs lvs.length ∧ Fits lvs f) ∧ (fs.length : Int) ≤ long ∧ Pot d' := by
  obtain ⟨n1, d1, e1, a1, b1, p1⟩ := draw_ok h (n := sz) (by omega) (by omega)
  obtain ⟨bs, d2, e2, hl, hnd, hmn, p2⟩ := folk_ok p1 (n := 1 + n1) (by omega) (by omega)
  obtain ⟨n3, d3, e3, a3, b3, p3⟩ := draw_ok p2 (n := top) (by omega) (by omega)
  have hb : Bs bs := ⟨by omega, by omega, hnd, hmn⟩
  obtain ⟨ms, d4, e4, pm, p4⟩ := mixed_ok p3 (bs := strL bs) (by rw [strL_len]; omega)
  obtain ⟨row, pr, rfl⟩ := perm_map_ex pm bs rfl
  have rl : row.length = bs.length := pr.length_eq
  -- the ends
  obtain ⟨ws, d5, e5, wl, ww, p5⟩ := draws_ok p4 (n := (bs.length : Int) + 1) (by omega) (by omega) (m := n3) (t := .nm 11) (vs := [11]) (f := ce_law_planted_0) (fun d => [some d, some (.int sz), some (.int top), some (.int long), some (.lst (strL row)), none, none, none, some (.lst (strL bs)), some (.int (1 + n3)), none, none]) (fun i d hi => ⟨_, by simp; rfl, fun k d' ek => ⟨_, by simp [ce_law_planted_0, strL_len, ek]; rfl, by simp⟩⟩) a3
  -- the leaving
  let es := endsOf ws bs.length
  let en := es.map Int.toNat
  have ln : es.length = ws.length + 2 := ends_len _ _
  have enl : en.length = es.length := by simp [en]
  let lvs := pieces row en
  have lvl : (lvs.length : Int) = 1 + n3 := by
    have : lvs.length = en.length - 1 := by simp [lvs, pieces]
    omega
  have srt : es.Pairwise (· ≤ ·) := ends_sorted ww
  have gk : ∀ k, (hk : k < es.length) → ((en.getD k 0 : Nat) : Int) = es[k] ∧ en.getD k 0 ≤ bs.length := fun k hk => ends_get ww hk
  have mono : ∀ k, k + 1 < en.length → en.getD k 0 ≤ en.getD (k + 1) 0 := by
    intro k hk
    have h1 := (gk k (by omega)).1
    have h2 := (gk (k + 1) (by omega)).1
    have h3 := List.pairwise_iff_getElem.mp srt k (k + 1) (by omega) (by omega) (by omega)
    omega
  have top0 : en.getD (en.length - 1) 0 = row.length := by
    have h1 := (gk (en.length - 1) (by omega)).1
    have h2 : es[en.length - 1]'(by omega) = (bs.length : Int) := by
      have : es = (0 :: sortI ws) ++ [(bs.length : Int)] := by simp [es, endsOf]
      simp only [this]
      rw [List.getElem_append_right (by simp [(sortI_perm ws).length_eq]; omega)]
      simp
    omega
  have lvf : lvs.flatten = row := pieces_flat (by simp [en, es, endsOf]) mono top0
  have lv : Lv bs lvs := by unfold Lv; rw [lvf]; exact pr
  have e6 : lcL (.nm 10) [10] tYesD ce_law_planted_1 (rngD 0 (1 + n3)) [some d5, some (.int sz), some (.int top), some (.int long), some (.lst (strL row)), some (.lst (es.map D.int)), none, none, some (.lst (strL bs)), some (.int (1 + n3)), none, none] = .ok (lvs.map fun l => .lst (strL l)) [some d5, some (.int sz), some (.int top), some (.int long), some (.lst (strL row)), some (.lst (es.map D.int)), none, none, some (.lst (strL bs)), some (.int (1 + n3)), none, none] := by
    let pc : Nat → List Str := fun k => (row.drop (en.getD k 0)).take (en.getD (k + 1) 0 - en.getD k 0)
    have z := lcL_map (t := .nm 10) (vs := [10]) (f := ce_law_planted_1) (r := [some d5, some (.int sz), some (.int top), some (.int long), some (.lst (strL row)), some (.lst (es.map D.int)), none, none, some (.lst (strL bs)), some (.int (1 + n3)), none, none]) (items := rngD 0 (1 + n3)) (fun x => match x with | .int k => .lst (strL (pc k.toNat)) | _ => .non) fun x hx => by
      obtain ⟨i, hi, ei⟩ := List.getElem_of_mem hx
      obtain ⟨rfl, hi2⟩ := rng_get (by rw [List.getElem?_eq_getElem hi, ei])
      have k1 : i < es.length := by omega
      have k2 : i + 1 < es.length := by omega
      have i1 : ixD (.lst (es.map D.int)) (.int i) = some (.int (en.getD i 0)) := by
        rw [ix_lstG (by simpa using k1), (gk i k1).1]
        simp
      have i2 : ixD (.lst (es.map D.int)) (.int ((i : Int) + 1)) = some (.int (en.getD (i + 1) 0)) := by
        rw [show (i : Int) + 1 = ((i + 1 : Nat) : Int) by omega, ix_lstG (by simpa using k2), (gk (i + 1) k2).1]
        simp
      have cm := cut_mid (xs := strL row) (mono i (by omega)) (by rw [strL_len]; have := (gk (i + 1) k2).2; omega)
      have sd : (List.drop (en.getD i 0) (strL row)).take (en.getD (i + 1) 0 - en.getD i 0) = strL (pc i) := by simp [pc, strL, List.map_take, List.map_drop]
      rw [sd] at cm
      have hg : (match D.int (i : Int) with | .int k => D.lst (strL (pc k.toNat)) | _ => .non) = .lst (strL (pc i)) := rfl
      refine ⟨[some d5, some (.int sz), some (.int top), some (.int long), some (.lst (strL row)), some (.lst (es.map D.int)), none, none, some (.lst (strL bs)), some (.int (1 + n3)), some (.int i), none], [some d5, some (.int sz), some (.int top), some (.int long), some (.lst (strL row)), some (.lst (es.map D.int)), none, none, some (.lst (strL bs)), some (.int (1 + n3)), some (.int i), none], by simp, ?_, by simp⟩
      rw [hg]
      generalize pc i = out at cm ⊢
      generalize en.getD i 0 = a at i1 cm
      generalize en.getD (i + 1) 0 = b at i2 cm
      generalize es.map D.int = ed at i1 i2 ⊢
      simp [ce_law_planted_1, i1, i2, cm]
    rw [z]
    have e0 : (1 + n3).toNat = en.length - 1 := by omega
    have el : lvs = (List.range (en.length - 1)).map pc := rfl
    have er : rngD 0 (1 + n3) = (List.range (en.length - 1)).map fun k : Nat => D.int (k : Int) := by
      unfold rngD
      rw [Int.sub_zero, e0]
      simp
    rw [er, el, List.map_map, List.map_map]
    rfl
  -- the facts
  obtain ⟨n7, d6, e7, a7, b7, p6⟩ := draw_ok p5 (n := long + 1) (by omega) (by omega)
  obtain ⟨fs, d7, e8, fl, fg, p7⟩ := facts_made p6 (m := n7) (t := .nm 11) (vs := [11]) (f := ce_law_planted_2) (good := fun g => g.ok bs lvs.length ∧ Fits lvs g) (fun d => [some d, some (.int sz), some (.int top), some (.int long), some (.lst (strL row)), some (.lst (es.map D.int)), some (lvD lvs), none, some (.lst (strL bs)), some (.int (1 + n3)), none, none]) (fun i d hi hd => by
    obtain ⟨g, d', e, g1, g2, p⟩ := fitting_ok hd hb lv (by omega) (by omega)
    exact ⟨_, by simp; rfl, g, d', _, by simp [ce_law_planted_2, e]; rfl, by simp, ⟨g1, g2⟩, p⟩) a7
  refine ⟨bs, lvs, fs, d7, ?_, hb, by omega, lv, by omega, by omega, fg, by omega, p7⟩
  have lz : lvs.length ≤ sizeLine := small_le (by omega)
  have fz : fs.length ≤ sizeLine := small_le (by omega)
  have wz : ws.length ≤ sizeLine := small_le (by omega)
  have il : intsD (ws.map D.int) = some ws := by
    clear wz wl ww e5 e6 e8 lvl lvf lv fg lz mono gk srt top0 ln enl
    induction ws with
    | nil => rfl
    | cons w ws ih => simp [intsD, ih]
  have r1 := span_okI (m := n3) a3 (by omega)
  have r2 := span_okI (m := 1 + n3) (by omega) (by omega)
  have r3 := span_okI (m := n7) a7 (by omega)
  have ees : D.int 0 :: (sortI ws).map D.int ++ [D.int (bs.length : Int)] = es.map D.int := by simp [es, endsOf]
  have out : mdl bs lvs.length fs [(.str "told", lvD lvs)] = .dct false [(.str "folk", .lst (strL bs)), (.str "span", .int (1 + n3)), (.str "tale", .lst (faL fs)), (.str "told", lvD lvs)] := by rw [lvl]; rfl
  rw [out]
  have lve : D.lst (lvs.map fun l => .lst (strL l)) = lvD lvs := rfl
  have e4' : mir_law_mixed [d3, .lst (strL bs)] = .ok (.lst (strL row)) [some d4, none] := e4
  generalize es.map D.int = ed at e6 e8 ees
  generalize lvs.map (fun l => D.lst (strL l)) = ll at e6 lve
  have llz : ll.length ≤ sizeLine := by
    have : ll = lvs.map (fun l => D.lst (strL l)) := by simpa [lvD] using lve
    rw [this, List.length_map]; exact lz
  rw [← lve] at e8 ⊢
  have fz2 : (faL fs).length ≤ sizeLine := by rw [faL_len]; exact fz
  generalize faL fs = ff at e8 fz2 ⊢
  have q1 : 1 ≤ sizeLine := by decide
  have q2 : 2 ≤ sizeLine := by decide
  have sl : (sortI ws).length = ws.length := (sortI_perm ws).length_eq
  have rr1 : addD (.lst [D.int 0]) (.lst ((sortI ws).map D.int)) = some (.lst (D.int 0 :: (sortI ws).map D.int)) := by
    simp only [addD, List.length_cons, List.length_nil, List.length_map]
    rw [if_pos (small_le (by omega))]
    rfl
  have rr2 : addD (.lst (D.int 0 :: (sortI ws).map D.int)) (.lst [D.int (bs.length : Int)]) = some (.lst ed) := by
    simp only [addD, List.length_cons, List.length_nil, List.length_map]
    rw [if_pos (small_le (by omega)), ees]
  have ea : (1 : Int) + n3 - 1 = n3 := by omega
  simp [mir_law_planted, mkF_ap, b_law_planted, q1, q2, e1, e2, e3, e4', sTup, Tg.putO, strL_len, eLc_ap, r1, e5, wz, sortID, il, ea, rr1, rr2, r2, e6, llz, e7, r3, e8, fz2, okO]
end K20
set_option Elab.async false
set_option linter.all false
set_option autoImplicit false
set_option maxHeartbeats 2000000
namespace K20
open PySem PySem.Spec PyProof.Rows L2 DL
theorem eMethK_ap (n i j : Nat) (ix : D) (g : D → List D → Option (D × D)) (k : SA) (G : List O) (r : DL.Env) : eMethK n i j ix g k G r = match r[i]? with
  | some (some d) => if idxD d ix = some j then match getJ d j with
    | some (.lst xs) => (k r).bind fun ds r2 => if ds.length = n ∧ tflL ds = true ∧ keepOk G r2 = true then match g (.lst xs) ds with
        | some (dr, .lst ys) => match setJ d j (.lst ys) with
          | some (d', _) => .ok dr ((mixE G r r2).set i (some d'))
          | none => .stk
        | _ => .stk
      else .stk
    | _ => .stk
    else .stk
  | _ => .stk := nrfl rfl
theorem mdl_idx (bs : List Str) (n : Int) (fs : List Fa) (rest : List (D × D)) : idxD (mdl bs n fs rest) (.str "tale") = some 2 := by
  simp [mdl, idxD, toKey, List.findIdx?_cons, kFT, kST, kTT]
theorem mdl_get (bs : List Str) (n : Int) (fs : List Fa) (rest : List (D × D)) : getJ (mdl bs n fs rest) 2 = some (.lst (faL fs)) := by
  simp [mdl, getJ]
theorem mdl_set (bs : List Str) (n : Int) (fs gs : List Fa) (rest : List (D × D)) : setJ (mdl bs n fs rest) 2 (.lst (faL gs)) = some (mdl bs n gs rest, .lst (faL fs)) := by
  simp [mdl, setJ]
theorem tfl_fa (f : Fa) : tfl f.d = true := by cases f <;> simp [Fa.d, tfl, tflL]
theorem otf_pot {d : D} (h : Pot d) : otf d = true := by
  obtain ⟨a, b, rfl, _⟩ := h
  simp [otf, tflL, tfl]
theorem eqD_3 (w : Int) (k : Int) : eqD (.int w) (.int k) = some (decide (w = k)) := eqD_int w k
structure Md (m : D) (bs : List Str) (n : Int) (fs : List Fa) : Prop where
  b : Bs bs
  n1 : 1 ≤ n
  n9 : n ≤ 9
  ok : ∀ f ∈ fs, f.ok bs n
  eq : ∃ rest, m = mdl bs n fs rest
theorem model_ok {d : D} (h : Pot d) {sz top long : Int} (z1 : 1 ≤ sz) (z2 : sz ≤ 10) (t1 : 1 ≤ top) (t2 : top ≤ 9) (g0 : 0 ≤ long) (g1 : long ≤ 39) :
    ∃ m bs n fs d', mir_law_model [d, .int sz, .int top, .int long] = .ok m [some d', none, none, none] ∧ Md m bs n fs ∧ (bs.length : Int) ≤ sz ∧ n ≤ top ∧ (fs.length : Int) ≤ long + 1 ∧ Pot d' := by
  obtain ⟨w, d0, e0, w0, w3, p0⟩ := draw_ok h (n := 3) (by omega) (by omega)
  by_cases c0 : w = 0
  · obtain ⟨n1, d1, e1, a1, b1, p1⟩ := draw_ok p0 (n := sz) (by omega) (by omega)
    obtain ⟨bs, d2, e2, hl, hnd, hmn, p2⟩ := folk_ok p1 (n := 1 + n1) (by omega) (by omega)
    obtain ⟨n3, d3, e3, a3, b3, p3⟩ := draw_ok p2 (n := top) (by omega) (by omega)
    have hb : Bs bs := ⟨by omega, by omega, hnd, hmn⟩
    obtain ⟨n7, d6, e7, a7, b7, p6⟩ := draw_ok p3 (n := long + 1) (by omega) (by omega)
    obtain ⟨fs, d7, e8, fl, fg, p7⟩ := facts_made p6 (m := n7) (t := .nm 9) (vs := [9]) (f := ce_law_model_0) (good := fun g => g.ok bs (1 + n3)) (fun d => [some d, some (.int sz), some (.int top), some (.int long), some (.int w), none, none, some (.lst (strL bs)), some (.int (1 + n3)), none]) (fun i d hi hd => by
      obtain ⟨g, d', e, g1, p⟩ := law_fact_ok hd hb (span := 1 + n3) (by omega) (by omega)
      exact ⟨_, by simp; rfl, g, d', _, by simp [ce_law_model_0, e]; rfl, by simp, g1, p⟩) a7
    refine ⟨mdl bs (1 + n3) fs [], bs, 1 + n3, fs, d7, ?_, ⟨hb, by omega, by omega, fg, [], rfl⟩, by omega, by omega, by omega, p7⟩
    have fz2 : (faL fs).length ≤ sizeLine := by rw [faL_len]; exact small_le (by omega)
    have r3 := span_okI (m := n7) a7 (by omega)
    have q2 : 2 ≤ sizeLine := by decide
    subst c0
    have out : mdl bs (1 + n3) fs [] = .dct false [(.str "folk", .lst (strL bs)), (.str "span", .int (1 + n3)), (.str "tale", .lst (faL fs))] := rfl
    rw [out]
    generalize faL fs = ff at e8 fz2 ⊢
    simp [mir_law_model, mkF_ap, b_law_model, e0, eqD_int, e1, e2, e3, sTup, Tg.putO, q2, eLc_ap, e7, r3, e8, fz2, okO]
  · obtain ⟨bs, lvs, fs, d1, e1, hb, hbl, lv, s1, s9, fg, fl, p1⟩ := planted_ok p0 z1 z2 t1 t2 g0 g1
    by_cases c2 : w = 2
    · obtain ⟨k, d2, e2, k0, k1, p2⟩ := draw_ok p1 (n := (fs.length : Int) + 1) (by omega) (by omega)
      obtain ⟨g, d3, e3, gg, p3⟩ := law_fact_ok p2 hb (span := lvs.length) (by omega) (by omega)
      have fin : faL fs = faL fs := rfl
      have ins : (faL fs).take k.toNat ++ [g.d] ++ (faL fs).drop k.toNat = faL (fs.take k.toNat ++ [g] ++ fs.drop k.toNat) := by simp [faL, List.map_take, List.map_drop]
      refine ⟨mdl bs lvs.length (fs.take k.toNat ++ [g] ++ fs.drop k.toNat) [(.str "told", lvD lvs)], bs, lvs.length, fs.take k.toNat ++ [g] ++ fs.drop k.toNat, d3, ?_, ⟨hb, by omega, by omega, ?_, _, rfl⟩, by omega, by omega, ?_, p3⟩
      · have gi : gInsert (.lst (faL fs)) [.int k, g.d] = some (.non, .lst (faL (fs.take k.toNat ++ [g] ++ fs.drop k.toNat))) := by
          have hs : (faL fs).length < sizeLine := by rw [faL_len]; exact Nat.lt_of_lt_of_le (by omega : fs.length < 1000) (by decide)
          have h63 : k < 2 ^ 63 := by
            have : (2 : Int) ^ 63 = 9223372036854775808 := by decide +kernel
            omega
          simp only [gInsert]
          rw [if_pos ⟨hs, k0, h63⟩, ins]
        have ix := mdl_idx bs lvs.length fs [(.str "told", lvD lvs)]
        have gt := mdl_get bs lvs.length fs [(.str "told", lvD lvs)]
        have st := mdl_set bs lvs.length fs (fs.take k.toNat ++ [g] ++ fs.drop k.toNat) [(.str "told", lvD lvs)]
        have lt := mdl_tale bs lvs.length fs [(.str "told", lvD lvs)]
        have lf := mdl_folk bs lvs.length fs [(.str "told", lvD lvs)]
        have ls := mdl_span bs lvs.length fs [(.str "told", lvD lvs)]
        have op := otf_pot p3
        have tg := tfl_fa g
        generalize mdl bs lvs.length fs [(.str "told", lvD lvs)] = m0 at e1 ix gt st lt lf ls
        generalize mdl bs lvs.length (fs.take k.toNat ++ [g] ++ fs.drop k.toNat) [(.str "told", lvD lvs)] = m1 at st ⊢
        generalize faL (fs.take k.toNat ++ [g] ++ fs.drop k.toNat) = f1 at gi st
        simp [mir_law_model, mkF_ap, b_law_model, e0, eqD_int, c0, e1, c2, eMethK_ap, ix, gt, lt, lf, ls, faL_len, e2, e3, tflL, tfl, tg, keepOk, op, gi, st, mixE]
      · intro f hf
        rcases List.mem_append.mp hf with hf | hf
        · rcases List.mem_append.mp hf with hf | hf
          · exact (fg f (List.mem_of_mem_take hf)).1
          · rw [List.mem_singleton.mp hf]; exact gg
        · exact (fg f (List.mem_of_mem_drop hf)).1
      · simp
        omega
    · refine ⟨mdl bs lvs.length fs [(.str "told", lvD lvs)], bs, lvs.length, fs, d1, ?_, ⟨hb, by omega, by omega, fun f hf => (fg f hf).1, _, rfl⟩, by omega, by omega, by omega, p1⟩
      generalize mdl bs lvs.length fs [(.str "told", lvD lvs)] = m0 at e1
      simp [mir_law_model, mkF_ap, b_law_model, e0, eqD_int, c0, c2, e1]
theorem yard_ok {m : D} {bs : List Str} {n : Int} {fs : List Fa} (h : Md m bs n fs) (hl : fs.length ≤ 40) : mir_law_yard [m] = .ok (Yd bs n fs) [none] := by
  obtain ⟨rest, rfl⟩ := h.eq
  have := e_make (c := .lst) (e := .lst) (.inl rfl) (.inl rfl) h.b h.n1 h.n9 h.ok hl (k := aCons (eA (DL.g1 listD) (aCons (DL.e2 ixD (eVar 0) (eC (.str "folk"))) aNil)) (aCons (DL.e2 ixD (eVar 0) (eC (.str "span"))) (aCons (eA (DL.g1 listD) (aCons (DL.e2 ixD (eVar 0) (eC (.str "tale"))) aNil)) aNil))) (r := [some (mdl bs n fs rest)]) (r1 := [some (mdl bs n fs rest)]) (by simp [mdl_folk, mdl_span, mdl_tale])
  simp only [mir_law_yard, mkF_ap, b_law_yard, sRet_ap]
  simp only [List.map_cons, List.map_nil, List.replicate_zero, List.append_nil]
  rw [this]
  simp
theorem with_ok {m : D} {bs : List Str} {n : Int} {fs : List Fa} (h : Md m bs n fs) {g : Fa} (hg : g.ok bs n) (hl : fs.length ≤ 1000) : ∃ m', mir_law_with [m, .lst [g.d]] = .ok m' [none, none] ∧ Md m' bs n (fs ++ [g]) := by
  obtain ⟨rest, rfl⟩ := h.eq
  refine ⟨mdl bs n (fs ++ [g]) [], ?_, ⟨h.b, h.n1, h.n9, fun f hf => ?_, [], rfl⟩⟩
  · have ad : addD (.lst (faL fs)) (.lst [g.d]) = some (.lst (faL (fs ++ [g]))) := by
      simp only [addD, List.length_cons, List.length_nil]
      rw [if_pos (by rw [faL_len]; exact Nat.le_trans (by omega : fs.length + 1 ≤ 1001) (by decide))]
      simp [faL]
    have out : mdl bs n (fs ++ [g]) [] = .dct false [(.str "folk", .lst (strL bs)), (.str "span", .int n), (.str "tale", .lst (faL (fs ++ [g])))] := rfl
    rw [out]
    generalize faL (fs ++ [g]) = ff at ad
    simp [mir_law_with, mkF_ap, b_law_with, mdl_folk, mdl_span, mdl_tale, ad, okO]
  · rcases List.mem_append.mp hf with z | z
    · exact h.ok f z
    · rw [List.mem_singleton.mp z]; exact hg
end K20
set_option Elab.async false
set_option linter.all false
set_option autoImplicit false
set_option maxHeartbeats 1000000
namespace K20
open PySem PySem.Spec PyProof.Rows L2 DL
def pr (p : Int × Int) : D := .tup [.int p.1, .int p.2]
/-- a fact "days" narrows -/
def stepT (T : Str → Int × Int) : Fa → Str → Int × Int
  | .dy a f l => fun b => if b = a then (if f > (T a).1 then f else (T a).1, if l < (T a).2 then l else (T a).2) else T b
  | _ => T
def tol (gs : List Fa) (n : Int) : Str → Int × Int := gs.foldl stepT fun _ => (1, n)
theorem told_step {bs : List Str} (hb : Bs bs) {n span : Int} {f : Fa} (hf : f.ok bs span) (T : Str → Int × Int) (x0 x1 : Option D) : lb_told_days_0 [x0, x1, some (dS bs fun b => pr (T b)), some f.d, none, none, none, none, none, none] = .nx [x0, x1, some (dS bs fun b => pr (stepT T f b)), none, none, none, none, none, none, none] := by
  have l10 : bs.length ≤ 100 := by have := hb.l6; omega
  have q2 : 2 ≤ sizeLine := by decide
  cases f with
  | ah a b => simp [lb_told_days_0, Fa.d, ix_tup0, eqD_str k_ahead k_days, ad, stepT]
  | gn k f l => simp [lb_told_days_0, Fa.d, ix_tup0, eqD_str k_gone k_days, gd, stepT]
  | dy a f l =>
    have it := item_dS (g := fun b => pr (T b)) hf.1
    have st := setIx_dS (g := fun b => pr (T b)) (d := pr (if f > (T a).1 then f else (T a).1, if l < (T a).2 then l else (T a).2)) hf.1 l10
    have e : (dS bs fun b => if b = a then pr (if f > (T a).1 then f else (T a).1, if l < (T a).2 then l else (T a).2) else pr (T b)) = dS bs fun b => pr (stepT T (.dy a f l) b) := by
      congr 1
      funext b
      by_cases q : b = a <;> simp [stepT, q]
    rw [e] at st
    generalize dS bs (fun b => pr (stepT T (.dy a f l) b)) = d2 at st ⊢
    generalize dS bs (fun b => pr (T b)) = d1 at it st ⊢
    simp only [pr] at it st
    simp [lb_told_days_0, Fa.d, ix_tup0, eqD_str k_days k_days, it, st, q2]
theorem told_loop {bs : List Str} (hb : Bs bs) {span : Int} (x0 x1 : Option D) : ∀ (gs : List Fa) (T : Str → Int × Int), (∀ f ∈ gs, f.ok bs span) → forL (.nm 3) lb_told_days_0 (faL gs) [x0, x1, some (dS bs fun b => pr (T b)), none, none, none, none, none, none, none] = .nx [x0, x1, some (dS bs fun b => pr (gs.foldl stepT T b)), none, none, none, none, none, none, none]
  | [], T, _ => rfl
  | f :: gs, T, h => by
    have e : faL (f :: gs) = f.d :: faL gs := rfl
    rw [e]
    unfold forL
    simp only [put_nm, List.length_cons, List.length_nil, Nat.reduceAdd, Nat.reduceLT, if_true, List.set_cons_succ, List.set_cons_zero]
    rw [told_step hb (n := span) (h f List.mem_cons_self)]
    exact told_loop hb x0 x1 gs (stepT T f) fun g hg => h g (List.mem_cons_of_mem _ hg)
theorem told_ok {bs : List Str} (hb : Bs bs) {n : Int} {fs gs : List Fa} (h : ∀ f ∈ gs, f.ok bs n) : mir_told_days [Yd bs n fs, .lst (faL gs)] = .ok (dS bs fun b => pr (tol gs n b)) [none, none] := by
  have l10 : bs.length ≤ 100 := by have := hb.l6; omega
  have q2 : 2 ≤ sizeLine := by decide
  have dc := dcL_dS (t := .nm 4) (vs := [4]) (fk := ck_told_days_0) (f := cv_told_days_0) (r := [some (Yd bs n fs), some (.lst (faL gs)), none, none, none, none, none, none, none, none]) (g := fun b => pr (1, n)) hb.nd l10 fun b hx => ⟨_, _, _, by simp; rfl, by simp [ck_told_days_0]; rfl, by simp [cv_told_days_0, pr, q2]; rfl, by simp⟩
  have lp := told_loop hb (some (Yd bs n fs)) (some (.lst (faL gs))) gs (fun _ => (1, n)) h
  have e0 : D.dct false (bs.map fun b => (D.str b, pr (1, n))) = dS bs fun b => pr (1, n) := rfl
  have es : strL bs = bs.map D.str := rfl
  generalize dS bs (fun b => pr (1, n)) = d0 at lp e0
  unfold tol
  generalize dS bs (fun b => pr (gs.foldl stepT (fun _ => (1, n)) b)) = d1 at lp ⊢
  simp [mir_told_days, mkF_ap, b_told_days, eDc_ap, es, dc, sFor_ap, e0, lp]
/-! what the told days are -/
def Ev (gs : List Fa) (o : Str) (v : Int) : Prop := v = 1 ∨ ∃ l, Fa.dy o v l ∈ gs
def Lw (gs : List Fa) (n : Int) (o : Str) (v : Int) : Prop := v = n ∨ ∃ f, Fa.dy o f v ∈ gs
theorem fold_T : ∀ (gs : List Fa) (T : Str → Int × Int) (b : Str), ((gs.foldl stepT T b).1 = (T b).1 ∨ ∃ l, Fa.dy b (gs.foldl stepT T b).1 l ∈ gs) ∧ (T b).1 ≤ (gs.foldl stepT T b).1 ∧ (∀ f l, Fa.dy b f l ∈ gs → f ≤ (gs.foldl stepT T b).1) ∧
    ((gs.foldl stepT T b).2 = (T b).2 ∨ ∃ f, Fa.dy b f (gs.foldl stepT T b).2 ∈ gs) ∧ (gs.foldl stepT T b).2 ≤ (T b).2 ∧ (∀ f l, Fa.dy b f l ∈ gs → (gs.foldl stepT T b).2 ≤ l)
  | [], T, b => ⟨.inl rfl, Int.le_refl _, fun _ _ h => (nomatch h), .inl rfl, Int.le_refl _, fun _ _ h => (nomatch h)⟩
  | f :: gs, T, b => by
    obtain ⟨h1, h2, h3, h4, h5, h6⟩ := fold_T gs (stepT T f) b
    rw [List.foldl_cons]
    generalize gs.foldl stepT (stepT T f) b = R at *
    have s1 : (stepT T f b).1 = (T b).1 ∨ ∃ l, f = .dy b (stepT T f b).1 l := by
      cases f with
      | dy a x l =>
        by_cases q : b = a
        · subst q
          by_cases c : x > (T b).1
          · exact .inr ⟨l, by simp [stepT, c]⟩
          · exact .inl (by simp [stepT, c])
        · exact .inl (by simp [stepT, q])
      | _ => exact .inl rfl
    have s2 : (T b).1 ≤ (stepT T f b).1 ∧ ∀ x l, f = .dy b x l → x ≤ (stepT T f b).1 := by
      cases f with
      | dy a x l =>
        by_cases q : b = a
        · subst q
          refine ⟨?_, fun x' l' e => ?_⟩
          · simp only [stepT, if_true]; split <;> omega
          · cases e; simp only [stepT, if_true]; split <;> omega
        · refine ⟨by simp [stepT, q], fun x' l' e => ?_⟩
          cases e; exact absurd rfl q
      | _ => exact ⟨Int.le_refl _, fun _ _ e => nomatch e⟩
    have s4 : (stepT T f b).2 = (T b).2 ∨ ∃ x, f = .dy b x (stepT T f b).2 := by
      cases f with
      | dy a x l =>
        by_cases q : b = a
        · subst q
          by_cases c : l < (T b).2
          · exact .inr ⟨x, by simp [stepT, c]⟩
          · exact .inl (by simp [stepT, c])
        · exact .inl (by simp [stepT, q])
      | _ => exact .inl rfl
    have s5 : (stepT T f b).2 ≤ (T b).2 ∧ ∀ x l, f = .dy b x l → (stepT T f b).2 ≤ l := by
      cases f with
      | dy a x l =>
        by_cases q : b = a
        · subst q
          refine ⟨?_, fun x' l' e => ?_⟩
          · simp only [stepT, if_true]; split <;> omega
          · cases e; simp only [stepT, if_true]; split <;> omega
        · refine ⟨by simp [stepT, q], fun x' l' e => ?_⟩
          cases e; exact absurd rfl q
      | _ => exact ⟨Int.le_refl _, fun _ _ e => nomatch e⟩
    refine ⟨?_, by omega, fun x l hm => ?_, ?_, by omega, fun x l hm => ?_⟩
    · rcases h1 with h | ⟨l, h⟩
      · rcases s1 with s | ⟨l, s⟩
        · exact .inl (h.trans s)
        · rw [← h] at s; exact .inr ⟨l, by rw [← s]; exact List.mem_cons_self⟩
      · exact .inr ⟨l, List.mem_cons_of_mem _ h⟩
    · rcases List.mem_cons.mp hm with e | e
      · have := s2.2 x l e.symm; omega
      · exact h3 x l e
    · rcases h4 with h | ⟨l, h⟩
      · rcases s4 with s | ⟨l, s⟩
        · exact .inl (h.trans s)
        · rw [← h] at s; exact .inr ⟨l, by rw [← s]; exact List.mem_cons_self⟩
      · exact .inr ⟨l, List.mem_cons_of_mem _ h⟩
    · rcases List.mem_cons.mp hm with e | e
      · have := s5.2 x l e.symm; omega
      · exact h6 x l e
theorem tol_spec (gs : List Fa) (n : Int) (b : Str) : Ev gs b (tol gs n b).1 ∧ (∀ v, Ev gs b v → v ≤ (tol gs n b).1) ∧ Lw gs n b (tol gs n b).2 ∧ ∀ v, Lw gs n b v → (tol gs n b).2 ≤ v := by
  obtain ⟨h1, h2, h3, h4, h5, h6⟩ := fold_T gs (fun _ => (1, n)) b
  refine ⟨h1, fun v hv => ?_, h4, fun v hv => ?_⟩
  · rcases hv with rfl | ⟨l, hv⟩
    · exact h2
    · exact h3 v l hv
  · rcases hv with rfl | ⟨f, hv⟩
    · exact h5
    · exact h6 f v hv
end K20
set_option Elab.async false
set_option linter.all false
set_option autoImplicit false
set_option maxHeartbeats 1000000
namespace K20
open PySem PySem.Spec PyProof.Rows L2 DL
/-- along the facts "ahead" -/
inductive Rt (gs : List Fa) : Str → Str → Prop where
  | refl (a : Str) : Rt gs a a
  | step {a b c : Str} (h : Fa.ah a b ∈ gs) (t : Rt gs b c) : Rt gs a c
def Rp (gs : List Fa) (a c : Str) : Prop := ∃ b, Fa.ah a b ∈ gs ∧ Rt gs b c
theorem Rt.snoc {gs : List Fa} {a b c : Str} (t : Rt gs a b) (h : Fa.ah b c ∈ gs) : Rt gs a c := by
  induction t with
  | refl a => exact .step h (.refl _)
  | step h' _ ih => exact .step h' (ih h)
def lD (N : Str → List Str) (b : Str) : D := .lst (strL (N b))
def stepN (N : Str → List Str) : Fa → Str → List Str
  | .ah a c => fun b => if b = a then (if c ∈ N a then N a else N a ++ [c]) else N b
  | _ => N
structure Gd (bs : List Str) (gs : List Fa) (N : Str → List Str) : Prop where
  nd : ∀ b, (N b).Nodup
  mem : ∀ b c, c ∈ N b → c ∈ bs ∧ Fa.ah b c ∈ gs
theorem nodup_le {xs bs : List Str} (n : xs.Nodup) (s : ∀ x ∈ xs, x ∈ bs) : xs.length ≤ bs.length := List.Nodup.length_le_of_subset n s
theorem next_step {bs : List Str} (hb : Bs bs) {span : Int} {gs : List Fa} {f : Fa} (hf : f.ok bs span) (hm : f ∈ gs) {N : Str → List Str} (g : Gd bs gs N) (x0 x1 : Option D) :
    lb_next_boxes_0 [x0, x1, some (dS bs (lD N)), some f.d, none] = .nx [x0, x1, some (dS bs (lD (stepN N f))), none, none] ∧ Gd bs gs (stepN N f) ∧ (∀ b c, c ∈ N b → c ∈ stepN N f b) ∧ ∀ a c, f = .ah a c → c ∈ stepN N f a := by
  cases f with
  | dy a f l => exact ⟨by simp [lb_next_boxes_0, Fa.d, ix_tup0, eqD_str k_days k_ahead, da, stepN], g, fun _ _ h => h, fun _ _ e => nomatch e⟩
  | gn k f l => exact ⟨by simp [lb_next_boxes_0, Fa.d, ix_tup0, eqD_str k_gone k_ahead, ga, stepN], g, fun _ _ h => h, fun _ _ e => nomatch e⟩
  | ah a c =>
    obtain ⟨ha, hc, hac⟩ := hf
    have im := ix_dS (g := lD N) ha
    have nn := nin_str (hb.mn c hc) (fun x hx => hb.mn x (g.mem a x hx).1)
    by_cases q : c ∈ N a
    · have e : stepN N (.ah a c) = N := by
        funext b
        by_cases p : b = a
        · subst p; simp [stepN, q]
        · simp [stepN, p]
      rw [e]
      refine ⟨?_, g, fun _ _ h => h, fun a' c' e => by cases e; exact q⟩
      have nn' : ninD (.str c) (lD N a) = some false := by simpa [lD, q] using nn
      generalize dS bs (lD N) = d0 at im ⊢
      simp [lb_next_boxes_0, Fa.d, ix_tup0, ix_tup1, ix_tup2, eqD_str k_ahead k_ahead, im, nn']
    · have nn' : ninD (.str c) (lD N a) = some true := by simpa [lD, q] using nn
      obtain ⟨j, sp, hj⟩ := spot_dS (g := lD N) ha
      have st := setJ_dS (g := lD N) (d := .lst (strL (N a ++ [c]))) hb.nd hj
      have e : (dS bs fun b => if b = a then D.lst (strL (N a ++ [c])) else lD N b) = dS bs (lD (stepN N (.ah a c))) := by
        congr 1
        funext b
        by_cases p : b = a
        · subst p; simp [stepN, q, lD]
        · simp [stepN, p, lD]
      rw [e] at st
      have sz : (N a).length < sizeLine := by
        have := nodup_le (g.nd a) fun x hx => (g.mem a x hx).1
        have := hb.l6
        exact Nat.lt_of_le_of_lt (by omega : (N a).length ≤ 10) (by decide)
      have ga' : gAppend (lD N a) [.str c] = some (.non, .lst (strL (N a ++ [c]))) := by
        simp only [lD, gAppend]
        rw [strL_len, if_pos sz]
        simp [strL]
      have il : isLst (lD N a) = true := rfl
      refine ⟨?_, ⟨fun b => ?_, fun b x hx => ?_⟩, fun b x hx => ?_, fun a' c' e => ?_⟩
      · generalize dS bs (lD (stepN N (.ah a c))) = d1 at st ⊢
        generalize dS bs (lD N) = d0 at im sp st ⊢
        generalize lD N a = inner at im nn' sp ga' il st
        generalize D.lst (strL (N a ++ [c])) = inner' at ga' st
        simp [lb_next_boxes_0, Fa.d, ix_tup0, ix_tup1, ix_tup2, eqD_str k_ahead k_ahead, im, nn', sp, il, ga', st]
      · by_cases p : b = a
        · subst p
          simp only [stepN, if_true, q, if_false]
          exact List.nodup_append.mpr ⟨g.nd b, by simp, fun x hx y hy exy => by
            have eyc : y = c := by simpa using hy
            exact q (eyc ▸ exy ▸ hx)⟩
        · simp only [stepN, p, if_false]; exact g.nd b
      · by_cases p : b = a
        · subst p
          simp only [stepN, if_true, q, if_false] at hx
          rcases List.mem_append.mp hx with z | z
          · exact g.mem b x z
          · have : x = c := by simpa using z
            subst this; exact ⟨hc, hm⟩
        · simp only [stepN, p, if_false] at hx; exact g.mem b x hx
      · by_cases p : b = a
        · subst p
          simp only [stepN, if_true, q, if_false]
          exact List.mem_append_left _ hx
        · simp only [stepN, p, if_false]; exact hx
      · cases e
        simp [stepN, q]
theorem next_loop {bs : List Str} (hb : Bs bs) {span : Int} {all : List Fa} (x0 x1 : Option D) : ∀ (gs : List Fa) (N : Str → List Str), (∀ f ∈ gs, f.ok bs span ∧ f ∈ all) → Gd bs all N →
    ∃ N', forL (.nm 3) lb_next_boxes_0 (faL gs) [x0, x1, some (dS bs (lD N)), none, none] = .nx [x0, x1, some (dS bs (lD N')), none, none] ∧ Gd bs all N' ∧ (∀ b c, c ∈ N b → c ∈ N' b) ∧ ∀ a c, Fa.ah a c ∈ gs → c ∈ N' a
  | [], N, _, g => ⟨N, rfl, g, fun _ _ h => h, fun _ _ h => nomatch h⟩
  | f :: gs, N, h, g => by
    obtain ⟨s1, s2, s3, s4⟩ := next_step hb (h f List.mem_cons_self).1 (h f List.mem_cons_self).2 g x0 x1
    obtain ⟨N', l1, l2, l3, l4⟩ := next_loop hb x0 x1 gs (stepN N f) (fun f hf => h f (List.mem_cons_of_mem _ hf)) s2
    refine ⟨N', ?_, l2, fun b c hc => l3 b c (s3 b c hc), fun a c hm => ?_⟩
    · have e : faL (f :: gs) = f.d :: faL gs := rfl
      rw [e]
      unfold forL
      simp only [put_nm, List.length_cons, List.length_nil, Nat.reduceAdd, Nat.reduceLT, if_true, List.set_cons_succ, List.set_cons_zero]
      rw [s1]
      exact l1
    · rcases List.mem_cons.mp hm with e | e
      · exact l3 a c (s4 a c e.symm)
      · exact l4 a c e
theorem next_ok {bs : List Str} (hb : Bs bs) {n : Int} {fs gs : List Fa} (h : ∀ f ∈ gs, f.ok bs n) : ∃ N, mir_next_boxes [Yd bs n fs, .lst (faL gs)] = .ok (dS bs (lD N)) [none, none] ∧ Gd bs gs N ∧ ∀ a c, Fa.ah a c ∈ gs → c ∈ N a := by
  have l10 : bs.length ≤ 100 := by have := hb.l6; omega
  have dc := dcLN_dS (t := .nm 4) (vs := [4]) (fk := ck_next_boxes_0) (f := cv_next_boxes_0) (r := [some (Yd bs n fs), some (.lst (faL gs)), none, none, none]) (g := lD fun _ => []) hb.nd l10 fun b hx => ⟨_, _, _, by simp; rfl, by simp [ck_next_boxes_0]; rfl, by simp [cv_next_boxes_0, lD, strL]; rfl, by simp⟩
  obtain ⟨N, lp, g, _, l4⟩ := next_loop hb (span := n) (all := gs) (some (Yd bs n fs)) (some (.lst (faL gs))) gs (fun _ => []) (fun f hf => ⟨h f hf, hf⟩) ⟨fun _ => by simp, fun _ _ h => nomatch h⟩
  refine ⟨N, ?_, g, l4⟩
  have e0 : D.dct false (bs.map fun b => (D.str b, lD (fun _ => []) b)) = dS bs (lD fun _ => []) := rfl
  have es : strL bs = bs.map D.str := rfl
  generalize dS bs (lD fun _ => []) = d0 at lp e0
  generalize dS bs (lD N) = d1 at lp ⊢
  simp [mir_next_boxes, mkF_ap, b_next_boxes, eDcN_ap, es, dc, sFor_ap, e0, lp]
end K20
set_option Elab.async false
set_option linter.all false
set_option autoImplicit false
set_option maxHeartbeats 1000000
namespace K20
open PySem PySem.Spec PyProof.Rows L2 DL
theorem sAugI_ap (i : Nat) (g : Int → Int → Int) (f : SE) (r : DL.Env) : sAugI i g f r = match r[i]? with
  | some (some (.int a)) => (f r).fl fun d r1 => match d with
    | .int b => .nx (r1.set i (some (.int (g a b))))
    | _ => .stk
  | _ => .stk := nrfl rfl
theorem rt_closed {gs : List Fa} {F : List Str} (cl : ∀ x ∈ F, ∀ c, Fa.ah x c ∈ gs → c ∈ F) {a c : Str} (t : Rt gs a c) : a ∈ F → c ∈ F := by
  induction t with
  | refl a => exact id
  | step h t ih => exact fun ha => ih (cl _ ha _ h)
structure Bfs (bs : List Str) (gs : List Fa) (N : Str → List Str) (b : Str) (F : List Str) (k : Nat) : Prop where
  nd : F.Nodup
  mem : ∀ c ∈ F, c ∈ bs ∧ Rp gs b c
  st : ∀ c ∈ N b, c ∈ F
  le : k ≤ F.length
  cl : ∀ i x, i < k → F[i]? = some x → ∀ c ∈ N x, c ∈ F
theorem bfs_step {bs : List Str} (hb : Bs bs) {gs : List Fa} {N : Str → List Str} (g : Gd bs gs N) {b : Str} {F : List Str} {k : Nat} (v : Bfs bs gs N b F k) (hk : k < F.length) (x1 : Option D) :
    ∃ F', lb_boxes_behind_0 [some (dS bs (lD N)), x1, some (.lst (strL F)), some (.int k), none] = .nx [some (dS bs (lD N)), x1, some (.lst (strL F')), some (.int ((k : Int) + 1)), none] ∧ Bfs bs gs N b F' (k + 1) := by
  have hx : F[k] ∈ bs := (v.mem _ (List.getElem_mem hk)).1
  have im := ix_dS (g := lD N) hx
  have it : itemAt (.lst (strL F)) (.int k) = some (.str F[k]) := itemAt_lst (by simp [strL, hk])
  have F10 : F.length ≤ bs.length := nodup_le v.nd fun x hx => (v.mem x hx).1
  have N10 : (N F[k]).length ≤ bs.length := nodup_le (g.nd _) fun x hx => (g.mem _ x hx).1
  have l6 := hb.l6
  let M := (N F[k]).filter fun c => !decide (c ∈ F)
  have Ml : M.length ≤ (N F[k]).length := List.length_filter_le _ _
  have comp : lcL (.nm 4) [4] ct_boxes_behind_0 ce_boxes_behind_0 (strL (N F[k])) [some (dS bs (lD N)), x1, some (.lst (strL F)), some (.int k), none] = .ok (strL M) [some (dS bs (lD N)), x1, some (.lst (strL F)), some (.int k), none] := by
    have z := lcL_pure (t := .nm 4) (vs := [4]) (ts := ct_boxes_behind_0) (f := ce_boxes_behind_0) (r := [some (dS bs (lD N)), x1, some (.lst (strL F)), some (.int k), none]) (fun x => match x with | .str s => !decide (s ∈ F) | _ => false) id (items := strL (N F[k])) fun x hx => by
      obtain ⟨s, hs, rfl⟩ := List.mem_map.mp hx
      have nn := nin_str (hb.mn s (g.mem _ s hs).1) (fun x hx => hb.mn x (v.mem x hx).1)
      exact ⟨[some (dS bs (lD N)), x1, some (.lst (strL F)), some (.int k), some (.str s)], by simp, by simp [ct_boxes_behind_0, nn], by simp [ce_boxes_behind_0], by simp⟩
    rw [z, filter_strL (fun m => !decide (m ∈ F)) _ (fun _ => rfl)]
    simp [M]
  refine ⟨F ++ M, ?_, ⟨?_, fun c hc => ?_, fun c hc => List.mem_append_left _ (v.st c hc), ?_, fun i x hi hx' c hc => ?_⟩⟩
  · have sz1 : (strL M).length ≤ sizeLine := by rw [strL_len]; exact small_le (by omega)
    have ge : gExtend (.lst (strL F)) [.lst (strL M)] = some (.non, .lst (strL (F ++ M))) := by
      simp only [gExtend, strL_len]
      rw [if_pos (small_le (by omega))]
      simp [strL]
    have ii : itD (lD N F[k]) = some (strL (N F[k])) := rfl
    generalize dS bs (lD N) = d0 at im comp ⊢
    generalize strL M = ml at comp sz1 ge
    generalize strL (F ++ M) = fm at ge ⊢
    simp only [lb_boxes_behind_0, sSeq_ap, sDrop_ap, eMeth_ap, aCons_ap, aNil_ap, eLc_ap, iE_ap, e2_ap, eIxO_ap, eVar_ap, sAugI_ap, eC_ap]
    simp [it, im, ii, comp, sz1, ge, sAugI_ap]
  · refine List.nodup_append.mpr ⟨v.nd, (g.nd _).filter _, fun x hx y hy e => ?_⟩
    have := (List.mem_filter.mp hy).2
    subst e
    simp [hx] at this
  · rcases List.mem_append.mp hc with z | z
    · exact v.mem c z
    · have z := (List.mem_filter.mp z).1
      obtain ⟨h1, h2⟩ := g.mem _ c z
      obtain ⟨a, h3, h4⟩ := (v.mem _ (List.getElem_mem hk)).2
      exact ⟨h1, a, h3, h4.snoc h2⟩
  · rw [List.length_append]; omega
  · by_cases q : i < k
    · have hx2 : F[i]? = some x := by rwa [List.getElem?_append_left (by omega)] at hx'
      exact List.mem_append_left _ (v.cl i x q hx2 c hc)
    · have e : i = k := by omega
      subst e
      rw [List.getElem?_append_left hk, List.getElem?_eq_getElem hk] at hx'
      cases hx'
      by_cases m : c ∈ F
      · exact List.mem_append_left _ m
      · exact List.mem_append_right _ (List.mem_filter.mpr ⟨hc, by simpa using m⟩)
theorem bfs_loop {bs : List Str} (hb : Bs bs) {gs : List Fa} {N : Str → List Str} (g : Gd bs gs N) {b : Str} (x1 : Option D) : ∀ (m n : Nat) (F : List Str) (k : Nat), bs.length - k ≤ m → m < n → Bfs bs gs N b F k →
    ∃ F', whileL (tView (boolT (DL.e2 (DL.gB ltD) (eVar 3) (eA (DL.g1 lenD) (aCons (eVar 2) aNil))))) lb_boxes_behind_0 n [some (dS bs (lD N)), x1, some (.lst (strL F)), some (.int k), none] = .nx [some (dS bs (lD N)), x1, some (.lst (strL F')), some (.int F'.length), none] ∧ Bfs bs gs N b F' F'.length := by
  intro m
  induction m with
  | zero =>
    intro n F k h1 h2 v
    have F10 : F.length ≤ bs.length := nodup_le v.nd fun x hx => (v.mem x hx).1
    have le := v.le
    have e : k = F.length := by omega
    subst e
    obtain ⟨n, rfl⟩ : ∃ n', n = n' + 1 := ⟨n - 1, by omega⟩
    exact ⟨F, by rw [whileL_succ]; simp [strL_len], v⟩
  | succ m ih =>
    intro n F k h1 h2 v
    obtain ⟨n, rfl⟩ : ∃ n', n = n' + 1 := ⟨n - 1, by omega⟩
    have le := v.le
    by_cases c : k < F.length
    · obtain ⟨F', e, v'⟩ := bfs_step hb g v c x1
      obtain ⟨F2, e2, v2⟩ := ih n F' (k + 1) (by omega) (by omega) v'
      refine ⟨F2, ?_, v2⟩
      rw [whileL_succ]
      have c' : (k : Int) < F.length := by omega
      have ek : (k : Int) + 1 = ((k + 1 : Nat) : Int) := by omega
      simp [strL_len, c']
      rw [e, seq_nx, ek]
      exact e2
    · have e : k = F.length := by omega
      subst e
      exact ⟨F, by rw [whileL_succ]; simp [strL_len], v⟩
theorem behind_ok {bs : List Str} (hb : Bs bs) {gs : List Fa} {N : Str → List Str} (g : Gd bs gs N) (full : ∀ a c, Fa.ah a c ∈ gs → c ∈ N a) {b : Str} (hbb : b ∈ bs) :
    ∃ F, mir_boxes_behind [dS bs (lD N), .str b] = .ok (.lst (strL F)) [none, none] ∧ F.Nodup ∧ (∀ c ∈ F, c ∈ bs) ∧ ∀ c, c ∈ F ↔ Rp gs b c := by
  have v0 : Bfs bs gs N b (N b) 0 := ⟨g.nd b, fun c hc => ⟨(g.mem b c hc).1, c, (g.mem b c hc).2, .refl c⟩, fun _ h => h, Nat.zero_le _, fun i x hi => absurd hi (by omega)⟩
  have l6 := hb.l6
  obtain ⟨F, e, v⟩ := bfs_loop hb g (some (.str b)) bs.length 100 (N b) 0 (by omega) (by omega) v0
  refine ⟨F, ?_, v.nd, fun c hc => (v.mem c hc).1, fun c => ⟨fun hc => (v.mem c hc).2, fun ⟨a, h1, h2⟩ => ?_⟩⟩
  · have im := ix_dS (g := lD N) hbb
    have li : listD (lD N b) = some (.lst (strL (N b))) := rfl
    rw [Int.ofNat_zero] at e
    generalize dS bs (lD N) = d0 at im e ⊢
    have q2 : 2 ≤ sizeLine := by decide
    simp [mir_boxes_behind, mkF_ap, q2, b_boxes_behind, sTup, Tg.putO, im, li, sWhile_ap, e]
  · have ha : a ∈ F := v.st a (full b a h1)
    refine rt_closed (fun x hx c hc => ?_) h2 ha
    obtain ⟨i, hi, ei⟩ := List.getElem_of_mem hx
    exact v.cl i x hi (by rw [List.getElem?_eq_getElem hi, ei]) c (full x c hc)
theorem ways_ok {bs : List Str} (hb : Bs bs) {n : Int} {fs gs : List Fa} (h : ∀ f ∈ gs, f.ok bs n) : ∃ Wy : Str → List Str, mir_ways_of [Yd bs n fs, .lst (faL gs)] = .ok (dS bs (lD Wy)) [none, none] ∧ ∀ b ∈ bs, (Wy b).Nodup ∧ (∀ c ∈ Wy b, c ∈ bs) ∧ ∀ c, c ∈ Wy b ↔ Rp gs b c := by
  obtain ⟨N, e1, g, full⟩ := next_ok hb (fs := fs) h
  have ex : ∀ b, b ∈ bs → ∃ F, mir_boxes_behind [dS bs (lD N), .str b] = .ok (.lst (strL F)) [none, none] ∧ F.Nodup ∧ (∀ c ∈ F, c ∈ bs) ∧ ∀ c, c ∈ F ↔ Rp gs b c := fun b hbb => behind_ok hb g full hbb
  obtain ⟨Wy, hW⟩ : ∃ Wy : Str → List Str, ∀ b ∈ bs, mir_boxes_behind [dS bs (lD N), .str b] = .ok (lD Wy b) [none, none] ∧ (Wy b).Nodup ∧ (∀ c ∈ Wy b, c ∈ bs) ∧ ∀ c, c ∈ Wy b ↔ Rp gs b c := by
    refine ⟨fun b => if q : b ∈ bs then Classical.choose (ex b q) else [], fun b hbb => ?_⟩
    have := Classical.choose_spec (ex b hbb)
    simp only [lD, dif_pos hbb]
    exact this
  refine ⟨Wy, ?_, fun b hbb => (hW b hbb).2⟩
  have l10 : bs.length ≤ 100 := by have := hb.l6; omega
  have dc := dcL_dS (t := .nm 3) (vs := [3]) (fk := ck_ways_of_0) (f := cv_ways_of_0) (r := [some (Yd bs n fs), some (.lst (faL gs)), some (dS bs (lD N)), none]) (g := lD Wy) hb.nd l10 fun b hx => ⟨_, _, _, by simp; rfl, by simp [ck_ways_of_0]; rfl, by simp [cv_ways_of_0, (hW b hx).1]; rfl, by simp⟩
  have es : strL bs = bs.map D.str := rfl
  have e0 : D.dct false (bs.map fun b => (D.str b, lD Wy b)) = dS bs (lD Wy) := rfl
  generalize dS bs (lD N) = d0 at e1 dc
  simp [mir_ways_of, mkF_ap, b_ways_of, e1, eDc_ap, es, dc, e0]
end K20
set_option Elab.async false
set_option linter.all false
set_option autoImplicit false
set_option maxHeartbeats 1000000
namespace K20
open PySem PySem.Spec PyProof.Rows L2 DL
def IsE (gs : List Fa) (b : Str) (e : Int) : Prop := (∃ o, Rt gs o b ∧ Ev gs o e) ∧ ∀ o v, Rt gs o b → Ev gs o v → v ≤ e
def IsL (gs : List Fa) (n : Int) (b : Str) (e : Int) : Prop := (∃ o, Rt gs b o ∧ Lw gs n o e) ∧ ∀ o v, Rt gs b o → Lw gs n o v → e ≤ v
theorem ints_map (t : Str → Int) : ∀ os : List Str, intsD (os.map fun o => D.int (t o)) = some (os.map t)
  | [] => rfl
  | o :: os => by simp [intsD, ints_map t os]
theorem max_map (t : Str → Int) {os : List Str} (h : os ≠ []) : ∃ m, maxLD (.lst (os.map fun o => D.int (t o))) = some (.int m) ∧ (∃ o ∈ os, t o = m) ∧ ∀ o ∈ os, t o ≤ m := by
  have ne : os.map t ≠ [] := by simpa using h
  unfold maxLD
  dsimp only
  rw [ints_map, Option.bind_some]
  cases q : (os.map t).max? with
  | none => exact absurd (List.max?_eq_none_iff.mp q) ne
  | some m =>
    obtain ⟨h1, h2⟩ := List.max?_eq_some_iff.mp q
    obtain ⟨o, ho, e⟩ := List.mem_map.mp h1
    exact ⟨m, rfl, ⟨o, ho, e⟩, fun o ho => h2 _ (List.mem_map_of_mem ho)⟩
theorem min_map (t : Str → Int) {os : List Str} (h : os ≠ []) : ∃ m, minLD (.lst (os.map fun o => D.int (t o))) = some (.int m) ∧ (∃ o ∈ os, t o = m) ∧ ∀ o ∈ os, m ≤ t o := by
  have ne : os.map t ≠ [] := by simpa using h
  unfold minLD
  dsimp only
  rw [ints_map, Option.bind_some]
  cases q : (os.map t).min? with
  | none => exact absurd (List.min?_eq_none_iff.mp q) ne
  | some m =>
    obtain ⟨h1, h2⟩ := List.min?_eq_some_iff.mp q
    obtain ⟨o, ho, e⟩ := List.mem_map.mp h1
    exact ⟨m, rfl, ⟨o, ho, e⟩, fun o ho => h2 _ (List.mem_map_of_mem ho)⟩
theorem rt_split {gs : List Fa} {a c : Str} (t : Rt gs a c) : a = c ∨ Rp gs a c := by
  cases t with
  | refl => exact .inl rfl
  | step h t => exact .inr ⟨_, h, t⟩
theorem rp_rt {gs : List Fa} {a c : Str} (t : Rp gs a c) : Rt gs a c := by
  obtain ⟨b, h, t⟩ := t
  exact .step h t
theorem rt_in {bs : List Str} {n : Int} {gs : List Fa} (h : ∀ f ∈ gs, f.ok bs n) {a c : Str} (t : Rt gs a c) : a ∈ bs ↔ c ∈ bs := by
  induction t with
  | refl => exact Iff.rfl
  | step h' t ih =>
    have := h _ h'
    exact ⟨fun _ => ih.mp this.2.1, fun _ => this.1⟩
theorem drawn_step {bs : List Str} (hb : Bs bs) {n : Int} {gs : List Fa} (h : ∀ f ∈ gs, f.ok bs n) {Wy : Str → List Str} (hW : ∀ b ∈ bs, (Wy b).Nodup ∧ (∀ c ∈ Wy b, c ∈ bs) ∧ ∀ c, c ∈ Wy b ↔ Rp gs b c) {x : Str} (hx : x ∈ bs) :
    ∃ e l, IsE gs x e ∧ IsL gs n x l ∧ ∀ (ys : List Str) (g : Str → D), x ∉ ys → ys.length ≤ 100 → g x = pr (e, l) → lb_drawn_by_0 [some (dS bs fun b => pr (tol gs n b)), some (dS bs (lD Wy)), some (dS ys g), some (.str x), none, none] = .nx [some (dS bs fun b => pr (tol gs n b)), some (dS bs (lD Wy)), some (dS (ys ++ [x]) g), none, none, none] := by
  have l6 := hb.l6
  have q2 : 2 ≤ sizeLine := by decide
  have q1 : 1 ≤ sizeLine := by decide
  let P : Str → Bool := fun o => decide (o = x) || decide (x ∈ Wy o)
  have hP : ∀ o ∈ bs, P o = true ↔ Rt gs o x := fun o ho => by
    simp only [P, Bool.or_eq_true, decide_eq_true_eq]
    rw [(hW o ho).2.2 x]
    exact ⟨fun z => z.elim (fun z => z ▸ .refl _) rp_rt, rt_split⟩
  obtain ⟨e, e1, ⟨o1, m1, v1⟩, u1⟩ := max_map (fun o => (tol gs n o).1) (os := bs.filter P) (by
    intro z
    have : x ∈ bs.filter P := List.mem_filter.mpr ⟨hx, (hP x hx).mpr (.refl x)⟩
    rw [z] at this; cases this)
  obtain ⟨l, e2, ⟨o2, m2, v2⟩, u2⟩ := min_map (fun o => (tol gs n o).2) (os := x :: Wy x) (by simp)
  have im : ∀ o ∈ x :: Wy x, o ∈ bs ∧ Rt gs x o := fun o ho => by
    rcases List.mem_cons.mp ho with rfl | z
    · exact ⟨hx, .refl _⟩
    · exact ⟨(hW x hx).2.1 o z, rp_rt (((hW x hx).2.2 o).mp z)⟩
  refine ⟨e, l, ⟨⟨o1, ?_, ?_⟩, fun o v t hv => ?_⟩, ⟨⟨o2, (im o2 m2).2, ?_⟩, fun o v t hv => ?_⟩, fun ys g nx yl eg => ?_⟩
  · have := List.mem_filter.mp m1
    exact (hP o1 this.1).mp this.2
  · rw [← v1]; exact (tol_spec gs n o1).1
  · have ho : o ∈ bs := (rt_in h t).mpr hx
    have := u1 o (List.mem_filter.mpr ⟨ho, (hP o ho).mpr t⟩)
    have := (tol_spec gs n o).2.1 v hv
    omega
  · rw [← v2]; exact (tol_spec gs n o2).2.2.1
  · have ho : o ∈ x :: Wy x := by
      rcases rt_split t with rfl | z
      · exact List.mem_cons_self
      · exact List.mem_cons_of_mem _ (((hW x hx).2.2 o).mpr z)
    have := u2 o ho
    have := (tol_spec gs n o).2.2.2 v hv
    omega
  · let R : DL.Env := [some (dS bs fun b => pr (tol gs n b)), some (dS bs (lD Wy)), some (dS ys g), some (.str x), none, none]
    have c1 : lcL (.nm 5) [5] ct_drawn_by_0 ce_drawn_by_0 (bs.map D.str) R = .ok ((bs.filter P).map fun o => .int (tol gs n o).1) R := by
      have z := lcL_pure (t := .nm 5) (vs := [5]) (ts := ct_drawn_by_0) (f := ce_drawn_by_0) (r := R) (fun d => match d with | .str s => P s | _ => false) (fun d => match d with | .str o => .int (tol gs n o).1 | _ => .non) (items := bs.map D.str) fun d hd => by
        obtain ⟨o, ho, rfl⟩ := List.mem_map.mp hd
        have i1 := ix_dS (g := fun b => pr (tol gs n b)) ho
        have i2 := ix_dS (g := lD Wy) ho
        have eq := eqD_str (menu_ok o (hb.mn o ho)) (menu_ok x (hb.mn x hx))
        have inn : inD (.str x) (lD Wy o) = some (decide (x ∈ Wy o)) := by
          unfold lD
          rw [inD_lst (pl_str (menu_ok x (hb.mn x hx))) (pl_strL fun y hy => hb.mn y ((hW o ho).2.1 y hy))]
          simp [mem_strL]
        refine ⟨[some (dS bs fun b => pr (tol gs n b)), some (dS bs (lD Wy)), some (dS ys g), some (.str x), none, some (.str o)], by simp [R], ?_, fun _ => ?_, by simp [R]⟩
        · show ct_drawn_by_0 _ = .ok (P o) _
          generalize dS bs (fun b => pr (tol gs n b)) = d0
          generalize dS bs (lD Wy) = d1 at i2 ⊢
          by_cases q : o = x
          · have eq' : eqD (.str o) (.str x) = some true := by simpa [q] using eq
            have q' : P o = true := by simp [P, q]
            rw [q']
            simp [ct_drawn_by_0, eq']
          · have q' : P o = decide (x ∈ Wy o) := by simp [P, q]
            rw [q']
            simp [ct_drawn_by_0, eq, q, i2, inn]
        · show ce_drawn_by_0 _ = .ok (.int (tol gs n o).1) _
          generalize dS bs (fun b => pr (tol gs n b)) = d0 at i1 ⊢
          simp only [pr] at i1
          simp [ce_drawn_by_0, i1, ix_tup0]
      rw [z]
      congr 1
      have ef : ∀ os : List Str, ((os.map D.str).filter (fun d => match d with | .str s => P s | _ => false)).map (fun d => match d with | .str o => D.int (tol gs n o).1 | _ => .non) = (os.filter P).map fun o => .int (tol gs n o).1 := by
        intro os
        induction os with
        | nil => rfl
        | cons o os ih =>
          simp only [List.map_cons, List.filter_cons]
          by_cases c : P o = true
          · rw [if_pos c, if_pos c, List.map_cons, List.map_cons, ih]
          · rw [if_neg c, if_neg c, ih]
      exact ef bs
    have c2 : ∀ d4 : Option D, lcL (.nm 5) [5] tYesD ce_drawn_by_1 (strL (x :: Wy x)) [some (dS bs fun b => pr (tol gs n b)), some (dS bs (lD Wy)), some (dS ys g), some (.str x), d4, none] = .ok ((x :: Wy x).map fun o => .int (tol gs n o).2) [some (dS bs fun b => pr (tol gs n b)), some (dS bs (lD Wy)), some (dS ys g), some (.str x), d4, none] := by
      intro d4
      have z := lcL_map (t := .nm 5) (vs := [5]) (f := ce_drawn_by_1) (r := [some (dS bs fun b => pr (tol gs n b)), some (dS bs (lD Wy)), some (dS ys g), some (.str x), d4, none]) (items := strL (x :: Wy x)) (fun d => match d with | .str o => .int (tol gs n o).2 | _ => .non) fun d hd => by
        obtain ⟨o, ho, rfl⟩ := List.mem_map.mp hd
        have i1 := ix_dS (g := fun b => pr (tol gs n b)) (im o ho).1
        refine ⟨[some (dS bs fun b => pr (tol gs n b)), some (dS bs (lD Wy)), some (dS ys g), some (.str x), d4, some (.str o)], [some (dS bs fun b => pr (tol gs n b)), some (dS bs (lD Wy)), some (dS ys g), some (.str x), d4, some (.str o)], by simp, ?_, by simp⟩
        show ce_drawn_by_1 _ = .ok (.int (tol gs n o).2) _
        generalize dS bs (fun b => pr (tol gs n b)) = d0 at i1 ⊢
        simp only [pr] at i1
        simp [ce_drawn_by_1, i1, ix_tup1]
      rw [z]
      simp [strL]
    have W10 : (Wy x).length ≤ bs.length := nodup_le (hW x hx).1 (hW x hx).2.1
    have i2 := ix_dS (g := lD Wy) hx
    have ad : addD (.lst [.str x]) (lD Wy x) = some (.lst (strL (x :: Wy x))) := by
      simp only [lD, addD, strL_len, List.length_cons, List.length_nil]
      rw [if_pos (small_le (by omega))]
      rfl
    have kd := keys_dS (bs := bs) (g := fun b => pr (tol gs n b))
    have sx := setIx_new (g := g) (d := pr (e, l)) nx yl eg
    have z1 : ((bs.filter P).map fun o => D.int (tol gs n o).1).length ≤ sizeLine := by
      rw [List.length_map]
      exact small_le (Nat.le_trans (List.length_filter_le _ _) (by omega))
    have z2 : ((x :: Wy x).map fun o => D.int (tol gs n o).2).length ≤ sizeLine := by
      rw [List.length_map, List.length_cons]
      exact small_le (by omega)
    simp only [R] at c1
    generalize (bs.filter P).map (fun o => D.int (tol gs n o).1) = l1 at c1 e1 z1
    generalize (x :: Wy x).map (fun o => D.int (tol gs n o).2) = l2 at c2 e2 z2
    generalize strL (x :: Wy x) = sx2 at ad c2
    generalize dS (ys ++ [x]) g = d3 at sx ⊢
    generalize dS ys g = d2 at sx c1 c2 ⊢
    generalize lD Wy x = wx at i2 ad
    generalize dS bs (fun b => pr (tol gs n b)) = d0 at kd c1 c2 ⊢
    generalize dS bs (lD Wy) = d1 at i2 c1 c2 ⊢
    generalize bs.map D.str = ks at kd c1
    simp only [pr] at sx
    simp [lb_drawn_by_0, eLc_ap, kd, c1, z1, e1, i2, q1, ad, c2, z2, e2, q2, sx]
theorem drawn_by_ok {bs : List Str} (hb : Bs bs) {n : Int} {gs : List Fa} (h : ∀ f ∈ gs, f.ok bs n) {Wy : Str → List Str} (hW : ∀ b ∈ bs, (Wy b).Nodup ∧ (∀ c ∈ Wy b, c ∈ bs) ∧ ∀ c, c ∈ Wy b ↔ Rp gs b c) :
    ∃ R : Str → Int × Int, mir_drawn_by [dS bs fun b => pr (tol gs n b), dS bs (lD Wy)] = .ok (dS bs fun b => pr (R b)) [none, none] ∧ ∀ b ∈ bs, IsE gs b (R b).1 ∧ IsL gs n b (R b).2 := by
  have l6 := hb.l6
  have ex : ∀ x, x ∈ bs → ∃ p : Int × Int, IsE gs x p.1 ∧ IsL gs n x p.2 ∧ ∀ (ys : List Str) (g : Str → D), x ∉ ys → ys.length ≤ 100 → g x = pr p → lb_drawn_by_0 [some (dS bs fun b => pr (tol gs n b)), some (dS bs (lD Wy)), some (dS ys g), some (.str x), none, none] = .nx [some (dS bs fun b => pr (tol gs n b)), some (dS bs (lD Wy)), some (dS (ys ++ [x]) g), none, none, none] := fun x hx => by
    obtain ⟨e, l, z⟩ := drawn_step hb h hW hx
    exact ⟨(e, l), z⟩
  obtain ⟨R, hR⟩ : ∃ R : Str → Int × Int, ∀ x ∈ bs, IsE gs x (R x).1 ∧ IsL gs n x (R x).2 ∧ ∀ (ys : List Str) (g : Str → D), x ∉ ys → ys.length ≤ 100 → g x = pr (R x) → lb_drawn_by_0 [some (dS bs fun b => pr (tol gs n b)), some (dS bs (lD Wy)), some (dS ys g), some (.str x), none, none] = .nx [some (dS bs fun b => pr (tol gs n b)), some (dS bs (lD Wy)), some (dS (ys ++ [x]) g), none, none, none] := by
    refine ⟨fun x => if q : x ∈ bs then Classical.choose (ex x q) else (0, 0), fun x hx => ?_⟩
    have := Classical.choose_spec (ex x hx)
    simp only [dif_pos hx]
    exact this
  refine ⟨R, ?_, fun b hbb => ⟨(hR b hbb).1, (hR b hbb).2.1⟩⟩
  have loop : ∀ (xs ys : List Str), ys ++ xs = bs → forL (.nm 3) lb_drawn_by_0 (xs.map D.str) [some (dS bs fun b => pr (tol gs n b)), some (dS bs (lD Wy)), some (dS ys fun b => pr (R b)), none, none, none] = .nx [some (dS bs fun b => pr (tol gs n b)), some (dS bs (lD Wy)), some (dS bs fun b => pr (R b)), none, none, none] := by
    intro xs
    induction xs with
    | nil => intro ys e; rw [List.append_nil] at e; subst e; rfl
    | cons x xs ih =>
      intro ys e
      have hx : x ∈ bs := by rw [← e]; simp
      have nx : x ∉ ys := by
        have n := hb.nd
        rw [← e] at n
        exact fun z => (List.nodup_append.mp n).2.2 x z x (by simp) rfl
      have yl : ys.length ≤ 100 := by
        have : ys.length ≤ bs.length := by rw [← e]; simp
        omega
      rw [List.map_cons]
      unfold forL
      simp only [put_nm, List.length_cons, List.length_nil, Nat.reduceAdd, Nat.reduceLT, if_true, List.set_cons_succ, List.set_cons_zero]
      rw [(hR x hx).2.2 ys (fun b => pr (R b)) nx yl rfl]
      exact ih (ys ++ [x]) (by simpa using e)
  have lp := loop bs [] rfl
  have e0 : D.dct false [] = dS [] fun b => pr (R b) := rfl
  have kd := keys_dS (bs := bs) (g := fun b => pr (tol gs n b))
  generalize dS [] (fun b => pr (R b)) = d3 at lp e0
  generalize dS bs (fun b => pr (tol gs n b)) = d0 at kd lp ⊢
  generalize dS bs (fun b => pr (R b)) = d4 at lp ⊢
  generalize dS bs (lD Wy) = d1 at lp ⊢
  generalize bs.map D.str = ks at kd lp
  simp [mir_drawn_by, mkF_ap, b_drawn_by, e0, sFor_ap, kd, lp]
theorem drawn_ok {bs : List Str} (hb : Bs bs) {n : Int} {fs : List Fa} (h : ∀ f ∈ fs, f.ok bs n) {b : Str} (hbb : b ∈ bs) : ∃ e l, mir_drawn [Yd bs n fs, .str b] = .ok (pr (e, l)) [none, none] ∧ IsE fs b e ∧ IsL fs n b l := by
  have t := told_ok hb (fs := fs) h
  obtain ⟨Wy, w, hW⟩ := ways_ok hb (fs := fs) h
  obtain ⟨R, e1, hR⟩ := drawn_by_ok hb h hW
  refine ⟨(R b).1, (R b).2, ?_, hR b hbb⟩
  have im := ix_dS (g := fun b => pr (R b)) hbb
  have yi := yin n fs hb.mn (hb.mn b hbb)
  have yc : mir_want_box [Yd bs n fs, .str b] = .ok .non [none, none] := by
    simp [mir_want_box, mkF_ap, b_want_box, yi, hbb]
  generalize dS bs (fun b => pr (tol fs n b)) = d0 at t e1
  generalize dS bs (fun b => pr (R b)) = d4 at e1 im
  generalize dS bs (lD Wy) = d1 at w e1
  have dd : mir_drawn_days [Yd bs n fs, .lst (faL fs)] = .ok d4 [none, none] := by
    simp [mir_drawn_days, mkF_ap, b_drawn_days, t, w, e1]
  simp [mir_drawn, mkF_ap, b_drawn, yc, dd, im]
end K20
set_option Elab.async false
set_option linter.all false
set_option autoImplicit false
set_option maxHeartbeats 1000000
namespace K20
open PySem PySem.Spec PyProof.Rows L2 DL
/-! handing on along the facts -/
def stepR (T : Str → Int × Int) (p : Str × Str) : Str → Int × Int := fun b => if b = p.1 then ((T p.1).1, if (T p.2).2 < (T p.1).2 then (T p.2).2 else (T p.1).2) else if b = p.2 then (if (T p.1).1 > (T p.2).1 then (T p.1).1 else (T p.2).1, (T p.2).2) else T b
def pairsF : List Fa → List (Str × Str)
  | [] => []
  | .ah a b :: gs => (a, b) :: pairsF gs
  | _ :: gs => pairsF gs
theorem mem_pairs {a b : Str} : ∀ {gs : List Fa}, (a, b) ∈ pairsF gs ↔ Fa.ah a b ∈ gs
  | [] => by simp [pairsF]
  | f :: gs => by
    cases f <;> simp [pairsF, mem_pairs (gs := gs)]
theorem stepR_mono (T : Str → Int × Int) (p : Str × Str) (b : Str) : (T b).1 ≤ (stepR T p b).1 ∧ (stepR T p b).2 ≤ (T b).2 := by
  unfold stepR
  by_cases q : b = p.1
  · rw [if_pos q, q]
    refine ⟨Int.le_refl _, ?_⟩
    show (if (T p.2).2 < (T p.1).2 then (T p.2).2 else (T p.1).2) ≤ _
    split <;> omega
  · rw [if_neg q]
    by_cases q2 : b = p.2
    · rw [if_pos q2, q2]
      refine ⟨?_, Int.le_refl _⟩
      show _ ≤ (if (T p.1).1 > (T p.2).1 then (T p.1).1 else (T p.2).1)
      split <;> omega
    · rw [if_neg q2]; exact ⟨Int.le_refl _, Int.le_refl _⟩
theorem stepR_edge (T : Str → Int × Int) {p : Str × Str} (ne : p.1 ≠ p.2) : (T p.1).1 ≤ (stepR T p p.2).1 ∧ (stepR T p p.1).2 ≤ (T p.2).2 := by
  unfold stepR
  rw [if_pos rfl, if_neg (fun z => ne z.symm), if_pos rfl]
  constructor
  · show _ ≤ (if (T p.1).1 > (T p.2).1 then (T p.1).1 else (T p.2).1)
    split <;> omega
  · show (if (T p.2).2 < (T p.1).2 then (T p.2).2 else (T p.1).2) ≤ _
    split <;> omega
theorem round_mono : ∀ (ps : List (Str × Str)) (T : Str → Int × Int) (b : Str), (T b).1 ≤ (ps.foldl stepR T b).1 ∧ (ps.foldl stepR T b).2 ≤ (T b).2
  | [], T, b => ⟨Int.le_refl _, Int.le_refl _⟩
  | p :: ps, T, b => by
    have h1 := stepR_mono T p b
    have h2 := round_mono ps (stepR T p) b
    rw [List.foldl_cons]
    omega
theorem round_edge : ∀ (ps : List (Str × Str)), (∀ p ∈ ps, p.1 ≠ p.2) → ∀ (T : Str → Int × Int) (p : Str × Str), p ∈ ps → (T p.1).1 ≤ (ps.foldl stepR T p.2).1 ∧ (ps.foldl stepR T p.1).2 ≤ (T p.2).2
  | [], _, T, p, h => nomatch h
  | q :: ps, ne, T, p, h => by
    rw [List.foldl_cons]
    rcases List.mem_cons.mp h with rfl | h
    · have h1 := stepR_edge T (ne p List.mem_cons_self)
      have h2 := round_mono ps (stepR T p) p.2
      have h3 := round_mono ps (stepR T p) p.1
      omega
    · have h1 := stepR_mono T q p.1
      have h2 := stepR_mono T q p.2
      have h3 := round_edge ps (fun p hp => ne p (List.mem_cons_of_mem _ hp)) (stepR T q) p h
      omega
def Snd (gs : List Fa) (n : Int) (T : Str → Int × Int) : Prop := ∀ b, (∃ o, Rt gs o b ∧ Ev gs o (T b).1) ∧ ∃ o, Rt gs b o ∧ Lw gs n o (T b).2
theorem stepR_snd {gs : List Fa} {n : Int} {T : Str → Int × Int} (s : Snd gs n T) {p : Str × Str} (h : Fa.ah p.1 p.2 ∈ gs) : Snd gs n (stepR T p) := by
  intro b
  unfold stepR
  by_cases q : b = p.1
  · rw [if_pos q, q]
    refine ⟨(s p.1).1, ?_⟩
    show ∃ o, Rt gs p.1 o ∧ Lw gs n o (if (T p.2).2 < (T p.1).2 then (T p.2).2 else (T p.1).2)
    split
    · obtain ⟨o, t, z⟩ := (s p.2).2
      exact ⟨o, .step h t, z⟩
    · exact (s p.1).2
  · rw [if_neg q]
    by_cases q2 : b = p.2
    · rw [if_pos q2, q2]
      refine ⟨?_, (s p.2).2⟩
      show ∃ o, Rt gs o p.2 ∧ Ev gs o (if (T p.1).1 > (T p.2).1 then (T p.1).1 else (T p.2).1)
      split
      · obtain ⟨o, t, z⟩ := (s p.1).1
        exact ⟨o, t.snoc h, z⟩
      · exact (s p.2).1
    · rw [if_neg q2]; exact s b
theorem round_snd {gs : List Fa} {n : Int} : ∀ (ps : List (Str × Str)), (∀ p ∈ ps, Fa.ah p.1 p.2 ∈ gs) → ∀ T, Snd gs n T → Snd gs n (ps.foldl stepR T)
  | [], _, T, s => s
  | p :: ps, h, T, s => round_snd ps (fun p hp => h p (List.mem_cons_of_mem _ hp)) _ (stepR_snd s (h p List.mem_cons_self))
def rounds (ps : List (Str × Str)) : Nat → (Str → Int × Int) → Str → Int × Int
  | 0, T => T
  | k + 1, T => rounds ps k (ps.foldl stepR T)
theorem rounds_snd {gs : List Fa} {n : Int} {ps : List (Str × Str)} (h : ∀ p ∈ ps, Fa.ah p.1 p.2 ∈ gs) : ∀ (k : Nat) T, Snd gs n T → Snd gs n (rounds ps k T)
  | 0, T, s => s
  | k + 1, T, s => rounds_snd h k _ (round_snd ps h T s)
theorem rounds_mono {ps : List (Str × Str)} : ∀ (k : Nat) (T : Str → Int × Int) (b : Str), (T b).1 ≤ (rounds ps k T b).1 ∧ (rounds ps k T b).2 ≤ (T b).2
  | 0, T, b => ⟨Int.le_refl _, Int.le_refl _⟩
  | k + 1, T, b => by
    have h1 := round_mono ps T b
    have h2 := rounds_mono (ps := ps) k (ps.foldl stepR T) b
    show _ ≤ (rounds ps k (ps.foldl stepR T) b).1 ∧ (rounds ps k (ps.foldl stepR T) b).2 ≤ _
    omega
/-- ways of k facts -/
inductive Pth (gs : List Fa) : Nat → Str → Str → Prop where
  | refl (a : Str) : Pth gs 0 a a
  | step {k : Nat} {a b c : Str} (h : Fa.ah a b ∈ gs) (t : Pth gs k b c) : Pth gs (k + 1) a c
theorem pth_last {gs : List Fa} {k : Nat} : ∀ {a c : Str}, Pth gs (k + 1) a c → ∃ b, Pth gs k a b ∧ Fa.ah b c ∈ gs := by
  induction k with
  | zero =>
    intro a c t
    cases t with
    | step h t => cases t; exact ⟨a, .refl a, h⟩
  | succ k ih =>
    intro a c t
    cases t with
    | step h t =>
      obtain ⟨b, t', h'⟩ := ih t
      exact ⟨b, .step h t', h'⟩
theorem rounds_E {gs : List Fa} {ps : List (Str × Str)} (h : ∀ a b, Fa.ah a b ∈ gs → (a, b) ∈ ps) (ne : ∀ p ∈ ps, p.1 ≠ p.2) {k : Nat} {a c : Str} (t : Pth gs k a c) : ∀ (m : Nat) (T : Str → Int × Int), k ≤ m → (T a).1 ≤ (rounds ps m T c).1 := by
  induction t with
  | refl a => exact fun m T _ => (rounds_mono m T a).1
  | @step k a b c h1 t ih =>
    intro m T hm
    obtain ⟨m, rfl⟩ : ∃ m', m = m' + 1 := ⟨m - 1, by omega⟩
    have e := (round_edge ps ne T (a, b) (h a b h1)).1
    have i := ih m (ps.foldl stepR T) (by omega)
    exact Int.le_trans e i
theorem rounds_L {gs : List Fa} {ps : List (Str × Str)} (h : ∀ a b, Fa.ah a b ∈ gs → (a, b) ∈ ps) (ne : ∀ p ∈ ps, p.1 ≠ p.2) : ∀ (k : Nat) {a c : Str}, Pth gs k a c → ∀ (m : Nat) (T : Str → Int × Int), k ≤ m → (rounds ps m T a).2 ≤ (T c).2
  | 0, a, c, t, m, T, _ => by cases t; exact (rounds_mono m T a).2
  | k + 1, a, c, t, m, T, hm => by
    obtain ⟨b, t', h'⟩ := pth_last t
    obtain ⟨m, rfl⟩ : ∃ m', m = m' + 1 := ⟨m - 1, by omega⟩
    have e := (round_edge ps ne T (b, c) (h b c h')).2
    have i := rounds_L h ne k t' m (ps.foldl stepR T) (by omega)
    exact Int.le_trans i e
/-- a way that meets no box twice -/
inductive Lp (gs : List Fa) : List Str → Str → Prop where
  | one (c : Str) : Lp gs [c] c
  | cons {a b c : Str} {l : List Str} (h : Fa.ah a b ∈ gs) (t : Lp gs (b :: l) c) : Lp gs (a :: b :: l) c
theorem lp_suffix {gs : List Fa} {xs : List Str} {c a : Str} (t : Lp gs xs c) : a ∈ xs → ∃ l, Lp gs (a :: l) c ∧ (a :: l) <:+ xs := by
  induction t with
  | one c =>
    intro h
    have : a = c := by simpa using h
    subst this
    exact ⟨[], .one a, List.suffix_refl _⟩
  | @cons x b c l h t ih =>
    intro hm
    rcases List.mem_cons.mp hm with rfl | hm
    · exact ⟨b :: l, .cons h t, List.suffix_refl _⟩
    · obtain ⟨l', t', s⟩ := ih hm
      exact ⟨l', t', s.trans (List.suffix_cons _ _)⟩
theorem rt_lp {gs : List Fa} {a c : Str} (t : Rt gs a c) : ∃ l, Lp gs (a :: l) c ∧ (a :: l).Nodup := by
  induction t with
  | refl a => exact ⟨[], .one a, by simp⟩
  | @step a b c h t ih =>
    obtain ⟨l, t', nd⟩ := ih
    by_cases q : a ∈ b :: l
    · obtain ⟨l', t2, s⟩ := lp_suffix t' q
      exact ⟨l', t2, nd.sublist s.sublist⟩
    · exact ⟨b :: l, .cons h t', List.nodup_cons.mpr ⟨q, nd⟩⟩
theorem lp_pth {gs : List Fa} {xs : List Str} {c : Str} (t : Lp gs xs c) : ∀ a l, xs = a :: l → Pth gs l.length a c := by
  induction t with
  | one c => intro a l e; cases e; exact .refl _
  | @cons x b c l h t ih =>
    intro a l' e
    cases e
    exact .step h (ih b l rfl)
theorem lp_in {bs : List Str} {n : Int} {gs : List Fa} (ok : ∀ f ∈ gs, f.ok bs n) {xs : List Str} {c : Str} (t : Lp gs xs c) : c ∈ bs → ∀ x ∈ xs, x ∈ bs := by
  induction t with
  | one c => intro hc x hx; have : x = c := by simpa using hx
             subst this; exact hc
  | @cons a b c l h t ih =>
    intro hc x hx
    rcases List.mem_cons.mp hx with rfl | hx
    · exact (ok _ h).1
    · exact ih hc x hx
theorem rt_pth {bs : List Str} {n : Int} {gs : List Fa} (ok : ∀ f ∈ gs, f.ok bs n) {a c : Str} (t : Rt gs a c) (hc : c ∈ bs) : ∃ k, k ≤ bs.length ∧ Pth gs k a c := by
  obtain ⟨l, t', nd⟩ := rt_lp t
  refine ⟨l.length, ?_, lp_pth t' a l rfl⟩
  have := nodup_le nd (lp_in ok t' hc)
  simp at this
  omega
/-- the law's drawn days are those of the document -/
theorem rounds_spec {bs : List Str} {n : Int} {gs : List Fa} (ok : ∀ f ∈ gs, f.ok bs n) {b : Str} (hbb : b ∈ bs) : IsE gs b (rounds (pairsF gs) bs.length (tol gs n) b).1 ∧ IsL gs n b (rounds (pairsF gs) bs.length (tol gs n) b).2 := by
  have hin : ∀ a b, Fa.ah a b ∈ gs → (a, b) ∈ pairsF gs := fun a b h => mem_pairs.mpr h
  have ne : ∀ p ∈ pairsF gs, p.1 ≠ p.2 := fun p hp => (ok _ (mem_pairs.mp (show (p.1, p.2) ∈ pairsF gs from hp))).2.2
  have s0 : Snd gs n (tol gs n) := fun b => ⟨⟨b, .refl b, (tol_spec gs n b).1⟩, b, .refl b, (tol_spec gs n b).2.2.1⟩
  have s := rounds_snd (ps := pairsF gs) (fun p hp => mem_pairs.mp (show (p.1, p.2) ∈ pairsF gs from hp)) bs.length _ s0
  refine ⟨⟨(s b).1, fun o v t hv => ?_⟩, ⟨(s b).2, fun o v t hv => ?_⟩⟩
  · obtain ⟨k, hk, p⟩ := rt_pth ok t hbb
    exact Int.le_trans ((tol_spec gs n o).2.1 v hv) (rounds_E hin ne p _ _ hk)
  · obtain ⟨k, hk, p⟩ := rt_pth ok t ((rt_in ok t).mp hbb)
    exact Int.le_trans (rounds_L hin ne k p _ _ hk) ((tol_spec gs n o).2.2.2 v hv)
theorem isE_uniq {gs : List Fa} {b : Str} {e e' : Int} (h : IsE gs b e) (h' : IsE gs b e') : e = e' := by
  obtain ⟨⟨o, t, v⟩, u⟩ := h
  obtain ⟨⟨o', t', v'⟩, u'⟩ := h'
  have := u o' e' t' v'
  have := u' o e t v
  omega
theorem isL_uniq {gs : List Fa} {n : Int} {b : Str} {e e' : Int} (h : IsL gs n b e) (h' : IsL gs n b e') : e = e' := by
  obtain ⟨⟨o, t, v⟩, u⟩ := h
  obtain ⟨⟨o', t', v'⟩, u'⟩ := h'
  have := u o' e' t' v'
  have := u' o e t v
  omega
/-- nothing hangs on the sequence of the facts, nor on those of numbers -/
def notG : Fa → Bool
  | .gn _ _ _ => false
  | _ => true
theorem rt_congr {gs hs : List Fa} (h : ∀ f, notG f = true → (f ∈ gs ↔ f ∈ hs)) {a c : Str} (t : Rt gs a c) : Rt hs a c := by
  induction t with
  | refl a => exact .refl a
  | step h' t ih => exact .step ((h _ rfl).mp h') ih
theorem isE_congr {gs hs : List Fa} (h : ∀ f, notG f = true → (f ∈ gs ↔ f ∈ hs)) {b : Str} {e : Int} (z : IsE gs b e) : IsE hs b e := by
  have hh : ∀ f, notG f = true → (f ∈ hs ↔ f ∈ gs) := fun f hf => (h f hf).symm
  have ev : ∀ {gs hs : List Fa}, (∀ f, notG f = true → (f ∈ gs ↔ f ∈ hs)) → ∀ o v, Ev gs o v → Ev hs o v := by
    intro gs hs h o v z
    rcases z with z | ⟨l, z⟩
    · exact .inl z
    · exact .inr ⟨l, (h _ rfl).mp z⟩
  obtain ⟨⟨o, t, v⟩, u⟩ := z
  exact ⟨⟨o, rt_congr h t, ev h _ _ v⟩, fun o v t hv => u o v (rt_congr hh t) (ev hh _ _ hv)⟩
theorem isL_congr {gs hs : List Fa} (h : ∀ f, notG f = true → (f ∈ gs ↔ f ∈ hs)) {n : Int} {b : Str} {e : Int} (z : IsL gs n b e) : IsL hs n b e := by
  have hh : ∀ f, notG f = true → (f ∈ hs ↔ f ∈ gs) := fun f hf => (h f hf).symm
  have ev : ∀ {gs hs : List Fa}, (∀ f, notG f = true → (f ∈ gs ↔ f ∈ hs)) → ∀ o v, Lw gs n o v → Lw hs n o v := by
    intro gs hs h o v z
    rcases z with z | ⟨l, z⟩
    · exact .inl z
    · exact .inr ⟨l, (h _ rfl).mp z⟩
  obtain ⟨⟨o, t, v⟩, u⟩ := z
  exact ⟨⟨o, rt_congr h t, ev h _ _ v⟩, fun o v t hv => u o v (rt_congr hh t) (ev hh _ _ hv)⟩
end K20
set_option Elab.async false
set_option linter.all false
set_option autoImplicit false
set_option maxHeartbeats 1000000
namespace K20
open PySem PySem.Spec PyProof.Rows L2 DL
def lp (p : Int × Int) : D := .lst [.int p.1, .int p.2]
theorem ix_lp0 (p : Int × Int) : ixD (lp p) (.int 0) = some (.int p.1) := by simp [lp, ixD, atI, ixN]
theorem ix_lp1 (p : Int × Int) : ixD (lp p) (.int 1) = some (.int p.2) := by simp [lp, ixD, atI, ixN]
theorem ld_step0 {bs : List Str} (hb : Bs bs) {n : Int} {a : Str} {f l : Int} (hf : (Fa.dy a f l).ok bs n) (T : Str → Int × Int) (x0 x3 x4 x5 x6 x7 : Option D) :
    lb_law_drawn_0 [x0, some (dS bs fun b => lp (T b)), some (Fa.dy a f l).d, x3, x4, x5, x6, x7] = .nx [x0, some (dS bs fun b => lp (stepT T (.dy a f l) b)), none, x3, x4, x5, x6, x7] := by
  have q2 : 2 ≤ sizeLine := by decide
  have l10 : bs.length ≤ 100 := by have := hb.l6; omega
  have im := ix_dS (g := fun b => lp (T b)) hf.1
  obtain ⟨j, sp, hj⟩ := spot_dS (g := fun b => lp (T b)) hf.1
  have st := setJ_dS (g := fun b => lp (T b)) (d := lp (if f > (T a).1 then f else (T a).1, if l < (T a).2 then l else (T a).2)) hb.nd hj
  have e : (dS bs fun b => if b = a then lp (if f > (T a).1 then f else (T a).1, if l < (T a).2 then l else (T a).2) else lp (T b)) = dS bs fun b => lp (stepT T (.dy a f l) b) := by
    congr 1
    funext b
    by_cases q : b = a <;> simp [stepT, q]
  rw [e] at st
  have one := one_dS (g := fun b => lp (T b)) hb.nd hj
  have sz := sz_dS (g := fun b => lp (T b)) l10
  generalize dS bs (fun b => lp (stepT T (.dy a f l) b)) = d2 at st ⊢
  generalize dS bs (fun b => lp (T b)) = d1 at im sp st one sz ⊢
  have i0 := ix_lp0 (T a)
  have i1 := ix_lp1 (T a)
  generalize lp (T a) = old at im sp st i0 i1
  simp only [lp] at st
  simp [lb_law_drawn_0, Fa.d, ix_tup1, ix_tup2, ix_tup3, im, i0, i1, q2, putS_ap, sp, one, sz, st]
theorem ld_step1 {bs : List Str} (hb : Bs bs) {a c : Str} (ha : a ∈ bs) (hc : c ∈ bs) (ne : a ≠ c) (T : Str → Int × Int) (x0 x2 x3 x4 x7 : Option D) :
    lb_law_drawn_1 [x0, some (dS bs fun b => lp (T b)), x2, x3, x4, some (.str a), some (.str c), x7] = .nx [x0, some (dS bs fun b => lp (stepR T (a, c) b)), x2, x3, x4, none, none, x7] := by
  have ia := ix_dS (g := fun b => lp (T b)) ha
  have ic := ix_dS (g := fun b => lp (T b)) hc
  obtain ⟨j, sp, hj⟩ := spot_dS (g := fun b => lp (T b)) hc
  let m := if (T a).1 > (T c).1 then (T a).1 else (T c).1
  let T1 : Str → Int × Int := fun b => if b = c then (m, (T c).2) else T b
  have st := setJ_dS (g := fun b => lp (T b)) (d := lp (m, (T c).2)) hb.nd hj
  have e : (dS bs fun b => if b = c then lp (m, (T c).2) else lp (T b)) = dS bs fun b => lp (T1 b) := by
    congr 1
    funext b
    by_cases q : b = c <;> simp [T1, q]
  rw [e] at st
  have ta : T1 a = T a := by simp [T1, ne]
  have tc : T1 c = (m, (T c).2) := by simp [T1]
  have ia' := ix_dS (g := fun b => lp (T1 b)) ha
  have ic' := ix_dS (g := fun b => lp (T1 b)) hc
  obtain ⟨j', sp', hj'⟩ := spot_dS (g := fun b => lp (T1 b)) ha
  let u := if (T c).2 < (T a).2 then (T c).2 else (T a).2
  have st' := setJ_dS (g := fun b => lp (T1 b)) (d := lp ((T a).1, u)) hb.nd hj'
  have e' : (dS bs fun b => if b = a then lp ((T a).1, u) else lp (T1 b)) = dS bs fun b => lp (stepR T (a, c) b) := by
    congr 1
    funext b
    by_cases q : b = a
    · simp [stepR, q, u]
    · by_cases q2 : b = c
      · have nca : ¬ c = a := fun z => ne z.symm
        simp [stepR, q2, T1, m, nca]
      · simp [stepR, q, q2, T1]
  rw [e'] at st'
  simp only [ta, tc] at ia' ic' sp' st'
  generalize dS bs (fun b => lp (stepR T (a, c) b)) = d3 at st' ⊢
  generalize dS bs (fun b => lp (T1 b)) = d2 at st ia' ic' sp' st'
  generalize dS bs (fun b => lp (T b)) = d1 at ia ic sp st ⊢
  have b0 := ix_lp0 (T a)
  have b1 := ix_lp1 (T a)
  have c0 := ix_lp0 (T c)
  have c1 := ix_lp1 (m, (T c).2)
  have s1 : setIx (lp (T c)) (.int 0) (.int m) = some (lp (m, (T c).2)) := by simp [lp, setIx, ixN]
  have s2 : setIx (lp (T a)) (.int 1) (.int u) = some (lp ((T a).1, u)) := by simp [lp, setIx, ixN]
  have eu : ∀ r : DL.Env, opt (min2D (.int (T a).2) (.int (T c).2)) r = .ok (.int u) r := fun r => by rw [min2D_int]; rfl
  have em : ∀ r : DL.Env, opt (max2D (.int (T c).1) (.int (T a).1)) r = .ok (.int m) r := fun r => by rw [max2D_int]; rfl
  have eu' : min2D (.int (T a).2) (.int (T c).2) = some (.int u) := by rw [min2D_int]
  have em' : max2D (.int (T c).1) (.int (T a).1) = some (.int m) := by rw [max2D_int]
  clear_value m u
  generalize lp (T a) = la at *
  generalize lp (T c) = lc at *
  generalize lp (m, (T c).2) = lm at *
  generalize lp ((T a).1, u) = lu at *
  simp [lb_law_drawn_1, ic, ia, b0, c0, -max2D_int, -min2D_int, em', putN_ap, sp, s1, st, ia', ic', b1, c1, eu', sp', s2, st']
/-! the loops -/
def isD : Fa → Bool
  | .dy _ _ _ => true
  | _ => false
def isA : Fa → Bool
  | .ah _ _ => true
  | _ => false
theorem fold_isD : ∀ (gs : List Fa) (T : Str → Int × Int), (gs.filter isD).foldl stepT T = gs.foldl stepT T
  | [], T => rfl
  | f :: gs, T => by
    cases f with
    | dy a x l => simp [isD, List.filter_cons, fold_isD gs]
    | ah a b => simp [isD, List.filter_cons, stepT, fold_isD gs]
    | gn a b c => simp [isD, List.filter_cons, stepT, fold_isD gs]
theorem ld_loop0 {bs : List Str} (hb : Bs bs) {n : Int} (x0 x3 x4 x5 x6 x7 : Option D) : ∀ (gs : List Fa) (T : Str → Int × Int), (∀ f ∈ gs, f.ok bs n ∧ isD f = true) → forL (.nm 2) lb_law_drawn_0 (faL gs) [x0, some (dS bs fun b => lp (T b)), none, x3, x4, x5, x6, x7] = .nx [x0, some (dS bs fun b => lp (gs.foldl stepT T b)), none, x3, x4, x5, x6, x7]
  | [], T, _ => rfl
  | f :: gs, T, h => by
    obtain ⟨ok, isd⟩ := h f List.mem_cons_self
    cases f with
    | dy a x l =>
      have e : faL (Fa.dy a x l :: gs) = (Fa.dy a x l).d :: faL gs := rfl
      rw [e]
      unfold forL
      simp only [put_nm, List.length_cons, List.length_nil, Nat.reduceAdd, Nat.reduceLT, if_true, List.set_cons_succ, List.set_cons_zero]
      rw [ld_step0 hb ok]
      exact ld_loop0 hb x0 x3 x4 x5 x6 x7 gs _ fun f hf => h f (List.mem_cons_of_mem _ hf)
    | ah a b => cases isd
    | gn a b c => cases isd
def pD (p : Str × Str) : D := .tup [.str p.1, .str p.2]
theorem ld_loop1 {bs : List Str} (hb : Bs bs) (x0 x2 x3 x4 x7 : Option D) : ∀ (ps : List (Str × Str)) (T : Str → Int × Int), (∀ p ∈ ps, p.1 ∈ bs ∧ p.2 ∈ bs ∧ p.1 ≠ p.2) → forL (.tp [.nm 5, .nm 6]) lb_law_drawn_1 (ps.map pD) [x0, some (dS bs fun b => lp (T b)), x2, x3, x4, none, none, x7] = .nx [x0, some (dS bs fun b => lp (ps.foldl stepR T b)), x2, x3, x4, none, none, x7]
  | [], T, _ => rfl
  | (a, c) :: ps, T, h => by
    obtain ⟨h1, h2, h3⟩ := h (a, c) List.mem_cons_self
    rw [List.map_cons]
    unfold forL
    simp only [pD, put_tp, putL_cons, putL_nil, put_nm, List.length_cons, List.length_nil, Nat.reduceAdd, Nat.reduceLT, if_true, List.set_cons_succ, List.set_cons_zero]
    rw [ld_step1 hb h1 h2 h3]
    exact ld_loop1 hb x0 x2 x3 x4 x7 ps _ fun p hp => h p (List.mem_cons_of_mem _ hp)
theorem ld_loop2 {bs : List Str} (hb : Bs bs) {ps : List (Str × Str)} (h : ∀ p ∈ ps, p.1 ∈ bs ∧ p.2 ∈ bs ∧ p.1 ≠ p.2) (x0 x2 x7 : Option D) : ∀ (xs : List D) (T : Str → Int × Int), forL (.nm 4) lb_law_drawn_2 xs [x0, some (dS bs fun b => lp (T b)), x2, some (.lst (ps.map pD)), none, none, none, x7] = .nx [x0, some (dS bs fun b => lp (rounds ps xs.length T b)), x2, some (.lst (ps.map pD)), none, none, none, x7]
  | [], T => rfl
  | x :: xs, T => by
    unfold forL
    simp only [put_nm, List.length_cons, List.length_nil, Nat.reduceAdd, Nat.reduceLT, if_true, List.set_cons_succ, List.set_cons_zero]
    have l1 := ld_loop1 hb x0 x2 (some (.lst (ps.map pD))) (some x) x7 ps T h
    have e : lb_law_drawn_2 [x0, some (dS bs fun b => lp (T b)), x2, some (.lst (ps.map pD)), some x, none, none, x7] = .nx [x0, some (dS bs fun b => lp (ps.foldl stepR T b)), x2, some (.lst (ps.map pD)), none, none, none, x7] := by
      generalize dS bs (fun b => lp (T b)) = d1 at l1 ⊢
      generalize dS bs (fun b => lp (ps.foldl stepR T b)) = d2 at l1 ⊢
      generalize ps.map pD = pl at l1 ⊢
      simp [lb_law_drawn_2, sFor_ap, l1]
    rw [e]
    exact ld_loop2 hb h x0 x2 x7 xs _
theorem filter_faL (p : Fa → Bool) (q : D → Bool) (h : ∀ f, q f.d = p f) (gs : List Fa) : (faL gs).filter q = faL (gs.filter p) := by
  unfold faL
  rw [List.filter_map]
  congr 1
  refine List.filter_congr fun f _ => h f
def restD : D → D
  | .tup (_ :: xs) => .tup xs
  | d => d
theorem pairs_map : ∀ gs : List Fa, (faL (gs.filter isA)).map restD = (pairsF gs).map pD
  | [] => rfl
  | f :: gs => by
    cases f with
    | ah a b =>
      have := pairs_map gs
      simp only [isA, List.filter_cons, if_true, pairsF, List.map_cons]
      rw [← this]
      rfl
    | dy a x l => simpa [isA, List.filter_cons, pairsF] using pairs_map gs
    | gn a b c => simpa [isA, List.filter_cons, pairsF] using pairs_map gs
def headIs (s : Str) : D → Bool
  | .tup (.str x :: _) => x == s
  | _ => false
theorem head_days (f : Fa) : headIs "days" f.d = isD f := by
  cases f with
  | dy a x l => simp [headIs, Fa.d, isD]
  | ah a b => simp only [headIs, Fa.d, isD]; decide +kernel
  | gn a b c => simp only [headIs, Fa.d, isD]; decide +kernel
theorem head_ahead (f : Fa) : headIs "ahead" f.d = isA f := by
  cases f with
  | ah a b => simp [headIs, Fa.d, isA]
  | dy a x l => simp only [headIs, Fa.d, isA]; decide +kernel
  | gn a b c => simp only [headIs, Fa.d, isA]; decide +kernel
theorem dec_beq (a b : Str) : decide (a = b) = (a == b) := by rw [Bool.eq_iff_iff]; simp
theorem eq_head {s : Str} (hs : s = "days" ∨ s = "ahead" ∨ s = "gone") (f : Fa) : ∃ x, ixD f.d (.int 0) = some x ∧ eqD x (.str s) = some (headIs s f.d) := by
  have ks : PyData.strOk s = true := by rcases hs with rfl | rfl | rfl <;> decide +kernel
  cases f with
  | ah a b => exact ⟨_, ix_tup0 _ _, by rw [eqD_str k_ahead ks]; simp [headIs, Fa.d, dec_beq]⟩
  | dy a x l => exact ⟨_, ix_tup0 _ _, by rw [eqD_str k_days ks]; simp [headIs, Fa.d, dec_beq]⟩
  | gn a b c => exact ⟨_, ix_tup0 _ _, by rw [eqD_str k_gone ks]; simp [headIs, Fa.d, dec_beq]⟩
theorem law_drawn_ok {m : D} {bs : List Str} {n : Int} {fs : List Fa} (h : Md m bs n fs) (hl : fs.length ≤ 1000) : mir_law_drawn [m] = .ok (dS bs fun b => pr (rounds (pairsF fs) bs.length (tol fs n) b)) [none] := by
  have hb := h.b
  have l6 := hb.l6
  have l10 : bs.length ≤ 100 := by omega
  have q2 : 2 ≤ sizeLine := by decide
  obtain ⟨rest, em⟩ := h.eq
  have mf := mdl_folk bs n fs rest
  have ms := mdl_span bs n fs rest
  have mt := mdl_tale bs n fs rest
  rw [← em] at mf ms mt
  have dc := dcLN_dS (t := .nm 7) (vs := [7]) (fk := ck_law_drawn_0) (f := cv_law_drawn_0) (r := [some m, none, none, none, none, none, none, none]) (g := fun b => lp (1, n)) hb.nd l10 fun b hx => ⟨_, _, _, by simp; rfl, by simp [ck_law_drawn_0]; rfl, by simp [cv_law_drawn_0, lp, q2, ms]; rfl, by simp⟩
  have e0 : D.dct false (bs.map fun b => (D.str b, lp (1, n))) = dS bs fun b => lp ((fun _ => (1, n)) b) := rfl
  have hD : ∀ f ∈ fs.filter isD, f.ok bs n ∧ isD f = true := fun f hf => ⟨h.ok f (List.mem_filter.mp hf).1, (List.mem_filter.mp hf).2⟩
  have lp0 := ld_loop0 hb (some m) none none none none none (fs.filter isD) (fun _ => (1, n)) hD
  rw [fold_isD] at lp0
  have hps : ∀ p ∈ pairsF fs, p.1 ∈ bs ∧ p.2 ∈ bs ∧ p.1 ≠ p.2 := fun p hp => h.ok _ (mem_pairs.mp (show (p.1, p.2) ∈ pairsF fs from hp))
  have lp2 := ld_loop2 hb hps (some m) none none (strL bs) (tol fs n)
  rw [strL_len] at lp2
  -- the facts of days, the facts ahead
  have c0 : ∀ d1 : Option D, lcL (.nm 2) [2] ct_law_drawn_0 ce_law_drawn_0 (faL fs) [some m, d1, none, none, none, none, none, none] = .ok (faL (fs.filter isD)) [some m, d1, none, none, none, none, none, none] := by
    intro d1
    have z := lcL_pure (t := .nm 2) (vs := [2]) (ts := ct_law_drawn_0) (f := ce_law_drawn_0) (r := [some m, d1, none, none, none, none, none, none]) (headIs "days") id (items := faL fs) fun x hx => by
      obtain ⟨f, hf, rfl⟩ := List.mem_map.mp hx
      obtain ⟨y, y1, y2⟩ := eq_head (.inl rfl) f
      exact ⟨[some m, d1, some f.d, none, none, none, none, none], by simp, by simp [ct_law_drawn_0, y1, y2], by simp [ce_law_drawn_0], by simp⟩
    rw [z, List.map_id, filter_faL isD _ head_days]
  have c1 : ∀ d1 : Option D, lcL (.nm 2) [2] ct_law_drawn_1 ce_law_drawn_1 (faL fs) [some m, d1, none, none, none, none, none, none] = .ok ((pairsF fs).map pD) [some m, d1, none, none, none, none, none, none] := by
    intro d1
    have z := lcL_pure (t := .nm 2) (vs := [2]) (ts := ct_law_drawn_1) (f := ce_law_drawn_1) (r := [some m, d1, none, none, none, none, none, none]) (headIs "ahead") restD (items := faL fs) fun x hx => by
      obtain ⟨f, hf, rfl⟩ := List.mem_map.mp hx
      obtain ⟨y, y1, y2⟩ := eq_head (.inr (.inl rfl)) f
      refine ⟨[some m, d1, some f.d, none, none, none, none, none], by simp, by simp [ct_law_drawn_1, y1, y2], fun _ => ?_, by simp⟩
      cases f <;> simp [ce_law_drawn_1, Fa.d, restD, cut1]
    rw [z, filter_faL isA _ head_ahead, pairs_map]
  let R := rounds (pairsF fs) bs.length (tol fs n)
  have c2 : lcL (.nm 7) [7] tYesD ce_law_drawn_2 (strL bs) [some m, some (dS bs fun b => lp (R b)), none, some (.lst ((pairsF fs).map pD)), none, none, none, none] = .ok (bs.map fun b => .tup [.str b, pr (R b)]) [some m, some (dS bs fun b => lp (R b)), none, some (.lst ((pairsF fs).map pD)), none, none, none, none] := by
    have z := lcL_map (t := .nm 7) (vs := [7]) (f := ce_law_drawn_2) (r := [some m, some (dS bs fun b => lp (R b)), none, some (.lst ((pairsF fs).map pD)), none, none, none, none]) (items := strL bs) (fun x => match x with | .str b => .tup [.str b, pr (R b)] | _ => .non) fun x hx => by
      obtain ⟨b, hbb, rfl⟩ := List.mem_map.mp hx
      have im := ix_dS (g := fun b => lp (R b)) hbb
      refine ⟨[some m, some (dS bs fun b => lp (R b)), none, some (.lst ((pairsF fs).map pD)), none, none, none, some (.str b)], [some m, some (dS bs fun b => lp (R b)), none, some (.lst ((pairsF fs).map pD)), none, none, none, some (.str b)], by simp, ?_, by simp⟩
      show ce_law_drawn_2 _ = .ok (.tup [.str b, pr (R b)]) _
      have tl : tupleD (lp (R b)) = some (pr (R b)) := rfl
      generalize dS bs (fun b => lp (R b)) = d1 at im ⊢
      generalize pr (R b) = out at tl ⊢
      simp [ce_law_drawn_2, im, tl, q2]
    rw [z]
    simp [strL]
  have dd := dict_dS (g := fun b => pr (R b)) hb.nd
  have z0 : (faL (fs.filter isD)).length ≤ sizeLine := by rw [faL_len]; exact small_le (Nat.le_trans (List.length_filter_le _ _) hl)
  have z1 : ((pairsF fs).map pD).length ≤ sizeLine := by
    rw [← pairs_map, List.length_map, faL_len]
    exact small_le (Nat.le_trans (List.length_filter_le _ _) hl)
  have z2 : (bs.map fun b => D.tup [.str b, pr (R b)]).length ≤ sizeLine := by rw [List.length_map]; exact small_le (by omega)
  have es : strL bs = bs.map D.str := rfl
  rw [← es] at dc
  show _ = Out.ok (dS bs fun b => pr (R b)) [none]
  have lp2' : forL (.nm 4) lb_law_drawn_2 (strL bs) [some m, some (dS bs fun b => lp (tol fs n b)), none, some (.lst ((pairsF fs).map pD)), none, none, none, none] = .nx [some m, some (dS bs fun b => lp (R b)), none, some (.lst ((pairsF fs).map pD)), none, none, none, none] := lp2
  have lp0' : forL (.nm 2) lb_law_drawn_0 (faL (fs.filter isD)) [some m, some (dS bs fun b => lp ((fun _ => (1, n)) b)), none, none, none, none, none, none] = .nx [some m, some (dS bs fun b => lp (tol fs n b)), none, none, none, none, none, none] := lp0
  clear lp0 lp2
  generalize (bs.map fun b => D.tup [.str b, pr (R b)]) = out at c2 dd z2
  generalize dS bs (fun b => pr (R b)) = fin at dd ⊢
  generalize dS bs (fun b => lp (R b)) = d3 at c2 lp2'
  generalize dS bs (fun b => lp (tol fs n b)) = d2 at lp0' lp2'
  generalize dS bs (fun b => lp ((fun _ => (1, n)) b)) = d1 at e0 lp0'
  generalize (pairsF fs).map pD = pl at c1 lp2' c2 z1
  generalize faL (fs.filter isD) = dl at c0 lp0' z0
  simp [mir_law_drawn, mkF_ap, b_law_drawn, mf, eDcN_ap, dc, e0, eLc_ap, mt, c0, z0, sFor_ap, lp0', c1, z1, lp2', c2, z2, dd]
end K20
set_option Elab.async false
set_option linter.all false
set_option autoImplicit false
set_option maxHeartbeats 1000000
namespace K20
open PySem PySem.Spec PyProof.Rows L2 DL
theorem text_le {M : Nat} : ∀ (ts : List Str) (k : Nat) (acc : Str), (∀ t ∈ ts, t.length ≤ M) → (textFrom k acc ts).length ≤ acc.length + ts.length * (M + 2)
  | [], k, acc, _ => by show acc.length ≤ _; simp
  | t :: ts, k, acc, h => by
    have ih := text_le ts (k + 1) (acc ++ (if k > 0 then ", " else "" : String) ++ t) fun t ht => h t (List.mem_cons_of_mem _ ht)
    have e : (acc ++ (if k > 0 then ", " else "" : String) ++ t).length = acc.length + (if k > 0 then 2 else 0) + t.length := by
      rw [strLen_append, strLen_append]
      congr 1
      congr 1
      split <;> rfl
    rw [e] at ih
    have ht := h t List.mem_cons_self
    have l : (t :: ts).length * (M + 2) = ts.length * (M + 2) + (M + 2) := by rw [List.length_cons, Nat.add_mul]; omega
    have s2 : (if k > 0 then 2 else 0) ≤ 2 := by split <;> omega
    generalize (if k > 0 then 2 else 0) = y at ih s2
    rw [l]
    generalize ts.length * (M + 2) = x at ih ⊢
    exact Nat.le_trans ih (by omega)
theorem ok_app (x y : Str) : PyData.strOk (x ++ y) = (PyData.strOk x && PyData.strOk y) := by
  show ((x.cps ++ y.cps).all fun c => decide (c < 0x110000)) = _
  rw [Array.all_append]
  rfl
theorem text_ok : ∀ (ts : List Str) (k : Nat) (acc : Str), PyData.strOk acc = true → (∀ t ∈ ts, PyData.strOk t = true) → PyData.strOk (textFrom k acc ts) = true
  | [], k, acc, h, _ => h
  | t :: ts, k, acc, h, ht => by
    refine text_ok ts (k + 1) _ ?_ fun t h => ht t (List.mem_cons_of_mem _ h)
    rw [ok_app, ok_app, h, ht t List.mem_cons_self]
    split <;> decide +kernel
def pP (p : Int × Int) : PyData := .tuple [.int p.1, .int p.2]
theorem pair_show : ∀ a < 10, ∀ b < 10, (pP ((a : Nat), (b : Nat))).shown.length ≤ 50 ∧ (pP ((a : Nat), (b : Nat))).showable = true ∧ PyData.strOk (pP ((a : Nat), (b : Nat))).shown = true := by decide +kernel
theorem pair_show2 {p : Int × Int} (h1 : 0 ≤ p.1) (h2 : p.1 ≤ 9) (h3 : 0 ≤ p.2) (h4 : p.2 ≤ 9) : (pP p).shown.length ≤ 50 ∧ (pP p).showable = true ∧ PyData.strOk (pP p).shown = true := by
  have := pair_show p.1.toNat (by omega) p.2.toNat (by omega)
  rw [Int.toNat_of_nonneg h1, Int.toNat_of_nonneg h3] at this
  exact this
theorem list_show {R : Str → Int × Int} : ∀ {bs : List Str}, (∀ b ∈ bs, 0 ≤ (R b).1 ∧ (R b).1 ≤ 9 ∧ 0 ≤ (R b).2 ∧ (R b).2 ≤ 9) → toPyL (bs.map fun b => pr (R b)) = some (bs.map fun b => pP (R b)) ∧ PyData.showableAll (bs.map fun b => pP (R b)) = true ∧ PyData.hasDictAll (bs.map fun b => pP (R b)) = false ∧ PyData.depthAll (bs.map fun b => pP (R b)) ≤ 1 ∧ (∀ t ∈ PyData.shownAll (bs.map fun b => pP (R b)), t.length ≤ 50 ∧ PyData.strOk t = true) ∧ (PyData.shownAll (bs.map fun b => pP (R b))).length = bs.length
  | [], _ => ⟨rfl, rfl, rfl, Nat.zero_le _, fun _ h => (nomatch h), rfl⟩
  | b :: bs, h => by
    obtain ⟨i1, i2, i3, i4, i5, i6⟩ := list_show (R := R) (bs := bs) fun b hb => h b (List.mem_cons_of_mem _ hb)
    obtain ⟨h1, h2, h3, h4⟩ := h b List.mem_cons_self
    obtain ⟨s1, s2, s3⟩ := pair_show2 h1 h2 h3 h4
    refine ⟨?_, ?_, ?_, ?_, ?_, ?_⟩
    · have e : toPy (pr (R b)) = some (pP (R b)) := by simp [pr, pP, toPy, toPyL]
      simp only [List.map_cons, toPyL, e, i1]
    · simp only [List.map_cons, PyData.showableAll, s2, i2, Bool.and_true]
    · have e : (pP (R b)).hasDict = false := by simp [pP, PyData.hasDict, PyData.hasDictAll]
      simp only [List.map_cons, PyData.hasDictAll, e, i3, Bool.or_false]
    · have e : (pP (R b)).depth = 1 := by simp [pP, PyData.depth, PyData.depthAll]
      simp only [List.map_cons, PyData.depthAll, e]
      omega
    · intro t ht
      simp only [List.map_cons, PyData.shownAll] at ht
      rcases List.mem_cons.mp ht with rfl | ht
      · exact ⟨s1, s3⟩
      · exact i5 t ht
    · simp only [List.map_cons, PyData.shownAll, List.length_cons, i6]
theorem repr_ok {R : Str → Int × Int} {bs : List Str} (h : ∀ b ∈ bs, 0 ≤ (R b).1 ∧ (R b).1 ≤ 9 ∧ 0 ≤ (R b).2 ∧ (R b).2 ≤ 9) (l : bs.length ≤ 100) : ∃ s, reprD (.lst (bs.map fun b => pr (R b))) = some (.str s) ∧ PyData.strOk s = true := by
  obtain ⟨i1, i2, i3, i4, i5, i6⟩ := list_show h
  have tp : toPy (.lst (bs.map fun b => pr (R b))) = some (.list (bs.map fun b => pP (R b))) := by simp [toPy, i1]
  refine ⟨(PyData.list (bs.map fun b => pP (R b))).shown, ?_, ?_⟩
  rotate_left
  · simp only [PyData.shown, listText]
    rw [ok_app, text_ok _ _ _ (by decide +kernel) fun t ht => (i5 t ht).2]
    decide +kernel
  rw [reprD_lst, tp]
  have ok : okShow (.list (bs.map fun b => pP (R b))) = true := by
    unfold okShow
    have e1 : (PyData.list (bs.map fun b => pP (R b))).showable = true := by simp only [PyData.showable, i2]
    have e2 : (PyData.list (bs.map fun b => pP (R b))).hasDict = false := by simp only [PyData.hasDict, i3]
    have e3 : (PyData.list (bs.map fun b => pP (R b))).depth ≤ 60 := by simp only [PyData.depth]; omega
    have e4 : (PyData.list (bs.map fun b => pP (R b))).shown.length ≤ sizeLine := by
      have sh : (PyData.list (bs.map fun b => pP (R b))).shown = listText (PyData.shownAll (bs.map fun b => pP (R b))) := by simp only [PyData.shown]
      have t := text_le (M := 50) (PyData.shownAll (bs.map fun b => pP (R b))) 0 "[" fun t ht => (i5 t ht).1
      rw [i6] at t
      rw [sh]
      unfold listText
      rw [strLen_append]
      have e1 : (("[" : String) : Str).length = 1 := rfl
      have e2 : (("]" : String) : Str).length = 1 := rfl
      have : bs.length * (50 + 2) ≤ 100 * 52 := Nat.mul_le_mul_right _ l
      exact Nat.le_trans (by omega : _ ≤ 10000) (by decide)
    rw [e1, e2, Bool.not_false, Bool.true_and, Bool.true_and, Bool.and_eq_true, Nat.ble_eq, decide_eq_true_eq]
    exact ⟨e3, e4⟩
  simp only [ok, if_true]
end K20
set_option Elab.async false
set_option linter.all false
set_option autoImplicit false
set_option maxHeartbeats 1000000
namespace K20
open PySem PySem.Spec PyProof.Rows L2 DL
theorem ok_perm {bs bs' : List Str} (p : bs'.Perm bs) {n : Int} {f : Fa} (h : f.ok bs n) : f.ok bs' n := by
  cases f with
  | ah a b => exact ⟨p.mem_iff.mpr h.1, p.mem_iff.mpr h.2.1, h.2.2⟩
  | dy a x l => exact ⟨p.mem_iff.mpr h.1, h.2⟩
  | gn k f l => exact ⟨h.1, h.2.1, h.2.2.1, h.2.2.2.1, by rw [p.length_eq]; exact h.2.2.2.2⟩
theorem bs_perm {bs bs' : List Str} (p : bs'.Perm bs) (h : Bs bs) : Bs bs' := ⟨by rw [p.length_eq]; exact h.l1, by rw [p.length_eq]; exact h.l6, p.nodup_iff.mpr h.nd, fun b hb => h.mn b (p.mem_iff.mp hb)⟩
def Rb (bs : List Str) (n : Int) (fs : List Fa) : Str → Int × Int := rounds (pairsF fs) bs.length (tol fs n)
theorem rb_small {bs : List Str} {n : Int} (n1 : 1 ≤ n) (n9 : n ≤ 9) {fs : List Fa} (ok : ∀ f ∈ fs, f.ok bs n) {b : Str} (hb : b ∈ bs) : 0 ≤ (Rb bs n fs b).1 ∧ (Rb bs n fs b).1 ≤ 9 ∧ 0 ≤ (Rb bs n fs b).2 ∧ (Rb bs n fs b).2 ≤ 9 := by
  obtain ⟨⟨⟨o, _, h1⟩, _⟩, ⟨⟨o', _, h2⟩, _⟩⟩ := rounds_spec ok hb
  change Ev fs o (Rb bs n fs b).1 at h1
  change Lw fs n o' (Rb bs n fs b).2 at h2
  generalize Rb bs n fs b = r at h1 h2
  have a1 : 1 ≤ r.1 ∧ r.1 ≤ 9 := by
    rcases h1 with h | ⟨l, h⟩
    · omega
    · have := ok _ h; obtain ⟨_, x1, x2, x3⟩ := this; omega
  have a2 : 1 ≤ r.2 ∧ r.2 ≤ 9 := by
    rcases h2 with h | ⟨l, h⟩
    · omega
    · have := ok _ h; obtain ⟨_, x1, x2, x3⟩ := this; omega
  omega
/-- what the package tells of a yard with the same facts -/
theorem drawn_same {bs bs' : List Str} (hb : Bs bs) (p : bs'.Perm bs) {n : Int} {fs fs' : List Fa} (ok : ∀ f ∈ fs, f.ok bs n) (ok' : ∀ f ∈ fs', f.ok bs n) (eq : ∀ f, notG f = true → (f ∈ fs' ↔ f ∈ fs)) {b : Str} (hbb : b ∈ bs) : mir_drawn [Yd bs' n fs', .str b] = .ok (pr (Rb bs n fs b)) [none, none] := by
  obtain ⟨e, l, h1, h2, h3⟩ := drawn_ok (bs_perm p hb) (fun f hf => ok_perm p (ok' f hf)) (p.mem_iff.mpr hbb)
  obtain ⟨s1, s2⟩ := rounds_spec ok hbb
  have e1 := isE_uniq (isE_congr eq h2) s1
  have e2 := isL_uniq (isL_congr eq h3) s2
  rw [h1, e1, e2]
  rfl
theorem due_ok {m : D} {bs : List Str} {n : Int} {fs : List Fa} (h : Md m bs n fs) (hl : fs.length ≤ 1000) :
    ∃ s, PyData.strOk s = true ∧ mir_law_due [m] = .ok (.str s) [none] ∧ ∀ (bs' : List Str) (fs' : List Fa), bs'.Perm bs → (∀ f ∈ fs', f.ok bs n) → (∀ f, notG f = true → (f ∈ fs' ↔ f ∈ fs)) → mir_law_told [Yd bs' n fs', m] = .ok (.str s) [none, none] := by
  have hb := h.b
  have l6 := hb.l6
  obtain ⟨s, rs, so⟩ := repr_ok (R := Rb bs n fs) (bs := bs) (fun b hbb => rb_small h.n1 h.n9 h.ok hbb) (by omega)
  obtain ⟨rest, em⟩ := h.eq
  have mf := mdl_folk bs n fs rest
  rw [← em] at mf
  have sz : (bs.map fun b => pr (Rb bs n fs b)).length ≤ sizeLine := by rw [List.length_map]; exact small_le (by omega)
  refine ⟨s, so, ?_, fun bs' fs' p ok' eq => ?_⟩
  · have ld := law_drawn_ok h hl
    have c1 : lcL (.nm 2) [2] tYesD ce_law_due_0 (strL bs) [some m, some (dS bs fun b => pr (Rb bs n fs b)), none] = .ok (bs.map fun b => pr (Rb bs n fs b)) [some m, some (dS bs fun b => pr (Rb bs n fs b)), none] := by
      have z := lcL_map (t := .nm 2) (vs := [2]) (f := ce_law_due_0) (r := [some m, some (dS bs fun b => pr (Rb bs n fs b)), none]) (items := strL bs) (fun x => match x with | .str b => pr (Rb bs n fs b) | _ => .non) fun x hx => by
        obtain ⟨b, hbb, rfl⟩ := List.mem_map.mp hx
        have im := ix_dS (g := fun b => pr (Rb bs n fs b)) hbb
        exact ⟨[some m, some (dS bs fun b => pr (Rb bs n fs b)), some (.str b)], [some m, some (dS bs fun b => pr (Rb bs n fs b)), some (.str b)], by simp, by simp [ce_law_due_0, im], by simp⟩
      rw [z]
      simp [strL]
    have ld' : mir_law_drawn [m] = .ok (dS bs fun b => pr (Rb bs n fs b)) [none] := ld
    generalize dS bs (fun b => pr (Rb bs n fs b)) = d1 at ld' c1
    generalize (bs.map fun b => pr (Rb bs n fs b)) = out at c1 sz rs
    simp [mir_law_due, mkF_ap, b_law_due, ld', mf, eLc_ap, c1, sz, rs]
  · have c1 : lcL (.nm 2) [2] tYesD ce_law_told_0 (strL bs) [some (Yd bs' n fs'), some m, none] = .ok (bs.map fun b => pr (Rb bs n fs b)) [some (Yd bs' n fs'), some m, none] := by
      have z := lcL_map (t := .nm 2) (vs := [2]) (f := ce_law_told_0) (r := [some (Yd bs' n fs'), some m, none]) (items := strL bs) (fun x => match x with | .str b => pr (Rb bs n fs b) | _ => .non) fun x hx => by
        obtain ⟨b, hbb, rfl⟩ := List.mem_map.mp hx
        have dr := drawn_same hb p h.ok ok' eq hbb
        exact ⟨[some (Yd bs' n fs'), some m, some (.str b)], [some (Yd bs' n fs'), some m, some (.str b)], by simp, by simp [ce_law_told_0, dr], by simp⟩
      rw [z]
      simp [strL]
    generalize (bs.map fun b => pr (Rb bs n fs b)) = out at c1 sz rs
    generalize Yd bs' n fs' = y at c1 ⊢
    simp [mir_law_told, mkF_ap, b_law_told, mf, eLc_ap, c1, sz, rs]
theorem cut_take {xs : List D} (n : Nat) : DL.cutD xs none (some (n : Int)) = xs.take n := by
  simp only [DL.cutD, HT.sIx_nat, HT.sIx_none]
  rw [List.drop_zero, Nat.sub_zero, ← List.take_eq_take_min]
theorem cut_last {xs : List D} {x : D} : DL.cutD (xs ++ [x]) none (some (-1)) = xs := by
  simp only [DL.cutD, HT.sIx_none, HT.sIx]
  rw [if_pos (by decide), List.drop_zero, Nat.sub_zero]
  have : (-1 + ((xs ++ [x]).length : Int)).toNat = xs.length := by simp; omega
  rw [this, List.take_left']
  rfl
theorem ix_last {xs : List D} {x : D} : ixD (.lst (xs ++ [x])) (.int (-1)) = some x := by
  have h1 : ixN (xs ++ [x]).length (-1) = some xs.length := by
    simp [ixN]
    omega
  simp only [ixD, atI, h1, Option.bind_some]
  simp
theorem neD_same {s : Str} (h : PyData.strOk s = true) : neD (.str s) (.str s) = some false := by rw [neD_str h h]; simp
/-- one round of the law's last loop -/
theorem row_ok {d : D} (h : Pot d) {m : D} {bs : List Str} {n : Int} {fs : List Fa} (md : Md m bs n fs) (hl : fs.length < 30) (x2 x3 x4 x7 : Option D) (i : Int) :
    ∃ d' m' g, lb_law_right_0 [some d, some m, x2, x3, x4, some (.int i), some (Yd bs n fs), x7, none, none, none] = .nx [some d', some m', x2, x3, x4, none, some (Yd bs n (fs ++ [g])), x7, none, none, none] ∧ Md m' bs n (fs ++ [g]) ∧ Pot d' := by
  obtain ⟨g, d1, e1, ok, p1⟩ := law_fact_ok h md.b md.n1 md.n9
  obtain ⟨m', e2, md'⟩ := with_ok md ok (by omega)
  obtain ⟨s, so, e3, e4⟩ := due_ok md' (by simp; omega)
  obtain ⟨s2, so2, e5, e6⟩ := due_ok (m := mdl bs n fs []) ⟨md.b, md.n1, md.n9, md.ok, [], rfl⟩ (by omega)
  have e4' := e4 bs (fs ++ [g]) (.refl _) md'.ok fun _ _ => Iff.rfl
  have e6' := e6 bs fs (.refl _) md.ok fun _ _ => Iff.rfl
  have ad := add_ok md.b md.n1 md.n9 md.ok (by omega) ok
  refine ⟨d1, m', g, ?_, md', p1⟩
  obtain ⟨rest, em⟩ := md.eq
  obtain ⟨rest', em'⟩ := md'.eq
  have mf := mdl_folk bs n fs rest
  have ms := mdl_span bs n fs rest
  rw [← em] at mf ms
  have mf' := mdl_folk bs n (fs ++ [g]) rest'
  have ms' := mdl_span bs n (fs ++ [g]) rest'
  have mt' := mdl_tale bs n (fs ++ [g]) rest'
  rw [← em'] at mf' ms' mt'
  have fl : faL (fs ++ [g]) = faL fs ++ [g.d] := by simp [faL]
  rw [fl] at mt'
  have il := ix_last (xs := faL fs) (x := g.d)
  have cl := cut_last (xs := faL fs) (x := g.d)
  have q1 : 1 ≤ sizeLine := by decide
  have ne1 := neD_same so
  have ne2 := neD_same so2
  have el : D.dct false [(.str "folk", .lst (strL bs)), (.str "span", .int n), (.str "tale", .lst (faL fs))] = mdl bs n fs [] := rfl
  have ty : tyD g.d = some "tuple" := by cases g <;> rfl
  have ng : negD (.int 1) = some (.int (-1)) := rfl
  have ci := e_call bs n fs mir_Yardu_addu g.d
  generalize faL fs ++ [g.d] = fg at mt' il cl
  generalize mdl bs n fs [] = eld at e5 e6' el
  generalize Yd bs n (fs ++ [g]) = y2 at e4' ad ⊢
  generalize Yd bs n fs = y1 at e6' ad ci ⊢
  generalize faL fs = ff at cl el
  generalize g.d = gd at e1 e2 il ty ad ci
  simp [lb_law_right_0, mf, ms, e1, q1, e2, mt', ng, il, ty, ci, ad, e4', e3, ne1, mf', ms', cl, okO, el, e6', e5, ne2]
end K20
set_option Elab.async false
set_option linter.all false
set_option autoImplicit false
set_option maxHeartbeats 2000000
namespace K20
open PySem PySem.Spec PyProof.Rows L2 DL
theorem head_gone (f : Fa) : headIs "gone" f.d = !notG f := by
  cases f with
  | gn a b c => simp [headIs, Fa.d, notG]
  | ah a b => simp only [headIs, Fa.d, notG]; decide +kernel
  | dy a x l => simp only [headIs, Fa.d, notG]; decide +kernel
theorem rows_ok {bs : List Str} {n : Int} {d m : D} {fs : List Fa} (h : Pot d) (md : Md m bs n fs) (hl : fs.length ≤ 13) (x2 x3 x4 x7 : Option D) :
    ∃ d' m' y', forL (.nm 5) lb_law_right_0 (rngD 0 3) [some d, some m, x2, x3, x4, none, some (Yd bs n fs), x7, none, none, none] = .nx [some d', some m', x2, x3, x4, none, some y', x7, none, none, none] := by
  obtain ⟨r', e, d', m', fs', er, _, _, _⟩ := forL_inv (t := .nm 5) (body := lb_law_right_0) (items := rngD 0 3) (r := [some d, some m, x2, x3, x4, none, some (Yd bs n fs), x7, none, none, none]) (fun i r => ∃ d m fs, r = [some d, some m, x2, x3, x4, none, some (Yd bs n fs), x7, none, none, none] ∧ Md m bs n fs ∧ fs.length ≤ 13 + i ∧ Pot d) ⟨d, m, fs, rfl, md, by omega, h⟩ (by
    rintro i x r hx ⟨d, m, fs, rfl, md, hl, hp⟩
    obtain ⟨rfl, hi⟩ := rng_get hx
    obtain ⟨d', m', g, e, md', p'⟩ := row_ok hp md (by omega) x2 x3 x4 x7 i
    exact ⟨_, _, by simp, e, d', m', fs ++ [g], rfl, md', by simp; omega, p'⟩)
  exact ⟨d', m', Yd bs n fs', by rw [e, er]⟩
theorem right_ok {d : D} (h : Pot d) : ∃ d', mir_law_right [d] = .ok (.bl true) [d'] := by
  obtain ⟨m, bs, n, fs, d1, e1, md, _, _, fl, p1⟩ := model_ok h (sz := 10) (top := 9) (long := 12) (by omega) (by omega) (by omega) (by omega) (by omega) (by omega)
  have hb := md.b
  have l1 := hb.l1
  have l6 := hb.l6
  have yd := yard_ok md (by omega)
  obtain ⟨x, d2, e2, hx, p2⟩ := pick_ok p1 (xs := strL bs) (by intro z; simp [strL] at z; subst z; simp at l1) (by rw [strL_len]; omega)
  obtain ⟨b, hbb, rfl⟩ := List.mem_map.mp hx
  obtain ⟨s, so, e3, e4⟩ := due_ok md (by omega)
  have t1 := e4 bs fs (.refl _) md.ok fun _ _ => Iff.rfl
  have dr := drawn_same hb (.refl bs) md.ok md.ok (fun _ _ => Iff.rfl) hbb
  have ld : mir_law_drawn [m] = .ok (dS bs fun b => pr (Rb bs n fs b)) [none] := law_drawn_ok md (by omega)
  have im := ix_dS (g := fun b => pr (Rb bs n fs b)) hbb
  -- the facts in another sequence, some twice
  obtain ⟨k, d3, e5, k0, k4, p3⟩ := draw_ok p2 (n := 4) (by omega) (by omega)
  obtain ⟨k, rfl⟩ : ∃ k' : Nat, k = k' := ⟨k.toNat, by omega⟩
  have ct := cut_take (xs := faL fs) k
  have tl : (faL fs).take k = faL (fs.take k) := by simp [faL, List.map_take]
  rw [tl] at ct
  have fk : (fs.take k).length ≤ 3 := by rw [List.length_take]; omega
  have fap : faL fs ++ faL (fs.take k) = faL (fs ++ fs.take k) := by simp [faL]
  have ad : addD (.lst (faL fs)) (.lst (faL (fs.take k))) = some (.lst (faL (fs ++ fs.take k))) := by
    simp only [addD, faL_len]
    rw [if_pos (small_le (by omega)), fap]
  obtain ⟨ms, d4, e6, pm, p4⟩ := mixed_ok p3 (bs := faL (fs ++ fs.take k)) (by rw [faL_len, List.length_append]; omega)
  obtain ⟨hs, ph, rfl⟩ := perm_map_ex pm (fs ++ fs.take k) rfl
  have hmem : ∀ f, f ∈ hs ↔ f ∈ fs := fun f => by
    rw [ph.mem_iff, List.mem_append]
    exact ⟨fun z => z.elim id List.mem_of_mem_take, .inl⟩
  have hok : ∀ f ∈ hs, f.ok bs n := fun f hf => md.ok f ((hmem f).mp hf)
  have hl : hs.length ≤ 16 := by rw [ph.length_eq, List.length_append]; omega
  obtain ⟨mb, d5, e7, pb, p5⟩ := mixed_ok p4 (bs := strL bs) (by rw [strL_len]; omega)
  obtain ⟨row, prm, rfl⟩ := perm_map_ex pb bs rfl
  have mdT : Md (mdl row n hs []) row n hs := ⟨bs_perm prm hb, md.n1, md.n9, fun f hf => ok_perm prm (hok f hf), [], rfl⟩
  have yT := yard_ok mdT (by omega)
  have t2 := e4 row hs prm hok fun f _ => hmem f
  -- those of numbers left out
  let gs := hs.filter notG
  have gok : ∀ f ∈ gs, f.ok bs n := fun f hf => hok f (List.mem_filter.mp hf).1
  have gl : gs.length ≤ 16 := Nat.le_trans (List.length_filter_le _ _) hl
  have mdP : Md (mdl bs n gs []) bs n gs := ⟨hb, md.n1, md.n9, gok, [], rfl⟩
  have yP := yard_ok mdP (by omega)
  have t3 := e4 bs gs (.refl _) gok fun f hf => by
    show f ∈ hs.filter notG ↔ _
    rw [List.mem_filter, hmem f]
    exact ⟨And.left, fun z => ⟨z, hf⟩⟩
  have c1 : ∀ (x0 x1 x3 x6 x7 : Option D), lcL (.nm 10) [10] ct_law_right_0 ce_law_right_0 (hs.map Fa.d) [x0, x1, some (.lst (hs.map Fa.d)), x3, none, none, x6, x7, none, none, none] = .ok (faL gs) [x0, x1, some (.lst (hs.map Fa.d)), x3, none, none, x6, x7, none, none, none] := by
    intro x0 x1 x3 x6 x7
    have z := lcL_pure (t := .nm 10) (vs := [10]) (ts := ct_law_right_0) (f := ce_law_right_0) (r := [x0, x1, some (.lst (hs.map Fa.d)), x3, none, none, x6, x7, none, none, none]) (fun x => !headIs "gone" x) id (items := faL hs) fun x hx => by
      obtain ⟨f, hf, rfl⟩ := List.mem_map.mp hx
      obtain ⟨y, y1, y2⟩ := eq_head (.inr (.inr rfl)) f
      have y3 : neD y (.str "gone") = some (!headIs "gone" f.d) := by simp [neD, y2]
      exact ⟨[x0, x1, some (.lst (hs.map Fa.d)), x3, none, none, x6, x7, none, none, some f.d], by simp, by simp [ct_law_right_0, y1, y3], by simp [ce_law_right_0], by simp⟩
    rw [List.map_id, filter_faL notG _ (fun f => by rw [head_gone, Bool.not_not])] at z
    exact z
  have gz : (faL gs).length ≤ sizeLine := by rw [faL_len]; exact small_le (by omega)
  have outT : D.dct false [(.str "folk", .lst (row.map D.str)), (.str "span", .int n), (.str "tale", .lst (hs.map Fa.d))] = mdl row n hs [] := rfl
  have outP : D.dct false [(.str "folk", .lst (strL bs)), (.str "span", .int n), (.str "tale", .lst (faL gs))] = mdl bs n gs [] := rfl
  obtain ⟨d6, m6, y6, e8⟩ := rows_ok p5 md (by omega) (some (.lst (hs.map Fa.d))) (some (mdl row n hs [])) (some (mdl bs n gs [])) (some (.str b))
  refine ⟨some d6, ?_⟩
  obtain ⟨rest, em⟩ := md.eq
  have mf := mdl_folk bs n fs rest
  have msp := mdl_span bs n fs rest
  have mt := mdl_tale bs n fs rest
  rw [← em] at mf msp mt
  have ne1 := neD_same so
  have ppr : pl 60 (pr (Rb bs n fs b)) = true := by simp [pr, pl, plL]
  have ne2 : neD (pr (Rb bs n fs b)) (pr (Rb bs n fs b)) = some false := by simp [neD, eqD_pl ppr ppr]
  have r3 : rg1 [.int 3] = some (rngD 0 3) := rg1_int (by decide)
  have kx : ∀ (a c : D), kwG 0 [1, 0] [] [a, c] = [c, a] := fun a c => rfl
  generalize mdl bs n gs [] = mP at yP outP e8
  generalize mdl row n hs [] = mT at yT outT e8
  generalize Yd bs n gs = yPv at yP t3
  generalize Yd row n hs = yTv at yT t2
  generalize Yd bs n fs = yv at yd t1 dr e8
  generalize faL gs = gd at c1 gz outP
  generalize hs.map Fa.d = hd at e6 c1 outT e8
  generalize row.map D.str = rd at e7 outT
  generalize faL (fs ++ fs.take k) = fad at ad e6
  generalize faL (fs.take k) = fk2 at ct ad
  generalize faL fs = fd at mt ct ad
  generalize strL bs = bd at e2 e7 mf outP
  generalize dS bs (fun b => pr (Rb bs n fs b)) = dd at ld im
  generalize pr (Rb bs n fs b) = pv at dr im ne2
  simp [mir_law_right, mkF_ap, b_law_right, e1, yd, mf, e2, t1, e3, ne1, kx, dr, ld, im, ne2, mt, e5, ct, ad, e6, e7, msp, okO, outT, yT, t2, eLc_ap, c1, gz, outP, yP, t3, sFor_ap, r3, e8]
end K20
set_option Elab.async false
set_option linter.all false
set_option autoImplicit false
set_option maxRecDepth 20000
namespace K20
open PySem PySem.Spec PyProof.Rows L2 DL
theorem pow18 : powD (.int 10) (.int 18) = some (.int 1000000000000000000) := by
  simp only [powD]
  rw [if_pos (by decide +kernel)]
  exact congrArg (fun z => some (D.int z)) (by decide +kernel)
theorem mulI_r {a b : Int} (h : -(2 ^ 64) < b ∧ b < 2 ^ 64) : mulI (.int a) (.int b) = some (.int (a * b)) := by
  simp only [mulI]; rw [if_pos (.inr h)]
theorem scr_len {d : D} {ns : List Int} (h : isScript d ns) : lenD d = some (.int ns.length) := by
  rcases h with rfl | rfl <;> simp [lenD]
theorem scr_ix {d : D} {ns : List Int} (h : isScript d ns) {k : Nat} (hk : k < ns.length) : ixD d (.int k) = some (.int ns[k]) := by
  rcases h with rfl | rfl <;> simp [ixD, atI, ixN, hk]
theorem pot_fin {c : Int} (hc : 0 ≤ c) (k : Nat) : Pot (.lst [.int (if c - 1000000000000000000 > 0 then c - 1000000000000000000 else 0), .int ((c % 2147483549 * 40487 + 6011 * k + 29) % 2147483587 + 1)]) := by
  refine ⟨_, _, rfl, ?_, ?_, ?_⟩
  · split <;> omega
  · have := Int.emod_nonneg (c % 2147483549 * 40487 + 6011 * k + 29) (b := 2147483587) (by decide)
    omega
  · have := Int.emod_lt_of_pos (c % 2147483549 * 40487 + 6011 * k + 29) (b := 2147483587) (by decide)
    omega
theorem pot_ok {d : D} {ns : List Int} (h : isScript d ns) (k : Nat) (hk : k < 4) : ∃ p, mir_law_pot [d, .int k] = .ok p [none, none] ∧ Pot p := by
  have m1 : mulI (.int 43) (.int k) = some (.int (43 * k)) := mulI_r ⟨by omega, by omega⟩
  have m2 : mulI (.int 6011) (.int k) = some (.int (6011 * k)) := mulI_r ⟨by omega, by omega⟩
  have m3 : ∀ c : Int, mulI (.int c) (.int 40487) = some (.int (c * 40487)) := fun c => mulI_r ⟨by decide, by decide⟩
  have h2 : 2 ≤ sizeLine := by decide
  by_cases c : k < ns.length
  · have ab : 0 ≤ (if ns[k] < 0 then -ns[k] else ns[k]) := by split <;> omega
    refine ⟨_, ?_, pot_fin ab k⟩
    simp only [mir_law_pot, mkF_ap, b_law_pot]
    simp [m1, m2, m3, scr_len h, scr_ix h c, c, pow18, modD, h2]
  · refine ⟨_, ?_, pot_fin (c := 43 * k + 17) (by omega) k⟩
    simp only [mir_law_pot, mkF_ap, b_law_pot]
    simp [m1, m2, m3, scr_len h, c, pow18, modD, h2]
theorem boolsD_true (n : Nat) : boolsD (List.replicate n (.bl true)) = some (List.replicate n true) := by
  induction n with
  | zero => rfl
  | succ n ih =>
    rw [List.replicate_succ]
    simp only [boolsD, ih, Option.map_some]
    rfl
theorem law_true (d : D) (ns : List Int) (h : isScript d ns) (hl : ns.length ≤ 63) (hb : ∀ z ∈ ns, Builtin.Int.intBits z ≤ 1048576) : ∃ ds, mir_law [d] = .ok (.bl true) ds := by
  have hn : ∃ n : Nat, n ≤ 4 ∧ (if (if (ns.length : Int) < 4 then (ns.length : Int) else 4) > 1 then (if (ns.length : Int) < 4 then (ns.length : Int) else 4) else 1) = (n : Int) := by
    by_cases a : (ns.length : Int) < 4
    · rw [if_pos a]
      by_cases b : (ns.length : Int) > 1
      · rw [if_pos b]; exact ⟨ns.length, by omega, rfl⟩
      · rw [if_neg b]; exact ⟨1, by omega, rfl⟩
    · rw [if_neg a, if_pos (by decide)]
      exact ⟨4, by omega, rfl⟩
  obtain ⟨n, n4, en⟩ := hn
  have rg : rg1 [.int (n : Int)] = some (rngD 0 n) := rg1_int (by simp [okI]; omega)
  have z := lcL_map (t := .nm 1) (vs := [1]) (f := ce_law_0) (r := [some d, none]) (items := rngD 0 n) (fun _ => .bl true) fun x hx => by
    obtain ⟨i, hi, ei⟩ := List.getElem_of_mem hx
    obtain ⟨rfl, hi2⟩ := rng_get (n := (n : Int)) (i := i) (d := x) (by rw [List.getElem?_eq_getElem hi, ei])
    obtain ⟨p, e1, hp⟩ := pot_ok h i (by omega)
    obtain ⟨d', e2⟩ := right_ok hp
    exact ⟨[some d, some (.int i)], [some d, some (.int i)], by simp, by simp [ce_law_0, e1, e2], by simp⟩
  have em : ((rngD 0 n).map fun _ => D.bl true) = List.replicate n (.bl true) := by
    have l0 := rng_len (n := (n : Int)) (by omega)
    have l1 : (rngD 0 n).length = n := by omega
    rw [List.map_const', l1]
  rw [em] at z
  have hs : n ≤ sizeLine := small_le (by omega)
  refine ⟨[none], ?_⟩
  simp only [mir_law, mkF_ap, b_law]
  simp [scr_len h, en, rg, eLc_ap, z, hs, allD, boolsD_true]
end K20
set_option Elab.async false
set_option linter.all false
set_option autoImplicit false
set_option maxRecDepth 100000
namespace K20
open PySem PySem.Spec PyProof.Rows L2 DL
theorem fin {P : Program} {w : World} {K : PySem.W.Frag} {mg : Str → Option Value} {base : Heap} (T : Txt K mg) : DL.FnOk P w K mg base (L2.CX P w) 10 T.f_law T.d_law ["_law_script"] (spLaw K) :=
  (ok_law T).imp fun vs H Q E h => law_sp (C := T.C) rfl law_true h
theorem finF {P : Program} {w : World} {K : PySem.W.Frag} {mg : Str → Option Value} {fa : Addr} (h : ∃ T : Txt K mg, T.f_law = fa ∧ (∀ (s : Shared) (v : Value), BindsTo s T.d_law ⟨[v], []⟩ [("_law_script", v)])) :
    ∃ fd : FuncData, (∀ (s : Shared) (u : Value), BindsTo s fd ⟨[u], []⟩ [("_law_script", u)]) ∧ ∀ base : Heap, K.In base → base.Ns mainGlobals mg → DL.FnOk P w K mg base (L2.CX P w) 10 fa fd ["_law_script"] (spLaw K) := by
  obtain ⟨T, e, hb⟩ := h
  subst e
  exact ⟨T.d_law, hb, fun base _ _ => fin T⟩
end K20
open PySem PySem.W PyProof.Rows
set_option maxHeartbeats 0 in
theorem PySem.Challenge.cw_neverdug_k20_days_drawn_in_holds : PySem.Challenge.rw_neverdug_k20_days_drawn_in.Holds := by
  w_on; o_law; k_head; (case hw => w_witness2)
  k_fill
  refine DL.walk_ofG (l := PySem.Challenge.rw_neverdug_k20_days_drawn_in) (m := 63) (n := 10) (x := "_law_script") (Cf := fun w => L2.CX PySem.Challenge.rw_neverdug_k20_days_drawn_in.prog w) (pf := fun w => DL.spLaw _) rfl (by decide) rfl (DL.callerG _) (fun w h Y => PySem.W.kIn_of Y) ?F (fun _ _ a ns hl hb _ hS => ⟨a, ns, rfl, hS, hl, hb, fun _ => rfl⟩) (fun _ _ _ _ _ h => DL.cx_no h)
  case F =>
    intro w mg fa h KX G hmg
    refine K20.finF ?_
    refine' K20.all_mk (l := PySem.Challenge.rw_neverdug_k20_days_drawn_in) (w := w) KX G hmg ?h_g_Yard ?h_pg_Yard ?h_hd_Yard ?h_po_Yard ?h_sa_Yard ?h_n_abs ?h_n_all ?h_n_bool ?h_n_dict ?h_n_divmod ?h_n_enumerate ?h_n_int ?h_n_isinstance ?h_n_len ?h_n_list ?h_n_max ?h_n_min ?h_n_range ?h_n_repr ?h_n_sorted ?h_n_str ?h_n_sum ?h_n_tuple ?h_g_AHEAD_days ?h_g_AHEAD_yards ?h_g_DAYS_days ?h_g_DAYS_yards ?h_g_GONE ?h_g_LETTERS ?h_g_LONGEST_BOX ?h_g_MOST_DAYS ?h_m_law_draw ?l_law_draw ?cc_law_draw ?kk_law_draw ?h_m_law_pick ?l_law_pick ?cc_law_pick ?kk_law_pick ?h_m_law_folk ?l_law_folk ?cc_law_folk ?kk_law_folk ?h_m_law_fact ?l_law_fact ?cc_law_fact ?kk_law_fact ?h_m_law_mixed ?l_law_mixed ?cc_law_mixed ?kk_law_mixed ?h_m_law_flat ?l_law_flat ?cc_law_flat ?kk_law_flat ?h_m_law_noon ?l_law_noon ?cc_law_noon ?kk_law_noon ?h_m_law_left ?l_law_left ?cc_law_left ?kk_law_left ?h_m_law_fitting ?l_law_fitting ?cc_law_fitting ?kk_law_fitting ?h_m_law_planted ?l_law_planted ?cc_law_planted ?kk_law_planted ?h_m_law_model ?l_law_model ?cc_law_model ?kk_law_model ?h_m_is_list ?l_is_list ?cc_is_list ?kk_is_list ?h_m_is_box ?l_is_box ?cc_is_box ?kk_is_box ?h_m_want_boxes ?l_want_boxes ?cc_want_boxes ?kk_want_boxes ?h_m_is_integer ?l_is_integer ?cc_is_integer ?kk_is_integer ?h_m_want_days ?l_want_days ?cc_want_days ?kk_want_days ?h_m_is_known ?l_is_known ?cc_is_known ?kk_is_known ?h_m_is_ahead_told ?l_is_ahead_told ?cc_is_ahead_told ?kk_is_ahead_told ?h_m_are_days_told ?l_are_days_told ?cc_are_days_told ?kk_are_days_told ?h_m_is_count ?l_is_count ?cc_is_count ?kk_is_count ?h_m_is_gone_told ?l_is_gone_told ?cc_is_gone_told ?kk_is_gone_told ?h_m_is_fact ?l_is_fact ?cc_is_fact ?kk_is_fact ?h_m_want_facts ?l_want_facts ?cc_want_facts ?kk_want_facts ?h_at_Yardu_initu ?l_Yardu_initu ?cc_Yardu_initu ?kk_Yardu_initu ?h_fn_Yardu_initu ?h_mk_Yard ?h_kc_Yard ?h_m_law_yard ?l_law_yard ?cc_law_yard ?kk_law_yard ?h_at_Yardu_containsu ?l_Yardu_containsu ?cc_Yardu_containsu ?kk_Yardu_containsu ?h_fn_Yardu_containsu ?h_m_want_box ?l_want_box ?cc_want_box ?kk_want_box ?h_m_drawn_by ?l_drawn_by ?cc_drawn_by ?kk_drawn_by ?h_at_Yard_boxes ?l_Yard_boxes ?cc_Yard_boxes ?kk_Yard_boxes ?h_fn_Yard_boxes ?h_m_next_boxes ?l_next_boxes ?cc_next_boxes ?kk_next_boxes ?h_m_boxes_behind ?l_boxes_behind ?cc_boxes_behind ?kk_boxes_behind ?h_m_ways_of ?l_ways_of ?cc_ways_of ?kk_ways_of ?hp_at_Yard_days ?hp_rec_Yard_days ?l_Yard_days ?cc_Yard_days ?kk_Yard_days ?hp_get_Yard_days ?hp_tak_Yard_days ?h_m_told_days ?l_told_days ?cc_told_days ?kk_told_days ?h_m_drawn_days ?l_drawn_days ?cc_drawn_days ?kk_drawn_days ?h_at_Yard_facts ?l_Yard_facts ?cc_Yard_facts ?kk_Yard_facts ?h_fn_Yard_facts ?h_m_drawn ?l_drawn ?cc_drawn ?kk_drawn ?h_m_law_drawn ?l_law_drawn ?cc_law_drawn ?kk_law_drawn ?h_m_law_told ?l_law_told ?cc_law_told ?kk_law_told ?h_m_law_due ?l_law_due ?cc_law_due ?kk_law_due ?h_m_law_with ?l_law_with ?cc_law_with ?kk_law_with ?h_at_Yardu_addu ?l_Yardu_addu ?cc_Yardu_addu ?kk_Yardu_addu ?h_fn_Yardu_addu ?h_bf_Yard_add_tuple ?h_br_Yard_add_tuple ?h_bo_Yard_add_tuple ?h_bp_Yard_add_tuple ?h_bs_Yard_add_tuple ?h_m_law_right ?l_law_right ?cc_law_right ?kk_law_right ?h_m_law_pot ?l_law_pot ?cc_law_pot ?kk_law_pot ?h_m_law ?l_law ?cc_law ?kk_law ?h_na_Yard_own_boxes ?h_na_Yard_own_days ?h_na_Yard_own_facts ?h_rd_Yard ?h_ga_Yard ?h_cv_Yard_MOST_BOXES ?h_cv_Yard_MOST_FACTS
    (case h_g_Yard => k_is)
    (case h_pg_Yard => k_is)
    (case h_hd_Yard => k_is)
    (case h_po_Yard => k_is)
    (case h_sa_Yard => k_is)
    (case h_n_abs => k_is)
    (case h_n_all => k_is)
    (case h_n_bool => k_is)
    (case h_n_dict => k_is)
    (case h_n_divmod => k_is)
    (case h_n_enumerate => k_is)
    (case h_n_int => k_is)
    (case h_n_isinstance => k_is)
    (case h_n_len => k_is)
    (case h_n_list => k_is)
    (case h_n_max => k_is)
    (case h_n_min => k_is)
    (case h_n_range => k_is)
    (case h_n_repr => k_is)
    (case h_n_sorted => k_is)
    (case h_n_str => k_is)
    (case h_n_sum => k_is)
    (case h_n_tuple => k_is)
    (case h_g_AHEAD_days => k_is)
    (case h_g_AHEAD_yards => k_is)
    (case h_g_DAYS_days => k_is)
    (case h_g_DAYS_yards => k_is)
    (case h_g_GONE => k_is)
    (case h_g_LETTERS => k_is)
    (case h_g_LONGEST_BOX => k_is)
    (case h_g_MOST_DAYS => k_is)
    (case h_m_law_draw => k_is)
    (case l_law_draw => k_is)
    (case cc_law_draw => k_is)
    (case kk_law_draw => k_is)
    (case h_m_law_pick => k_is)
    (case l_law_pick => k_is)
    (case cc_law_pick => k_is)
    (case kk_law_pick => k_is)
    (case h_m_law_folk => k_is)
    (case l_law_folk => k_is)
    (case cc_law_folk => k_is)
    (case kk_law_folk => k_is)
    (case h_m_law_fact => k_is)
    (case l_law_fact => k_is)
    (case cc_law_fact => k_is)
    (case kk_law_fact => k_is)
    (case h_m_law_mixed => k_is)
    (case l_law_mixed => k_is)
    (case cc_law_mixed => k_is)
    (case kk_law_mixed => k_is)
    (case h_m_law_flat => k_is)
    (case l_law_flat => k_is)
    (case cc_law_flat => k_is)
    (case kk_law_flat => k_is)
    (case h_m_law_noon => k_is)
    (case l_law_noon => k_is)
    (case cc_law_noon => k_is)
    (case kk_law_noon => k_is)
    (case h_m_law_left => k_is)
    (case l_law_left => k_is)
    (case cc_law_left => k_is)
    (case kk_law_left => k_is)
    (case h_m_law_fitting => k_is)
    (case l_law_fitting => k_is)
    (case cc_law_fitting => k_is)
    (case kk_law_fitting => k_is)
    (case h_m_law_planted => k_is)
    (case l_law_planted => k_is)
    (case cc_law_planted => k_is)
    (case kk_law_planted => k_is)
    (case h_m_law_model => k_is)
    (case l_law_model => k_is)
    (case cc_law_model => k_is)
    (case kk_law_model => k_is)
    (case h_m_is_list => k_is)
    (case l_is_list => k_is)
    (case cc_is_list => k_is)
    (case kk_is_list => k_is)
    (case h_m_is_box => k_is)
    (case l_is_box => k_is)
    (case cc_is_box => k_is)
    (case kk_is_box => k_is)
    (case h_m_want_boxes => k_is)
    (case l_want_boxes => k_is)
    (case cc_want_boxes => k_is)
    (case kk_want_boxes => k_is)
    (case h_m_is_integer => k_is)
    (case l_is_integer => k_is)
    (case cc_is_integer => k_is)
    (case kk_is_integer => k_is)
    (case h_m_want_days => k_is)
    (case l_want_days => k_is)
    (case cc_want_days => k_is)
    (case kk_want_days => k_is)
    (case h_m_is_known => k_is)
    (case l_is_known => k_is)
    (case cc_is_known => k_is)
    (case kk_is_known => k_is)
    (case h_m_is_ahead_told => k_is)
    (case l_is_ahead_told => k_is)
    (case cc_is_ahead_told => k_is)
    (case kk_is_ahead_told => k_is)
    (case h_m_are_days_told => k_is)
    (case l_are_days_told => k_is)
    (case cc_are_days_told => k_is)
    (case kk_are_days_told => k_is)
    (case h_m_is_count => k_is)
    (case l_is_count => k_is)
    (case cc_is_count => k_is)
    (case kk_is_count => k_is)
    (case h_m_is_gone_told => k_is)
    (case l_is_gone_told => k_is)
    (case cc_is_gone_told => k_is)
    (case kk_is_gone_told => k_is)
    (case h_m_is_fact => k_is)
    (case l_is_fact => k_is)
    (case cc_is_fact => k_is)
    (case kk_is_fact => k_is)
    (case h_m_want_facts => k_is)
    (case l_want_facts => k_is)
    (case cc_want_facts => k_is)
    (case kk_want_facts => k_is)
    (case h_at_Yardu_initu => k_is)
    (case l_Yardu_initu => k_is)
    (case cc_Yardu_initu => k_is)
    (case kk_Yardu_initu => k_is)
    (case h_fn_Yardu_initu => k_is)
    (case h_mk_Yard => k_is)
    (case h_kc_Yard => k_is)
    (case h_m_law_yard => k_is)
    (case l_law_yard => k_is)
    (case cc_law_yard => k_is)
    (case kk_law_yard => k_is)
    (case h_at_Yardu_containsu => k_is)
    (case l_Yardu_containsu => k_is)
    (case cc_Yardu_containsu => k_is)
    (case kk_Yardu_containsu => k_is)
    (case h_fn_Yardu_containsu => k_is)
    (case h_m_want_box => k_is)
    (case l_want_box => k_is)
    (case cc_want_box => k_is)
    (case kk_want_box => k_is)
    (case h_m_drawn_by => k_is)
    (case l_drawn_by => k_is)
    (case cc_drawn_by => k_is)
    (case kk_drawn_by => k_is)
    (case h_at_Yard_boxes => k_is)
    (case l_Yard_boxes => k_is)
    (case cc_Yard_boxes => k_is)
    (case kk_Yard_boxes => k_is)
    (case h_fn_Yard_boxes => k_is)
    (case h_m_next_boxes => k_is)
    (case l_next_boxes => k_is)
    (case cc_next_boxes => k_is)
    (case kk_next_boxes => k_is)
    (case h_m_boxes_behind => k_is)
    (case l_boxes_behind => k_is)
    (case cc_boxes_behind => k_is)
    (case kk_boxes_behind => k_is)
    (case h_m_ways_of => k_is)
    (case l_ways_of => k_is)
    (case cc_ways_of => k_is)
    (case kk_ways_of => k_is)
    (case hp_at_Yard_days => k_is)
    (case hp_rec_Yard_days => k_is)
    (case l_Yard_days => k_is)
    (case cc_Yard_days => k_is)
    (case kk_Yard_days => k_is)
    (case hp_get_Yard_days => k_is)
    (case hp_tak_Yard_days => k_is)
    (case h_m_told_days => k_is)
    (case l_told_days => k_is)
    (case cc_told_days => k_is)
    (case kk_told_days => k_is)
    (case h_m_drawn_days => k_is)
    (case l_drawn_days => k_is)
    (case cc_drawn_days => k_is)
    (case kk_drawn_days => k_is)
    (case h_at_Yard_facts => k_is)
    (case l_Yard_facts => k_is)
    (case cc_Yard_facts => k_is)
    (case kk_Yard_facts => k_is)
    (case h_fn_Yard_facts => k_is)
    (case h_m_drawn => k_is)
    (case l_drawn => k_is)
    (case cc_drawn => k_is)
    (case kk_drawn => k_is)
    (case h_m_law_drawn => k_is)
    (case l_law_drawn => k_is)
    (case cc_law_drawn => k_is)
    (case kk_law_drawn => k_is)
    (case h_m_law_told => k_is)
    (case l_law_told => k_is)
    (case cc_law_told => k_is)
    (case kk_law_told => k_is)
    (case h_m_law_due => k_is)
    (case l_law_due => k_is)
    (case cc_law_due => k_is)
    (case kk_law_due => k_is)
    (case h_m_law_with => k_is)
    (case l_law_with => k_is)
    (case cc_law_with => k_is)
    (case kk_law_with => k_is)
    (case h_at_Yardu_addu => k_is)
    (case l_Yardu_addu => k_is)
    (case cc_Yardu_addu => k_is)
    (case kk_Yardu_addu => k_is)
    (case h_fn_Yardu_addu => k_is)
    (case h_bf_Yard_add_tuple => k_is)
    (case h_br_Yard_add_tuple => k_is)
    (case h_bo_Yard_add_tuple => k_is)
    (case h_bp_Yard_add_tuple => k_is)
    (case h_bs_Yard_add_tuple => k_is)
    (case h_m_law_right => k_is)
    (case l_law_right => k_is)
    (case cc_law_right => k_is)
    (case kk_law_right => k_is)
    (case h_m_law_pot => k_is)
    (case l_law_pot => k_is)
    (case cc_law_pot => k_is)
    (case kk_law_pot => k_is)
    (case h_m_law => k_is)
    (case l_law => k_is)
    (case cc_law => k_is)
    (case kk_law => k_is)
    (case h_na_Yard_own_boxes => k_is)
    (case h_na_Yard_own_days => k_is)
    (case h_na_Yard_own_facts => k_is)
    (case h_rd_Yard => k_is)
    (case h_ga_Yard => k_is)
    (case h_cv_Yard_MOST_BOXES => k_is)
    (case h_cv_Yard_MOST_FACTS => k_is)
