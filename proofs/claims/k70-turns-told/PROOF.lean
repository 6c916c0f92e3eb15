import PyProof.Rows.All
import Wide.All
import OpenK.AllK
import Wide.FinOn
import HandS.ForMost
import HandS.ForExc
import HandS.Deep
import HandS.TupAny
import HandS.IsInst
import HandS.Style
import HandS.TupLe
import HandS.SortInts
import HandS.Small
import HandS.More
import KE.GoesEnumKw
import HandS.Zip
import HandS.Property
import HandS.OwnEq
import KE.KOpsOwn
import HandS.ClsMeth
import HandS.DictComp
import HandS.Finally
import PyProof.DictUpdate
import HandS.Star
import HandS.RaiseMore
import HandS.EndBits
import PySem.Challenge.RW_neverdug_k70_turns_told
set_option Elab.async false
set_option linter.all false
set_option autoImplicit false
set_option maxHeartbeats 1000000
/-! the data layer, part 0: data, what holds it, what is owned -/
namespace DL
open PySem L2

/-- data -/
inductive D where
  | non | bl (b : Bool) | int (i : Int) | str (x : Str)
  | lst (xs : List D) | tup (xs : List D) | ktup (xs : List D) | klst (xs : List D) | dct (t : Bool) (kvs : List (D × D))
  | ins (c : Str) (fs : List (Str × D))
  | opq (v : V)
  deriving Inhabited

def keyD : Key → D
  | .inl i => .int i
  | .inr x => .str x
theorem keyD_inj {a b : Key} (h : keyD a = keyD b) : a = b := by
  cases a <;> cases b <;> simp [keyD] at h <;> rw [h]
def tupD (ks : List Key) : D := .tup (ks.map keyD)

/-- shapes of ownership: frozen; an owned list or dict whose items are so; an owned instance -/
inductive O where
  | z | c (o : O) | i
  deriving DecidableEq, Repr

structure Cfg where
  K : PySem.W.Frag
  cl : Str → Option Addr
  cq : ∀ a b x, cl a = some x → cl b = some x → a = b

variable (C : Cfg)

mutual
inductive Rep (F : Hp) : V → D → Prop
  | non : Rep F .non .non
  | bl (b) : Rep F (.bl b) (.bl b)
  | int (i) : Rep F (.int i) (.int i)
  | str (x) : Rep F (.str x) (.str x)
  | opq (v) : Rep F v (.opq v)
  | lst {a vs ds} : Rd F a (.lst vs) → RepL F vs ds → Rep F (.ref a) (.lst ds)
  | tup {a vs ds} : F a = some (.tup vs) → RepL F vs ds → Rep F (.ref a) (.tup ds)
  | ktup {a vs ds} : SqT C.K (fun _ => none) a vs → RepL F vs ds → Rep F (.ref a) (.ktup ds)
  | klst {a vs ds} : SqL C.K (fun _ => none) a vs → RepL F vs ds → Rep F (.ref a) (.klst ds)
  | dK {a} {kvs : List (Key × V)} {ds} : F a = some (.dK kvs) → RepL F (kvs.map (·.2)) ds → Rep F (.ref a) (.dct false ((kvs.map fun p => keyD p.1).zip ds))
  | dT {a} {kvs : List (List Key × V)} {ds} : F a = some (.dT kvs) → RepL F (kvs.map (·.2)) ds → Rep F (.ref a) (.dct true ((kvs.map fun p => tupD p.1).zip ds))
  | ins {a c Ca dx} {fs : List (Str × V)} {ds} : F a = some (.ins Ca dx fs) → C.cl c = some Ca → RepL F (fs.map (·.2)) ds → Rep F (.ref a) (.ins c ((fs.map (·.1)).zip ds))
inductive RepL (F : Hp) : List V → List D → Prop
  | nil : RepL F [] []
  | cons {v d vs ds} : Rep F v d → RepL F vs ds → RepL F (v :: vs) (d :: ds)
end

def Ext (F F' : Hp) : Prop := ∀ a o, F a = some o → F' a = some o
theorem Ext.refl (F : Hp) : Ext F F := fun _ _ h => h
variable {C}
theorem Ext.trans {F G H : Hp} (a : Ext F G) (b : Ext G H) : Ext F H := fun x o h => b x o (a x o h)
theorem Ext.new {F : Hp} {p : Addr} {o : HO} (h : F p = none) : Ext F (upd F p o) := fun a u e => by
  rw [upd_ne (ne_of_none e h)]; exact e
theorem Ext.sqL {F F' : Hp} {a : Addr} {xs : List V} (e : Ext F F') (h : SqL C.K F a xs) : SqL C.K F' a xs := by
  rcases h with (h | ⟨o, h⟩) | h
  · exact .inl (.inl (e _ _ h))
  · exact .inl (.inr ⟨o, e _ _ h⟩)
  · exact .inr h
theorem Ext.sqT {F F' : Hp} {a : Addr} {xs : List V} (e : Ext F F') (h : SqT C.K F a xs) : SqT C.K F' a xs := by
  rcases h with (h | ⟨o, h⟩) | h
  · exact .inl (.inl (e _ _ h))
  · exact .inl (.inr ⟨o, e _ _ h⟩)
  · exact .inr h

theorem Ext.rd {F F' : Hp} {a : Addr} {o : HO} (e : Ext F F') (h : Rd F a o) : Rd F' a o := by
  rcases h with h | ⟨u, h⟩
  · exact .inl (e _ _ h)
  · exact .inr ⟨u, e _ _ h⟩
mutual
theorem Rep.mono {F F' : Hp} (e : Ext F F') : ∀ {v : V} {d : D}, Rep C F v d → Rep C F' v d
  | _, _, .non => .non
  | _, _, .bl b => .bl b
  | _, _, .int b => .int b
  | _, _, .str b => .str b
  | _, _, .opq b => .opq b
  | _, _, .lst h r => .lst (e.rd h) (RepL.mono e r)
  | _, _, .tup h r => .tup (e _ _ h) (RepL.mono e r)
  | _, _, .ktup h r => .ktup h (RepL.mono e r)
  | _, _, .klst h r => .klst h (RepL.mono e r)
  | _, _, .dK h r => .dK (e _ _ h) (RepL.mono e r)
  | _, _, .dT h r => .dT (e _ _ h) (RepL.mono e r)
  | _, _, .ins h c r => .ins (e _ _ h) c (RepL.mono e r)
theorem RepL.mono {F F' : Hp} (e : Ext F F') : ∀ {vs : List V} {ds : List D}, RepL C F vs ds → RepL C F' vs ds
  | _, _, .nil => .nil
  | _, _, .cons h r => .cons (Rep.mono e h) (RepL.mono e r)
end

theorem RepL.length {F : Hp} {vs : List V} {ds : List D} (h : RepL C F vs ds) : vs.length = ds.length := by
  induction vs generalizing ds with
  | nil => cases h; rfl
  | cons v vs ih => cases h with | cons a b => simp [ih b]
theorem RepL.get {F : Hp} {vs : List V} {ds : List D} (h : RepL C F vs ds) {i : Nat} {d : D} (e : ds[i]? = some d) : ∃ v, vs[i]? = some v ∧ Rep C F v d := by
  induction vs generalizing ds i with
  | nil => cases h; simp at e
  | cons v vs ih =>
    cases h with
    | cons a b =>
      cases i with
      | zero => simp at e; subst e; exact ⟨v, rfl, a⟩
      | succ i => simpa using ih b (by simpa using e)
theorem RepL.get' {F : Hp} {vs : List V} {ds : List D} (h : RepL C F vs ds) {i : Nat} {v : V} (e : vs[i]? = some v) : ∃ d, ds[i]? = some d ∧ Rep C F v d := by
  induction vs generalizing ds i with
  | nil => simp at e
  | cons v vs ih =>
    cases h with
    | cons a b =>
      cases i with
      | zero => simp at e; subst e; exact ⟨_, rfl, a⟩
      | succ i => simpa using ih b (by simpa using e)
theorem RepL.append {F : Hp} {vs ws : List V} {ds es : List D} (h : RepL C F vs ds) (k : RepL C F ws es) : RepL C F (vs ++ ws) (ds ++ es) := by
  induction vs generalizing ds with
  | nil => cases h; exact k
  | cons v vs ih => cases h with | cons a b => exact .cons a (ih b)
theorem RepL.take {F : Hp} {vs : List V} {ds : List D} (h : RepL C F vs ds) (n : Nat) : RepL C F (vs.take n) (ds.take n) := by
  induction vs generalizing ds n with
  | nil => cases h; simpa using RepL.nil
  | cons v vs ih =>
    cases h with
    | cons a b =>
      cases n with
      | zero => exact .nil
      | succ n => exact .cons a (ih b n)
theorem RepL.drop {F : Hp} {vs : List V} {ds : List D} (h : RepL C F vs ds) (n : Nat) : RepL C F (vs.drop n) (ds.drop n) := by
  induction vs generalizing ds n with
  | nil => cases h; simpa using RepL.nil
  | cons v vs ih =>
    cases h with
    | cons a b =>
      cases n with
      | zero => exact .cons a b
      | succ n => exact ih b n
theorem RepL.set {F : Hp} {vs : List V} {ds : List D} {v : V} {d : D} (h : RepL C F vs ds) (r : Rep C F v d) (n : Nat) : RepL C F (vs.set n v) (ds.set n d) := by
  induction vs generalizing ds n with
  | nil => cases h; simpa using RepL.nil
  | cons v vs ih =>
    cases h with
    | cons a b =>
      cases n with
      | zero => exact .cons r b
      | succ n => exact .cons a (ih b n)
theorem RepL.reverse {F : Hp} {vs : List V} {ds : List D} (h : RepL C F vs ds) : RepL C F vs.reverse ds.reverse := by
  induction vs generalizing ds with
  | nil => cases h; exact .nil
  | cons v vs ih =>
    cases h with
    | cons a b =>
      rw [List.reverse_cons, List.reverse_cons]
      exact RepL.append (ih b) (.cons a .nil)

/-! ### owned trees -/
def OwnL (P : V → D → List Addr → Prop) : List V → List D → List Addr → Prop
  | [], [], fp => fp = []
  | v :: vs, d :: ds, fp => ∃ f1 f2, fp = f1 ++ f2 ∧ P v d f1 ∧ OwnL P vs ds f2
  | _, _, _ => False

/-- v holds d, its top cells owned as o says; fp: the owned cells -/
def Own (C : Cfg) (F H : Hp) : O → V → D → List Addr → Prop
  | .z, v, d, fp => Rep C F v d ∧ fp = []
  | .c o, v, d, fp => ∃ a fps, v = .ref a ∧ fp = a :: fps ∧
      ((∃ vs ds, H a = some (.lst vs) ∧ d = .lst ds ∧ OwnL (Own C F H o) vs ds fps) ∨
       (∃ kvs ds, H a = some (.dK kvs) ∧ d = .dct false ((kvs.map fun p => keyD p.1).zip ds) ∧ OwnL (Own C F H o) (kvs.map (·.2)) ds fps) ∨
       (∃ kvs ds, H a = some (.dT kvs) ∧ d = .dct true ((kvs.map fun p => tupD p.1).zip ds) ∧ (∀ p ∈ kvs, ∃ b, F b = some (.tup (p.1.map kV))) ∧ OwnL (Own C F H o) (kvs.map (·.2)) ds fps))
  | .i, v, d, fp => ∃ a c Ca dx fs ds, v = .ref a ∧ fp = [a] ∧ H a = some (.ins Ca dx fs) ∧ C.cl c = some Ca ∧ d = .ins c ((fs.map (·.1)).zip ds) ∧ RepL C F (fs.map (·.2)) ds

theorem OwnL.imp {P Q : V → D → List Addr → Prop} : ∀ {vs : List V} {ds : List D} {fp : List Addr}, (∀ v d f, (∀ a ∈ f, a ∈ fp) → P v d f → Q v d f) → OwnL P vs ds fp → OwnL Q vs ds fp
  | [], [], _, _, h => h
  | v :: vs, d :: ds, fp, k, h => by
    obtain ⟨f1, f2, rfl, p, r⟩ := h
    exact ⟨f1, f2, rfl, k _ _ _ (fun a ha => List.mem_append_left _ ha) p, OwnL.imp (fun v d f hf => k v d f fun a ha => List.mem_append_right _ (hf a ha)) r⟩
  | [], _ :: _, _, _, h => h.elim
  | _ :: _, [], _, _, h => h.elim

/-- what an owned tree leans on: the frozen part, and its own cells -/
theorem Own.keep {F F' H H' : Hp} (e : Ext F F') : ∀ {o : O} {v : V} {d : D} {fp : List Addr}, (∀ a ∈ fp, H' a = H a) → Own C F H o v d fp → Own C F' H' o v d fp
  | .z, _, _, _, _, h => ⟨h.1.mono e, h.2⟩
  | .i, _, _, _, k, ⟨a, c, Ca, dx, fs, ds, e1, e2, e3, e4, e5, e6⟩ => ⟨a, c, Ca, dx, fs, ds, e1, e2, by rw [k a (by rw [e2]; simp)]; exact e3, e4, e5, e6.mono e⟩
  | .c o, _, _, _, k, ⟨a, fps, e1, e2, h⟩ => by
    refine ⟨a, fps, e1, e2, ?_⟩
    subst e2
    have ka := k a (by simp)
    have go : ∀ {vs : List V} {ds : List D}, OwnL (Own C F H o) vs ds fps → OwnL (Own C F' H' o) vs ds fps := fun h =>
      OwnL.imp (fun v d f hf p => Own.keep (o := o) e (fun b hb => k b (List.mem_cons_of_mem _ (hf b hb))) p) h
    rcases h with ⟨vs, ds, h1, h2, h3⟩ | ⟨kvs, ds, h1, h2, h3⟩ | ⟨kvs, ds, h1, h2, h4, h3⟩
    · exact .inl ⟨vs, ds, by rw [ka]; exact h1, h2, go h3⟩
    · exact .inr (.inl ⟨kvs, ds, by rw [ka]; exact h1, h2, go h3⟩)
    · exact .inr (.inr ⟨kvs, ds, by rw [ka]; exact h1, h2, fun p hp => (h4 p hp).elim fun b hb => ⟨b, e _ _ hb⟩, go h3⟩)

theorem OwnL.repL {F G : Hp} {P : V → D → List Addr → Prop} : ∀ {vs : List V} {ds : List D} {fp : List Addr}, (∀ v d f, (∀ a ∈ f, a ∈ fp) → P v d f → Rep C G v d) → OwnL P vs ds fp → RepL C G vs ds
  | [], [], _, _, _ => .nil
  | v :: vs, d :: ds, fp, k, h => by
    obtain ⟨f1, f2, rfl, p, r⟩ := h
    exact .cons (k _ _ _ (fun a ha => List.mem_append_left _ ha) p) (OwnL.repL (F := F) (fun v d f hf => k v d f fun a ha => List.mem_append_right _ (hf a ha)) r)
  | [], _ :: _, _, _, h => h.elim
  | _ :: _, [], _, _, h => h.elim
theorem OwnL.length {P : V → D → List Addr → Prop} : ∀ {vs : List V} {ds : List D} {fp : List Addr}, OwnL P vs ds fp → vs.length = ds.length
  | [], [], _, _ => rfl
  | v :: vs, d :: ds, fp, h => by
    obtain ⟨f1, f2, rfl, p, r⟩ := h
    simp [OwnL.length r]
  | [], _ :: _, _, h => h.elim
  | _ :: _, [], _, h => h.elim

/-- seen as frozen in a heap that has the cells -/
theorem Own.rep {F H G : Hp} (e : Ext F G) : ∀ {o : O} {v : V} {d : D} {fp : List Addr}, (∀ a ∈ fp, G a = H a) → Own C F H o v d fp → Rep C G v d
  | .z, _, _, _, _, h => h.1.mono e
  | .i, _, _, _, k, ⟨a, c, Ca, dx, fs, ds, e1, e2, e3, e4, e5, e6⟩ => by
    subst e1 e5
    exact .ins (by rw [k a (by rw [e2]; simp)]; exact e3) e4 (e6.mono e)
  | .c o, _, _, _, k, ⟨a, fps, e1, e2, h⟩ => by
    subst e1 e2
    have ka := k a (by simp)
    have go : ∀ {vs : List V} {ds : List D}, OwnL (Own C F H o) vs ds fps → RepL C G vs ds := fun h =>
      OwnL.repL (F := F) (fun v d f hf p => Own.rep (o := o) e (fun b hb => k b (List.mem_cons_of_mem _ (hf b hb))) p) h
    rcases h with ⟨vs, ds, h1, h2, h3⟩ | ⟨kvs, ds, h1, h2, h3⟩ | ⟨kvs, ds, h1, h2, h4, h3⟩
    · subst h2
      exact .lst (.inl (by rw [ka]; exact h1)) (go h3)
    · subst h2
      exact .dK (by rw [ka]; exact h1) (go h3)
    · subst h2
      exact .dT (by rw [ka]; exact h1) (go h3)

theorem OwnL.live {P : V → D → List Addr → Prop} {H : Hp} : ∀ {vs : List V} {ds : List D} {fp : List Addr}, (∀ v d f, P v d f → ∀ a ∈ f, ∃ o, H a = some o) → OwnL P vs ds fp → ∀ a ∈ fp, ∃ o, H a = some o
  | [], [], _, _, h, a, ha => by rw [show _ = [] from h] at ha; simp at ha
  | v :: vs, d :: ds, fp, k, h, a, ha => by
    obtain ⟨f1, f2, rfl, p, r⟩ := h
    rcases List.mem_append.mp ha with ha | ha
    · exact k _ _ _ p a ha
    · exact OwnL.live k r a ha
  | [], _ :: _, _, _, h, _, _ => h.elim
  | _ :: _, [], _, _, h, _, _ => h.elim
theorem Own.live {F H : Hp} : ∀ {o : O} {v : V} {d : D} {fp : List Addr}, Own C F H o v d fp → ∀ a ∈ fp, ∃ o, H a = some o
  | .z, _, _, _, h, a, ha => by rw [h.2] at ha; simp at ha
  | .i, _, _, _, ⟨a, c, Ca, dx, fs, ds, e1, e2, e3, e4, e5, e6⟩, b, hb => by
    rw [e2] at hb
    have : b = a := by simpa using hb
    rw [this]; exact ⟨_, e3⟩
  | .c o, _, _, _, ⟨a, fps, e1, e2, h⟩, b, hb => by
    rw [e2] at hb
    rcases List.mem_cons.mp hb with rfl | hb
    · rcases h with ⟨vs, ds, h1, _⟩ | ⟨kvs, ds, h1, _⟩ | ⟨kvs, ds, h1, _⟩
      · exact ⟨_, h1⟩
      · exact ⟨_, h1⟩
      · exact ⟨_, h1⟩
    · rcases h with ⟨vs, ds, _, _, h3⟩ | ⟨kvs, ds, _, _, h3⟩ | ⟨kvs, ds, _, _, _, h3⟩
      · exact OwnL.live (fun v d f p => Own.live (o := o) p) h3 b hb
      · exact OwnL.live (fun v d f p => Own.live (o := o) p) h3 b hb
      · exact OwnL.live (fun v d f p => Own.live (o := o) p) h3 b hb

/-! ### the state: frozen F, the others' cells P, the locked things Lk, the cells at hand -/
abbrev Cell := O × V × D
def Owns (C : Cfg) (F H : Hp) : List Cell → List Addr → Prop
  | [], fp => fp = []
  | x :: xs, fp => ∃ f1 f2, fp = f1 ++ f2 ∧ Own C F H x.1 x.2.1 x.2.2 f1 ∧ Owns C F H xs f2
abbrev Lock := Addr → Option Obj
def lk (L : Lock) (a : Addr) (o : HO) : HO := match L a with
  | none => o
  | some ob => .frz ob o
structure Stt (C : Cfg) (F P : Hp) (Lk : Lock) (L : List Cell) (H : Hp) : Prop where
  le : ∀ a o, F a = some o → H a = some (lk Lk a o)
  pe : Ext P H
  dj : ∀ a o, P a = some o → F a = none
  ld : ∀ a, Lk a ≠ none → (∃ k, F a = some (.dK k)) ∨ ∃ k, F a = some (.dT k)
  ow : ∃ fp, Owns C F H L fp ∧ fp.Nodup ∧ ∀ a ∈ fp, F a = none ∧ P a = none

theorem Owns.keep {F F' H H' : Hp} (e : Ext F F') : ∀ {L : List Cell} {fp : List Addr}, (∀ a ∈ fp, H' a = H a) → Owns C F H L fp → Owns C F' H' L fp
  | [], _, _, h => h
  | x :: xs, _, k, ⟨f1, f2, e1, p, r⟩ => by
    subst e1
    exact ⟨f1, f2, rfl, p.keep e fun a ha => k a (List.mem_append_left _ ha), Owns.keep e (fun a ha => k a (List.mem_append_right _ ha)) r⟩
theorem Owns.live {F H : Hp} : ∀ {L : List Cell} {fp : List Addr}, Owns C F H L fp → ∀ a ∈ fp, ∃ o, H a = some o
  | [], _, h, a, ha => by rw [show _ = [] from h] at ha; simp at ha
  | x :: xs, _, ⟨f1, f2, e1, p, r⟩, a, ha => by
    subst e1
    rcases List.mem_append.mp ha with ha | ha
    · exact p.live a ha
    · exact Owns.live r a ha
theorem Owns.append {F H : Hp} : ∀ {L M : List Cell} {f g : List Addr}, Owns C F H L f → Owns C F H M g → Owns C F H (L ++ M) (f ++ g)
  | [], _, f, g, h, k => by rw [show f = [] from h]; exact k
  | x :: xs, _, _, g, ⟨f1, f2, e1, p, r⟩, k => by
    subst e1
    exact ⟨f1, f2 ++ g, by rw [List.append_assoc], p, Owns.append r k⟩
theorem Owns.split {F H : Hp} : ∀ {L M : List Cell} {f : List Addr}, Owns C F H (L ++ M) f → ∃ f1 f2, f = f1 ++ f2 ∧ Owns C F H L f1 ∧ Owns C F H M f2
  | [], _, f, h => ⟨[], f, rfl, rfl, h⟩
  | x :: xs, _, _, ⟨f1, f2, e1, p, r⟩ => by
    obtain ⟨g1, g2, rfl, a, b⟩ := Owns.split r
    subst e1
    exact ⟨f1 ++ g1, g2, by rw [List.append_assoc], ⟨f1, g1, rfl, p, a⟩, b⟩
theorem Owns.perm {F H : Hp} {L M : List Cell} (p : L.Perm M) : ∀ {f : List Addr}, Owns C F H L f → ∃ g, Owns C F H M g ∧ f.Perm g := by
  induction p with
  | nil => intro f h; exact ⟨f, h, .refl _⟩
  | cons x _ ih =>
    rintro f ⟨f1, f2, rfl, p, r⟩
    obtain ⟨g, hg, pg⟩ := ih r
    exact ⟨f1 ++ g, ⟨f1, g, rfl, p, hg⟩, pg.append_left f1⟩
  | swap x y l =>
    rintro f ⟨f1, f2, rfl, p, ⟨g1, g2, rfl, q, r⟩⟩
    refine ⟨g1 ++ (f1 ++ g2), ⟨g1, f1 ++ g2, rfl, q, ⟨f1, g2, rfl, p, r⟩⟩, ?_⟩
    rw [← List.append_assoc, ← List.append_assoc]
    exact List.perm_append_comm.append_right g2
  | trans _ _ ih1 ih2 =>
    intro f h
    obtain ⟨g, hg, pg⟩ := ih1 h
    obtain ⟨k, hk, pk⟩ := ih2 hg
    exact ⟨k, hk, pg.trans pk⟩

section
variable {F F' P H H' : Hp} {Lk : Lock} {L M : List Cell}
theorem Stt.lf (h : Stt C F P Lk L H) (a : Addr) (e : Lk a ≠ none) : F a ≠ none := by
  rcases h.ld a e with ⟨k, q⟩ | ⟨k, q⟩ <;> rw [q] <;> simp
theorem Stt.perm (h : Stt C F P Lk L H) (p : L.Perm M) : Stt C F P Lk M H := by
  obtain ⟨fp, o, n, d⟩ := h.ow
  obtain ⟨g, og, pg⟩ := o.perm p
  exact ⟨h.le, h.pe, h.dj, h.ld, g, og, pg.nodup_iff.mp n, fun a ha => d a (pg.mem_iff.mpr ha)⟩
theorem Stt.tail {x : Cell} (h : Stt C F P Lk (x :: L) H) : Stt C F P Lk L H := by
  obtain ⟨fp, ⟨f1, f2, rfl, p, r⟩, n, d⟩ := h.ow
  exact ⟨h.le, h.pe, h.dj, h.ld, f2, r, (List.nodup_append.mp n).2.1, fun a ha => d a (List.mem_append_right _ ha)⟩
theorem Stt.drop (h : Stt C F P Lk (M ++ L) H) : Stt C F P Lk L H := by
  induction M with
  | nil => exact h
  | cons x xs ih => exact ih h.tail
theorem Stt.zcons {v : V} {d : D} (r : Rep C F v d) (h : Stt C F P Lk L H) : Stt C F P Lk ((.z, v, d) :: L) H := by
  obtain ⟨fp, o, n, q⟩ := h.ow
  exact ⟨h.le, h.pe, h.dj, h.ld, fp, ⟨[], fp, rfl, ⟨r, rfl⟩, o⟩, n, q⟩
theorem Stt.rep {v : V} {d : D} (h : Stt C F P Lk ((.z, v, d) :: L) H) : Rep C F v d := by
  obtain ⟨fp, ⟨f1, f2, rfl, p, r⟩, n, q⟩ := h.ow
  exact p.1
/-- restricted to some addresses -/
def only (H : Hp) (l : List Addr) : Hp := fun a => if a ∈ l then H a else none
/-- two heaps, the first one ahead -/
def join (F G : Hp) : Hp := fun a => (F a).or (G a)
theorem only_in {l : List Addr} {a : Addr} (h : a ∈ l) : only H l a = H a := by simp [only, h]
theorem only_out {l : List Addr} {a : Addr} (h : a ∉ l) : only H l a = none := by simp [only, h]
theorem join_l {F G : Hp} {a : Addr} {o : HO} (h : F a = some o) : join F G a = some o := by simp [join, h]
theorem join_r {F G : Hp} {a : Addr} (h : F a = none) : join F G a = G a := by simp [join, h]
theorem join_ext {F G : Hp} : Ext F (join F G) := fun a o h => join_l h

/-- the cells of M become frozen -/
theorem Stt.freeze (h : Stt C F P Lk (M ++ L) H) : ∃ F', Ext F F' ∧ (∀ x ∈ M, Rep C F' x.2.1 x.2.2) ∧ Stt C F' P Lk L H := by
  obtain ⟨fp, o, n, d⟩ := h.ow
  obtain ⟨f1, f2, rfl, o1, o2⟩ := o.split
  have n' := List.nodup_append.mp n
  refine ⟨join F (only H f1), join_ext, ?_, ?_⟩
  · have ag : ∀ a ∈ f1, join F (only H f1) a = H a := fun a ha => by
      rw [join_r (d a (List.mem_append_left _ ha)).1, only_in ha]
    clear n d n' o2 h o
    have aux : ∀ (M : List Cell) (g : List Addr), (∀ a ∈ g, join F (only H f1) a = H a) → Owns C F H M g → ∀ x ∈ M, Rep C (join F (only H f1)) x.2.1 x.2.2 := by
      intro M
      induction M with
      | nil => intro g _ _ x hx; simp at hx
      | cons y ys ih =>
        rintro g ag ⟨g1, g2, rfl, p, r⟩ x hx
        rcases List.mem_cons.mp hx with rfl | hx
        · exact p.rep join_ext fun a ha => ag a (List.mem_append_left _ ha)
        · exact ih g2 (fun a ha => ag a (List.mem_append_right _ ha)) r x hx
    exact aux M f1 ag o1
  · refine ⟨fun a ob e => ?_, h.pe, fun a ob e => ?_, fun a ha => ?_, f2, ?_, n'.2.1, fun a ha => ⟨?_, (d a (List.mem_append_right _ ha)).2⟩⟩
    · by_cases hf : F a = none
      · rw [join_r hf] at e
        by_cases ha : a ∈ f1
        · rw [only_in ha] at e
          have hl : Lk a = none := by
            cases q : Lk a with
            | none => rfl
            | some z => exact absurd hf (h.lf a (by rw [q]; simp))
          rw [e]; unfold lk; rw [hl]
        · rw [only_out ha] at e; cases e
      · obtain ⟨o', ho⟩ := Option.ne_none_iff_exists'.mp hf
        rw [join_l ho] at e
        cases e
        exact h.le a _ ho
    · have hf := h.dj a ob e
      rw [join_r hf]
      by_cases ha : a ∈ f1
      · have z := (d a (List.mem_append_left _ ha)).2
        rw [e] at z; cases z
      · exact only_out ha
    · exact (h.ld a ha).imp (fun ⟨k, q⟩ => ⟨k, join_l q⟩) fun ⟨k, q⟩ => ⟨k, join_l q⟩
    · exact o2.keep join_ext fun _ _ => rfl
    · rw [join_r (d a (List.mem_append_right _ ha)).1]
      exact only_out fun z => n'.2.2 a z a ha rfl

/-- the cells of M are parked among the others' -/
theorem Stt.park (h : Stt C F P Lk (M ++ L) H) : ∃ P', Stt C F P' Lk L H ∧ Ext P P' ∧ ∀ (F2 H2 : Hp) (Lk2 : Lock) (L2 : List Cell), Ext F F2 → Stt C F2 P' Lk2 L2 H2 → Stt C F2 P Lk2 (M ++ L2) H2 := by
  obtain ⟨fp, o, n, d⟩ := h.ow
  obtain ⟨f1, f2, rfl, o1, o2⟩ := o.split
  have n' := List.nodup_append.mp n
  have live := o1.live
  refine ⟨join P (only H f1), ⟨h.le, fun a ob e => ?_, fun a ob e => ?_, h.ld, f2, o2, n'.2.1, fun a ha => ⟨(d a (List.mem_append_right _ ha)).1, ?_⟩⟩, join_ext, fun F2 H2 Lk2 L2 e2 h2 => ?_⟩
  · by_cases hp : P a = none
    · rw [join_r hp] at e
      by_cases ha : a ∈ f1
      · rw [only_in ha] at e; exact e
      · rw [only_out ha] at e; cases e
    · obtain ⟨o', ho⟩ := Option.ne_none_iff_exists'.mp hp
      rw [join_l ho] at e; cases e
      exact h.pe a _ ho
  · by_cases hp : P a = none
    · rw [join_r hp] at e
      by_cases ha : a ∈ f1
      · exact (d a (List.mem_append_left _ ha)).1
      · rw [only_out ha] at e; cases e
    · obtain ⟨o', ho⟩ := Option.ne_none_iff_exists'.mp hp
      exact h.dj a _ ho
  · rw [join_r (d a (List.mem_append_right _ ha)).2]
    exact only_out fun z => n'.2.2 a z a ha rfl
  · obtain ⟨g, og, ng, dg⟩ := h2.ow
    have pin : ∀ a ∈ f1, join P (only H f1) a = H a := fun a ha => by
      rw [join_r (d a (List.mem_append_left _ ha)).2, only_in ha]
    have eqH : ∀ a ∈ f1, H2 a = H a := fun a ha => by
      obtain ⟨ob, hb⟩ := live a ha
      rw [hb]
      exact h2.pe a ob (by rw [pin a ha]; exact hb)
    refine ⟨h2.le, fun a ob e => h2.pe a ob (join_l e), fun a ob e => h2.dj a ob (join_l e), h2.ld, f1 ++ g, (o1.keep e2 eqH).append og, ?_, fun a ha => ?_⟩
    · refine List.nodup_append.mpr ⟨n'.1, ng, fun a ha b hb e => ?_⟩
      subst e
      obtain ⟨ob, hob⟩ := live a ha
      have z := (dg a hb).2
      rw [pin a ha, hob] at z; cases z
    · rcases List.mem_append.mp ha with ha | ha
      · obtain ⟨ob, hob⟩ := live a ha
        exact ⟨h2.dj a ob (by rw [pin a ha]; exact hob), (d a (List.mem_append_left _ ha)).2⟩
      · refine ⟨(dg a ha).1, ?_⟩
        cases q : P a with
        | none => rfl
        | some ob =>
          have z := (dg a ha).2
          rw [join_l q] at z; cases z

/-- a new object of frozen things, frozen itself -/
theorem Stt.newZ {p : Addr} {o : HO} (h : Stt C F P Lk L H) (hp : H p = none) : Ext F (upd F p o) ∧ Stt C (upd F p o) P Lk L (upd H p o) := by
  have fp : F p = none := by
    cases q : F p with
    | none => rfl
    | some ob => have := h.le p ob q; rw [hp] at this; cases this
  have pp : P p = none := by
    cases q : P p with
    | none => rfl
    | some ob => have := h.pe p ob q; rw [hp] at this; cases this
  refine ⟨Ext.new fp, ?_⟩
  obtain ⟨g, og, ng, dg⟩ := h.ow
  have ne : ∀ a ∈ g, a ≠ p := fun a ha e => by
    obtain ⟨ob, hb⟩ := og.live a ha
    rw [e, hp] at hb; cases hb
  refine ⟨fun a ob e => ?_, fun a ob e => ?_, fun a ob e => ?_, fun a ha => (h.ld a ha).imp (fun ⟨k, q⟩ => ⟨k, Ext.new fp _ _ q⟩) (fun ⟨k, q⟩ => ⟨k, Ext.new fp _ _ q⟩), g, og.keep (Ext.new fp) (fun a ha => upd_ne (ne a ha)), ng, fun a ha => ⟨by rw [upd_ne (ne a ha)]; exact (dg a ha).1, (dg a ha).2⟩⟩
  · by_cases ha : a = p
    · subst ha
      rw [upd_same] at e; cases e
      have hl : Lk a = none := by
        cases q : Lk a with
        | none => rfl
        | some z => exact absurd fp (h.lf a (by rw [q]; simp))
      rw [upd_same]; unfold lk; rw [hl]
    · rw [upd_ne ha] at e ⊢
      exact h.le a ob e
  · rw [upd_ne (fun z => by rw [z, pp] at e; cases e)]
    exact h.pe a ob e
  · have : a ≠ p := fun z => by rw [z, pp] at e; cases e
    rw [upd_ne this]; exact h.dj a ob e
theorem Stt.sqL {a : Addr} {vs : List V} (h : Stt C F P Lk L H) (q : SqL C.K F a vs) : SqL C.K H a vs := by
  have un : ∀ o, F a = some o → (∀ k, o ≠ .dK k) → (∀ k, o ≠ .dT k) → H a = some o := fun o e n1 n2 => by
    have := h.le a o e
    cases hl : Lk a with
    | none => unfold lk at this; rw [hl] at this; exact this
    | some ob =>
      rcases h.ld a (by rw [hl]; simp) with ⟨k, z⟩ | ⟨k, z⟩
      · rw [e] at z; cases z; exact absurd rfl (n1 k)
      · rw [e] at z; cases z; exact absurd rfl (n2 k)
  rcases q with (q | ⟨o, q⟩) | q
  · exact .inl (.inl (un _ q (fun _ z => nomatch z) fun _ z => nomatch z))
  · exact .inl (.inr ⟨o, un _ q (fun _ z => nomatch z) fun _ z => nomatch z⟩)
  · exact .inr q
theorem Stt.plain {a : Addr} {o : HO} (h : Stt C F P Lk L H) (e : F a = some o) (n1 : ∀ k, o ≠ .dK k) (n2 : ∀ k, o ≠ .dT k) : H a = some o := by
  have := h.le a o e
  cases hl : Lk a with
  | none => unfold lk at this; rw [hl] at this; exact this
  | some ob =>
    rcases h.ld a (by rw [hl]; simp) with ⟨k, z⟩ | ⟨k, z⟩
    · rw [e] at z; cases z; exact absurd rfl (n1 k)
    · rw [e] at z; cases z; exact absurd rfl (n2 k)
theorem Stt.sqT {a : Addr} {vs : List V} (h : Stt C F P Lk L H) (q : SqT C.K F a vs) : SqT C.K H a vs := by
  rcases q with (q | ⟨o, q⟩) | q
  · exact .inl (.inl (h.plain q (fun _ z => nomatch z) fun _ z => nomatch z))
  · exact .inl (.inr ⟨o, h.plain q (fun _ z => nomatch z) fun _ z => nomatch z⟩)
  · exact .inr q
theorem Stt.tup {a : Addr} {vs : List V} (h : Stt C F P Lk L H) (q : F a = some (.tup vs)) : H a = some (.tup vs) := h.plain q (fun _ z => nomatch z) fun _ z => nomatch z
theorem sqT_k {a : Addr} {vs : List V} (h : SqT C.K (fun _ => none) a vs) : SqT C.K H a vs := by
  rcases h with (h | ⟨o, h⟩) | h
  · cases h
  · cases h
  · exact .inr h
theorem sqL_k {a : Addr} {vs : List V} (h : SqL C.K (fun _ => none) a vs) : SqL C.K H a vs := by
  rcases h with (h | ⟨o, h⟩) | h
  · cases h
  · cases h
  · exact .inr h
theorem Stt.rdL {a : Addr} {vs : List V} (h : Stt C F P Lk L H) (q : Rd F a (.lst vs)) : Rd H a (.lst vs) := by
  rcases q with q | ⟨o, q⟩
  · exact .inl (h.plain q (fun _ z => nomatch z) fun _ z => nomatch z)
  · exact .inr ⟨o, h.plain q (fun _ z => nomatch z) fun _ z => nomatch z⟩
theorem Stt.rd {a : Addr} {o : HO} (h : Stt C F P Lk L H) (e : F a = some o) : Rd H a o := by
  have := h.le a o e
  cases hl : Lk a with
  | none => unfold lk at this; rw [hl] at this; exact .inl this
  | some ob => unfold lk at this; rw [hl] at this; exact .inr ⟨ob, this⟩
theorem Stt.mem {x : Cell} (h : Stt C F P Lk L H) (m : x ∈ L) : ∃ fp, Own C F H x.1 x.2.1 x.2.2 fp := by
  obtain ⟨fp, o, n, d⟩ := h.ow
  clear n d
  induction L generalizing fp with
  | nil => simp at m
  | cons y ys ih =>
    obtain ⟨f1, f2, e, p, r⟩ := o
    rcases List.mem_cons.mp m with rfl | m
    · exact ⟨f1, p⟩
    · exact ih h.tail m f2 r
theorem Stt.rep_mem {v : V} {d : D} (h : Stt C F P Lk L H) (m : (O.z, v, d) ∈ L) : Rep C F v d := by
  obtain ⟨fp, q⟩ := h.mem m
  exact q.1
/-- the heap grows by something that is not spoken of -/
theorem Stt.grow (h : Stt C F P Lk L H) (e : Ext H H') : Stt C F P Lk L H' := by
  obtain ⟨g, og, ng, dg⟩ := h.ow
  refine ⟨fun a o q => e _ _ (h.le a o q), h.pe.trans e, h.dj, h.ld, g, og.keep (Ext.refl _) (fun a ha => ?_), ng, dg⟩
  obtain ⟨ob, hb⟩ := og.live a ha
  rw [hb]; exact e _ _ hb
end
end DL
set_option Elab.async false
set_option linter.all false
set_option autoImplicit false
set_option maxHeartbeats 1000000
/-! the data layer, part 1: what a piece of code computes; expressions -/
namespace DL
open PySem PySem.Spec PyProof.Rows L2

abbrev Env := List (Option D)
/-- what a piece computes: a value and the slots behind it; an own exception; or nothing is said -/
inductive Res (α : Type) where
  | ok (a : α) (r : DL.Env)
  | exc (c : Str) (fs : List (Str × D))
  | stk
def Res.bind {α β : Type} (x : Res α) (k : α → DL.Env → Res β) : Res β := match x with
  | .ok a r => k a r
  | .exc c fs => .exc c fs
  | .stk => .stk
abbrev SE := DL.Env → Res D
abbrev ST := DL.Env → Res Bool
abbrev SA := DL.Env → Res (List D)

inductive EnvR : List O → DL.Env → L2.St → List Cell → Prop
  | nil : EnvR [] [] [] []
  | skip {o s G r t L} : EnvR G r t L → EnvR (o :: G) (none :: r) (s :: t) L
  | have {o v d G r t L} : EnvR G r t L → EnvR (o :: G) (some d :: r) (some v :: t) ((o, v, d) :: L)
def EnvX (C : Cfg) (T : List Cell) (F P : Hp) (Lk : Lock) (G : List O) (r : DL.Env) (σ : L2.St) (H : Hp) : Prop :=
  ∃ L, EnvR G r σ L ∧ Stt C F P Lk (T ++ L) H

/-- how an own exception stands: its class, its own dict -/
def ExcO (C : Cfg) (F H : Hp) (c : Str) (fs : List (Str × D)) (cls : Value) (dct : Option Addr) : Prop :=
  ∃ Ca, C.cl c = some Ca ∧ cls = .ref Ca ∧ ((fs = [] ∧ dct = none) ∨ ∃ a vs, dct = some a ∧ H a = some (.xd vs) ∧ vs.map (·.1) = fs.map (·.1) ∧ RepL C F (vs.map (·.2)) (fs.map (·.2)))

variable {C : Cfg}
/-- what a result asks of what follows -/
def RD (C : Cfg) (W : WX) (F P : Hp) (Lk : Lock) (σ : L2.St) {α : Type} (x : Res α) (post : α → DL.Env → Prop) : Prop := match x with
  | .ok a r => post a r
  | .exc c fs => ∀ cls dct F' H', Ext F F' → Stt C F' P Lk [] H' → ExcO C F' H' c fs cls dct → W cls dct σ H'
  | .stk => False
section
variable {W : WX} {F F' P P' H : Hp} {Lk : Lock} {σ : L2.St} {α β : Type}
theorem RD.bind {x : Res α} {k : α → DL.Env → Res β} {post : β → DL.Env → Prop} (h : RD C W F P Lk σ (x.bind k) post) : RD C W F P Lk σ x fun a r => RD C W F P Lk σ (k a r) post := by
  cases x with
  | ok a r => exact h
  | exc c fs => exact h
  | stk => exact h
theorem RD.mono {x : Res α} {p q : α → DL.Env → Prop} (h : RD C W F P Lk σ x p) (k : ∀ a r, p a r → q a r) : RD C W F P Lk σ x q := by
  cases x with
  | ok a r => exact k _ _ h
  | exc c fs => exact h
  | stk => exact h
theorem Stt.subP {L : List Cell} (h : Stt C F P' Lk L H) (e : Ext P P') : Stt C F P Lk L H := by
  obtain ⟨g, og, ng, dg⟩ := h.ow
  refine ⟨h.le, e.trans h.pe, fun a o q => h.dj a o (e _ _ q), h.ld, g, og, ng, fun a ha => ⟨(dg a ha).1, ?_⟩⟩
  cases q : P a with
  | none => rfl
  | some o => have := (dg a ha).2; rw [e _ _ q] at this; cases this
theorem RD.ext {x : Res α} {p : α → DL.Env → Prop} (e : Ext F F') (eP : Ext P P') (h : RD C W F P Lk σ x p) : RD C W F' P' Lk σ x p := by
  cases x with
  | ok a r => exact h
  | exc c fs => exact fun cls dct G H' g s x => h cls dct G H' (e.trans g) (s.subP eP) x
  | stk => exact h
theorem RD.no {x : Res α} {p : α → DL.Env → Prop} (h : RD C (fun _ _ _ _ => False) F P Lk σ x p) (nx : ∀ c fs, x ≠ .exc c fs) : ∃ a r, x = .ok a r ∧ p a r := by
  cases x with
  | ok a r => exact ⟨a, r, rfl, h⟩
  | exc c fs => exact absurd rfl (nx c fs)
  | stk => exact h.elim
end

/-- the reading of an expression that computes f; its value owned as o -/
def tD (C : Cfg) (W : WX) (G : List O) (f : SE) (o : O) : TE := fun σ H Q => ∃ F P Lk r, EnvX C [] F P Lk G r σ H ∧
  RD C W F P Lk σ (f r) fun d r' => ∀ v F' H', Ext F F' → EnvX C [(o, v, d)] F' P Lk G r' σ H' → Q v H'
def tDT (C : Cfg) (W : WX) (G : List O) (f : ST) : TT := fun σ H Q => ∃ F P Lk r, EnvX C [] F P Lk G r σ H ∧
  RD C W F P Lk σ (f r) fun b r' => ∀ F' H', Ext F F' → EnvX C [] F' P Lk G r' σ H' → Q b H'
/-- several frozen values -/
def tDA (C : Cfg) (W : WX) (G : List O) (f : SA) : TA := fun σ H Q => ∃ F P Lk r, EnvX C [] F P Lk G r σ H ∧
  RD C W F P Lk σ (f r) fun ds r' => ∀ vs F' H', Ext F F' → RepL C F' vs ds → EnvX C [] F' P Lk G r' σ H' → Q vs H'

section
variable {X : Cx} {W : WX} {G : List O} {e a b : Expr} {es : List Expr} {pos : Pos} {F F' P H : Hp} {Lk : Lock} {r : DL.Env} {σ : L2.St}
theorem PE_weak {t t' : TE} (h : PE X e t) (k : ∀ σ H Q, t' σ H Q → t σ H Q) : PE X e t' := ⟨fun pins s σ H Q I h' => h.run pins s σ H Q I (k _ _ _ h')⟩
theorem PT_weak {t t' : TT} (h : PT X e t) (k : ∀ σ H Q, t' σ H Q → t σ H Q) : PT X e t' := ⟨fun pins s σ H Q I h' => h.run pins s σ H Q I (k _ _ _ h')⟩
theorem PW_weak {t t' : TT} (h : PW X e t) (k : ∀ σ H Q, t' σ H Q → t σ H Q) : PW X e t' := ⟨fun wh pins s σ H Q I h' => h.run wh pins s σ H Q I (k _ _ _ h')⟩
theorem PA_weak {t t' : TA} (h : PA X es t) (k : ∀ σ H Q, t' σ H Q → t σ H Q) : PA X es t' := ⟨fun pos pins s σ H Q I h' => h.run pos pins s σ H Q I (k _ _ _ h')⟩

theorem EnvX.rep {v : V} {d : D} {T : List Cell} (h : EnvX C ((.z, v, d) :: T) F P Lk G r σ H) : Rep C F v d ∧ EnvX C T F P Lk G r σ H := by
  obtain ⟨L, e, s⟩ := h
  exact ⟨s.rep, L, e, s.tail⟩
theorem EnvX.zcons {v : V} {d : D} {T : List Cell} (q : Rep C F v d) (h : EnvX C T F P Lk G r σ H) : EnvX C ((.z, v, d) :: T) F P Lk G r σ H := by
  obtain ⟨L, e, s⟩ := h
  exact ⟨L, e, s.zcons q⟩
theorem EnvX.park {T : List Cell} (h : EnvX C T F P Lk G r σ H) : ∃ P', EnvX C [] F P' Lk G r σ H ∧ Ext P P' ∧ ∀ (F2 H2 : Hp) (Lk2 : Lock) (T2 : List Cell) (G2 : List O) (r2 : DL.Env) (σ2 : L2.St), Ext F F2 → EnvX C T2 F2 P' Lk2 G2 r2 σ2 H2 → EnvX C (T ++ T2) F2 P Lk2 G2 r2 σ2 H2 := by
  obtain ⟨L, e, s⟩ := h
  obtain ⟨P', s', ep, k⟩ := s.park
  refine ⟨P', ⟨L, e, s'⟩, ep, fun F2 H2 Lk2 T2 G2 r2 σ2 x ⟨L2, e2, s2⟩ => ⟨L2, e2, ?_⟩⟩
  rw [List.append_assoc]; exact k _ _ _ _ x s2
end
end DL
set_option Elab.async false
set_option linter.all false
set_option autoImplicit false
set_option maxHeartbeats 1000000
/-! the data layer, part 2: expressions -/
namespace DL
open PySem PySem.Spec PyProof.Rows L2

/-! ### what computes -/
def opt {α : Type} (o : Option α) (r : DL.Env) : Res α := match o with
  | some a => .ok a r
  | none => .stk
def eVar (i : Nat) : SE := fun r => match r[i]? with
  | some (some d) => .ok d r
  | _ => .stk
def eC (d : D) : SE := fun r => .ok d r
def eStk : SE := fun _ => .stk
def e1 (g : D → Option D) (f : SE) : SE := fun r => (f r).bind fun x r1 => opt (g x) r1
def e2 (g : D → D → Option D) (f h : SE) : SE := fun r => (f r).bind fun x r1 => (h r1).bind fun y r2 => opt (g x y) r2
def eIf (t : ST) (f h : SE) : SE := fun r => (t r).bind fun b r1 => if b = true then f r1 else h r1
def aNil : SA := fun r => .ok [] r
def aCons (f : SE) (k : SA) : SA := fun r => (f r).bind fun x r1 => (k r1).bind fun xs r2 => .ok (x :: xs) r2
def eA (g : List D → Option D) (k : SA) : SE := fun r => (k r).bind fun xs r1 => opt (g xs) r1
def truth : D → Option Bool
  | .non => some false
  | .bl b => some b
  | .int i => some (i != 0)
  | .str x => if x.length ≤ sizeLine then some ((x.length : Int) != 0) else none
  | .lst xs => some (!xs.isEmpty)
  | .tup xs => some (!xs.isEmpty)
  | .ktup xs => some (!xs.isEmpty)
  | .klst xs => some (!xs.isEmpty)
  | _ => none
def tE (f : SE) : ST := fun r => (f r).bind fun d r1 => opt (truth d) r1
def tAnd (t u : ST) : ST := fun r => (t r).bind fun b r1 => if b = true then u r1 else .ok false r1
def tOr (t u : ST) : ST := fun r => (t r).bind fun b r1 => if b = true then .ok true r1 else u r1
def tNot (t : ST) : ST := fun r => (t r).bind fun b r1 => .ok (!b) r1
def boolD : D → Option Bool
  | .bl b => some b
  | _ => none
/-- and, or of values that are bools -/
def eAnd (f h : SE) : SE := fun r => (f r).bind fun x r1 => match x with
  | .bl true => h r1
  | .bl false => .ok (.bl false) r1
  | _ => .stk
def eOr (f h : SE) : SE := fun r => (f r).bind fun x r1 => match x with
  | .bl false => h r1
  | .bl true => .ok (.bl true) r1
  | _ => .stk
def eNot (f : SE) : SE := fun r => (f r).bind fun x r1 => opt ((truth x).map fun b => .bl (!b)) r1

variable {C : Cfg}
section
variable {X : Cx} {W : WX} {G : List O} {e a b c : Expr} {es : List Expr} {pos : Pos} {F F' P H : Hp} {Lk : Lock} {r : DL.Env} {σ : L2.St}

theorem EnvR.get {L : List Cell} (h : EnvR G r σ L) {i : Nat} {d : D} {o : O} (e : r[i]? = some (some d)) (g : G[i]? = some o) : ∃ v, σ[i]? = some (some v) ∧ (o, v, d) ∈ L := by
  induction h generalizing i with
  | nil => simp at e
  | skip h ih =>
    cases i with
    | zero => simp at e
    | succ i =>
      obtain ⟨v, h1, h2⟩ := ih (i := i) (by simpa using e) (by simpa using g)
      exact ⟨v, by simpa using h1, h2⟩
  | «have» h ih =>
    cases i with
    | zero =>
      simp at e g
      subst e g
      exact ⟨_, rfl, List.mem_cons_self⟩
    | succ i =>
      obtain ⟨v, h1, h2⟩ := ih (i := i) (by simpa using e) (by simpa using g)
      exact ⟨v, by simpa using h1, List.mem_cons_of_mem _ h2⟩

theorem de_var {i : Nat} {x : Str} (hG : G[i]? = some .z) (hN : X.N[i]? = some x) (hv : Vis X.env.scope x) (hd : (x == ("__debug__" : Str)) = false := by decide) (hcd : (x == ("__classdict__" : Str)) = false := by decide) :
    PE X (.Name x pos) (tD C W G (eVar i) .z) := by
  refine PE_weak (pe_var hN hv hd hcd) fun σ H Q h => ?_
  obtain ⟨F, P, Lk, r, ⟨L, E, S⟩, h⟩ := h
  unfold eVar at h
  split at h
  · rename_i d hd
    obtain ⟨v, h1, h2⟩ := E.get hd hG
    exact ⟨v, h1, h v F H (Ext.refl F) ⟨L, E, S.zcons (S.rep_mem h2)⟩⟩
  · exact h.elim

theorem de_c {v : V} {d : D} (h : PE X e (tC v)) (hr : ∀ F, Rep C F v d) : PE X e (tD C W G (eC d) .z) := by
  refine PE_weak h fun σ H Q h => ?_
  obtain ⟨F, P, Lk, r, E, h⟩ := h
  exact h v F H (Ext.refl F) (E.zcons (hr F))
theorem de_int {i j} : PE X (.Constant (.int i) j pos) (tD C W G (eC (.int i)) .z) := de_c pe_int fun _ => .int _
theorem de_bl {i j} : PE X (.Constant (.bool i) j pos) (tD C W G (eC (.bl i)) .z) := de_c pe_bl fun _ => .bl _
theorem de_str {i j} : PE X (.Constant (.str i) j pos) (tD C W G (eC (.str i)) .z) := de_c pe_str fun _ => .str _
theorem de_non {j} : PE X (.Constant .none j pos) (tD C W G (eC .non) .z) := de_c pe_non fun _ => .non

/-- an expression that is never reached -/
theorem de_stk : PE X e (tD C W G eStk .z) := ⟨fun pins s σ H Q I h => by
  obtain ⟨F, P, Lk, r, E, h⟩ := h
  exact h.elim⟩

/-! ### operators, by values -/
/-- a two-place operation -/
def rO2 (C : Cfg) (g : D → D → Option D) (o : O) : R2 := fun x y H Q => ∃ F P Lk L dx dy dz, Stt C F P Lk L H ∧ Rep C F x dx ∧ Rep C F y dy ∧ g dx dy = some dz ∧
  ∀ w F' H', Ext F F' → Stt C F' P Lk ((o, w, dz) :: L) H' → Q w H'
def rO1 (C : Cfg) (g : D → Option D) (o : O) : V → Hp → VK → Prop := fun x H Q => ∃ F P Lk L dx dz, Stt C F P Lk L H ∧ Rep C F x dx ∧ g dx = some dz ∧
  ∀ w F' H', Ext F F' → Stt C F' P Lk ((o, w, dz) :: L) H' → Q w H'
def rON (C : Cfg) (g : List D → Option D) (o : O) : List V → Hp → VK → Prop := fun xs H Q => ∃ F P Lk L ds dz, Stt C F P Lk L H ∧ RepL C F xs ds ∧ g ds = some dz ∧
  ∀ w F' H', Ext F F' → Stt C F' P Lk ((o, w, dz) :: L) H' → Q w H'

theorem RD_opt {α : Type} {o : Option α} {post : α → DL.Env → Prop} (h : RD C W F P Lk σ (opt o r) post) : ∃ a, o = some a ∧ post a r := by
  cases o with
  | none => exact h.elim
  | some a => exact ⟨a, rfl, h⟩

theorem tD2 {g : D → D → Option D} {o : O} {f h : SE} {ta tb : TE} (ka : ∀ σ H Q, tD C W G f .z σ H Q → ta σ H Q) (kb : ∀ σ H Q, tD C W G h .z σ H Q → tb σ H Q) {Q : VK}
    (q : tD C W G (e2 g f h) o σ H Q) : ta σ H fun x H1 => tb σ H1 fun y H2 => rO2 C g o x y H2 Q := by
  obtain ⟨F, P, Lk, r, E, q⟩ := q
  refine ka _ _ _ ⟨F, P, Lk, r, E, (RD.bind q).mono fun dx r1 q1 x F1 H1 x1 E0 => ?_⟩
  obtain ⟨R1, E1⟩ := E0.rep
  clear E0
  refine kb _ _ _ ⟨F1, P, Lk, r1, E1, (RD.bind (q1.ext x1 (Ext.refl P))).mono fun dy r2 q2 y F2 H2 x2 E2 => ?_⟩
  obtain ⟨dz, e3, q3⟩ := RD_opt q2
  obtain ⟨R2, L, E2, S2⟩ := E2.rep
  exact ⟨F2, P, Lk, L, dx, dy, dz, S2, R1.mono x2, R2, e3, fun w F' H' x' S' => q3 w F' H' ((x1.trans x2).trans x') ⟨L, E2, S'⟩⟩
theorem de_bin {op : Operator} {g : D → D → Option D} {o : O} {f h : SE} (ho : OpR X (binaryOp op) (rO2 C g o)) (ha : PE X a (tD C W G f .z)) (hb : PE X b (tD C W G h .z)) : PE X (.BinOp a op b pos) (tD C W G (e2 g f h) o) :=
  PE_weak (pe_op ho ha hb) fun _ _ _ q => tD2 (fun _ _ _ h => h) (fun _ _ _ h => h) q
theorem de_cmp {op : CmpOp} {g : D → D → Option D} {f h : SE} (ho : OpR X (compareOp op) (rO2 C g .z)) (ha : PE X a (tD C W G f .z)) (hb : PE X b (tD C W G h .z)) (hm : behindInMarks op b = false) : PE X (.Compare a [op] [b] pos) (tD C W G (e2 g f h) .z) :=
  PE_weak (pe_cmpR ho ha hb hm) fun _ _ _ q => tD2 (fun _ _ _ h => h) (fun _ _ _ h => h) q
theorem de_un {op : UnaryOp} {g : D → Option D} {o : O} {f : SE} (ho : UnR X (unaryOp op) (rO1 C g o)) (ha : PE X a (tD C W G f .z)) : PE X (.UnaryOp op a pos) (tD C W G (e1 g f) o) := by
  refine PE_weak (pe_un ho ha) fun σ H Q q => ?_
  obtain ⟨F, P, Lk, r, E, q⟩ := q
  refine ⟨F, P, Lk, r, E, (RD.bind q).mono fun dx r1 q1 x F1 H1 x1 E1 => ?_⟩
  obtain ⟨R1, L, E1, S1⟩ := E1.rep
  obtain ⟨dz, e3, q3⟩ := RD_opt q1
  exact ⟨F1, P, Lk, L, dx, dz, S1, R1, e3, fun w F' H' x' S' => q3 w F' H' (x1.trans x') ⟨L, E1, S'⟩⟩

/-! ### arguments -/
theorem da_nil : PA X [] (tDA C W G aNil) := by
  refine PA_weak pa_nil fun σ H Q q => ?_
  obtain ⟨F, P, Lk, r, E, q⟩ := q
  exact q [] F H (Ext.refl F) .nil E
theorem da_cons {f : SE} {k : SA} (ha : PE X e (tD C W G f .z)) (hr : PA X es (tDA C W G k)) (hs : starEach (e :: es) X.env = (false, eval e X.env) :: starEach es X.env := by rfl) : PA X (e :: es) (tDA C W G (aCons f k)) := by
  refine PA_weak (pa_cons ha hr hs) fun σ H Q q => ?_
  obtain ⟨F, P, Lk, r, E, q⟩ := q
  refine ⟨F, P, Lk, r, E, (RD.bind q).mono fun dx r1 q1 x F1 H1 x1 E0 => ?_⟩
  obtain ⟨R1, E1⟩ := E0.rep
  clear E0
  refine ⟨F1, P, Lk, r1, E1, (RD.bind (q1.ext x1 (Ext.refl P))).mono fun dy r2 q2 y F2 H2 x2 R2 E2 => ?_⟩
  exact q2 _ F2 H2 (x1.trans x2) (.cons (R1.mono x2) R2) E2
theorem tDN {g : List D → Option D} {o : O} {k : SA} {t : TA} (ka : ∀ σ H Q, tDA C W G k σ H Q → t σ H Q) {Q : VK} (q : tD C W G (eA g k) o σ H Q) : t σ H fun xs H1 => rON C g o xs H1 Q := by
  obtain ⟨F, P, Lk, r, E, q⟩ := q
  refine ka _ _ _ ⟨F, P, Lk, r, E, (RD.bind q).mono fun ds r1 q1 xs F1 H1 x1 R1 E1 => ?_⟩
  obtain ⟨dz, e3, q3⟩ := RD_opt q1
  obtain ⟨L, E1, S1⟩ := E1
  exact ⟨F1, P, Lk, L, ds, dz, S1, R1, e3, fun w F' H' x' S' => q3 w F' H' (x1.trans x') ⟨L, E1, S'⟩⟩
/-- f(e, ..), f a built-in function; T(e, ..), a built-in type -/
theorem de_callB {x : Str} {id : String} {p : Pos} {g : List D → Option D} {o : O} {k : SA} (hc : CallR X (.builtin id) (rON C g o)) (hg : Gl X x) (hm : X.mg x = none) (hv : bootBuiltins x = some (.builtin id)) (ha : PA X (e :: es) (tDA C W G k)) (hn : x ≠ "__name__" := by decide) (hdb : (x == ("__debug__" : Str)) = false := by decide)
    (he : starEach (e :: es) X.env = (false, eval e X.env) :: starEach es X.env := by rfl) (hpl : (backTo pos (starEach es X.env)).any (·.1) = false := by rfl) : PE X (.Call (.Name x p) (e :: es) [] pos) (tD C W G (eA g k) o) :=
  PE_weak (pe_callB hc hg hm hv ha hn hdb he hpl) fun _ _ _ q => tDN (fun _ _ _ h => h) q
theorem de_callTy {x : Str} {T : String} {p : Pos} {g : List D → Option D} {o : O} {k : SA} (hc : CallR X (.type T) (rON C g o)) (hg : Gl X x) (hm : X.mg x = none) (hv : bootBuiltins x = some (.type T)) (ha : PA X (e :: es) (tDA C W G k)) (hn : x ≠ "__name__" := by decide) (hdb : (x == ("__debug__" : Str)) = false := by decide)
    (he : starEach (e :: es) X.env = (false, eval e X.env) :: starEach es X.env := by rfl) (hpl : (backTo pos (starEach es X.env)).any (·.1) = false := by rfl) : PE X (.Call (.Name x p) (e :: es) [] pos) (tD C W G (eA g k) o) :=
  PE_weak (pe_callTy hc hg hm hv ha hn hdb he hpl) fun _ _ _ q => tDN (fun _ _ _ h => h) q

/-! ### displays -/
def mkTup : List D → Option D := fun xs => if xs.length ≤ sizeLine then some (.tup xs) else none
def mkLst : List D → Option D := fun xs => if xs.length ≤ sizeLine then some (.lst xs) else none
theorem de_tup {x1 : Nat} {k : SA} (h : PA X es (tDA C W G k)) : PE X (.Tuple es x1 pos) (tD C W G (eA mkTup k) .z) := by
  refine PE_weak (pe_tup h) fun σ H Q q => ?_
  obtain ⟨F, P, Lk, r, E, q⟩ := q
  refine ⟨F, P, Lk, r, E, (RD.bind q).mono fun ds r1 q1 xs F1 H1 x1 R1 E1 => ?_⟩
  obtain ⟨dz, e3, q3⟩ := RD_opt q1
  unfold mkTup at e3
  split at e3
  · rename_i hz
    cases e3
    refine ⟨by rw [R1.length]; exact hz, fun p hp => ?_⟩
    obtain ⟨L, E1, S1⟩ := E1
    obtain ⟨x2, S2⟩ := S1.newZ (o := .tup xs) hp
    exact q3 _ _ _ (x1.trans x2) ⟨L, E1, S2.zcons (.tup upd_same (R1.mono x2))⟩
  · cases e3
theorem de_lst {k : SA} (h : PA X es (tDA C W G k)) : PE X (.List es pos) (tD C W G (eA mkLst k) .z) := by
  refine PE_weak (pe_lst h) fun σ H Q q => ?_
  obtain ⟨F, P, Lk, r, E, q⟩ := q
  refine ⟨F, P, Lk, r, E, (RD.bind q).mono fun ds r1 q1 xs F1 H1 x1 R1 E1 => ?_⟩
  obtain ⟨dz, e3, q3⟩ := RD_opt q1
  unfold mkLst at e3
  split at e3
  · rename_i hz
    cases e3
    refine ⟨by rw [R1.length]; exact hz, fun p hp => ?_⟩
    obtain ⟨L, E1, S1⟩ := E1
    obtain ⟨x2, S2⟩ := S1.newZ (o := .lst xs) hp
    exact q3 _ _ _ (x1.trans x2) ⟨L, E1, S2.zcons (.lst (.inl upd_same) (R1.mono x2))⟩
  · cases e3

/-! ### tests -/
theorem RepL.isEmpty {vs : List V} {ds : List D} (h : RepL C F vs ds) : ds.isEmpty = vs.isEmpty := by
  cases h <;> rfl
theorem truth_ok {L : List Cell} {v : V} {d : D} {k : Bool} (S : Stt C F P Lk L H) (R : Rep C F v d) (e : truth d = some k) : TruV C.K v H k := by
  cases R with
  | non => cases e; rfl
  | bl b => cases e; rfl
  | int i => cases e; rfl
  | str x =>
    have e : (if x.length ≤ sizeLine then some ((x.length : Int) != 0) else none) = some k := e
    split at e
    · rename_i h; cases e; exact ⟨h, rfl⟩
    · cases e
  | opq v => cases e
  | lst h r => cases e; exact .inl ⟨_, .inl (S.rdL h), by rw [r.isEmpty]⟩
  | tup h r => cases e; exact .inr (.inl ⟨_, SqT.of (S.tup h), by rw [r.isEmpty]⟩)
  | ktup h r => cases e; exact .inr (.inl ⟨_, sqT_k h, by rw [r.isEmpty]⟩)
  | klst h r => cases e; exact .inl ⟨_, sqL_k h, by rw [r.isEmpty]⟩
  | dK h r => cases e
  | dT h r => cases e
  | ins h c r => cases e
theorem dt_val {f : SE} (hK : X.K = C.K) (ha : PE X a (tD C W G f .z)) (he : ∀ whole, isTrue a X.env whole = (do let v ← whole; standAt a.pos; holding [v] (truthy v)) := by intro _; rfl) : PT X a (tDT C W G (tE f)) := by
  refine PT_weak (pt_truth ha he) fun σ H Q q => ?_
  obtain ⟨F, P, Lk, r, E, q⟩ := q
  refine ⟨F, P, Lk, r, E, (RD.bind q).mono fun ds r1 q1 x F1 H1 x1 E0 => ?_⟩
  obtain ⟨k, e3, q3⟩ := RD_opt q1
  obtain ⟨R1, L, E1, S1⟩ := E0.rep
  clear E0
  exact ⟨k, by rw [hK]; exact truth_ok S1 R1 e3, q3 F1 H1 x1 ⟨L, E1, S1⟩⟩
def boolT (f : SE) : ST := fun r => (f r).bind fun d r1 => opt (boolD d) r1
theorem dt_cmp {op : CmpOp} {g : D → D → Option D} {f h : SE} (ho : OpR X (compareOp op) (rO2 C g .z)) (ha : PE X a (tD C W G f .z)) (hb : PE X b (tD C W G h .z)) (hm : behindInMarks op b = false) : PT X (.Compare a [op] [b] pos) (tDT C W G (boolT (e2 g f h))) := by
  refine PT_weak (pt_cmpR ho ha hb hm) fun σ H Q q => ?_
  show tOp (rO2 C g .z) (tD C W G f .z) (tD C W G h .z) σ H (fun x H' => ∃ k, x = .bl k ∧ Q k H')
  refine tD2 (fun _ _ _ h => h) (fun _ _ _ h => h) ?_
  obtain ⟨F, P, Lk, r, E, q⟩ := q
  refine ⟨F, P, Lk, r, E, (RD.bind q).mono fun ds r1 q1 x F1 H1 x1 E0 => ?_⟩
  obtain ⟨k, e3, q3⟩ := RD_opt q1
  obtain ⟨R1, L, E1, S1⟩ := E0.rep
  clear E0
  cases R1 with
  | bl b => cases e3; exact ⟨_, rfl, q3 F1 H1 x1 ⟨L, E1, S1⟩⟩
  | _ => cases e3
theorem dw_and1 {t : ST} (ha : PT X a (tDT C W G t)) : PW X (.BoolOp .And [a] pos) (tDT C W G t) := pw_and1 ha
theorem dw_or1 {t : ST} (ha : PT X a (tDT C W G t)) : PW X (.BoolOp .Or [a] pos) (tDT C W G t) := pw_or1 ha
theorem dw_and {t u : ST} (ha : PT X a (tDT C W G t)) (hb : PW X (.BoolOp .And (b :: es) pos) (tDT C W G u)) : PW X (.BoolOp .And (a :: b :: es) pos) (tDT C W G (tAnd t u)) := by
  refine PW_weak (pw_and ha hb) fun σ H Q q => ?_
  obtain ⟨F, P, Lk, r, E, q⟩ := q
  refine ⟨F, P, Lk, r, E, (RD.bind q).mono fun k r1 q1 F1 H1 x1 E1 => ?_⟩
  cases k with
  | true =>
    rw [if_pos rfl] at q1 ⊢
    exact ⟨F1, P, Lk, r1, E1, (q1.ext x1 (Ext.refl P)).mono fun k2 r2 q2 F2 H2 x2 E2 => q2 F2 H2 (x1.trans x2) E2⟩
  | false =>
    rw [if_neg Bool.false_ne_true] at q1 ⊢
    exact q1 F1 H1 x1 E1
theorem dw_or {t u : ST} (ha : PT X a (tDT C W G t)) (hb : PW X (.BoolOp .Or (b :: es) pos) (tDT C W G u)) : PW X (.BoolOp .Or (a :: b :: es) pos) (tDT C W G (tOr t u)) := by
  refine PW_weak (pw_or ha hb) fun σ H Q q => ?_
  obtain ⟨F, P, Lk, r, E, q⟩ := q
  refine ⟨F, P, Lk, r, E, (RD.bind q).mono fun k r1 q1 F1 H1 x1 E1 => ?_⟩
  cases k with
  | true =>
    rw [if_pos rfl] at q1 ⊢
    exact q1 F1 H1 x1 E1
  | false =>
    rw [if_neg Bool.false_ne_true] at q1 ⊢
    exact ⟨F1, P, Lk, r1, E1, (q1.ext x1 (Ext.refl P)).mono fun k2 r2 q2 F2 H2 x2 E2 => q2 F2 H2 (x1.trans x2) E2⟩
theorem dt_not {t : ST} (ha : PT X a (tDT C W G t)) : PT X (.UnaryOp .Not a pos) (tDT C W G (tNot t)) := by
  refine PT_weak (pt_not ha) fun σ H Q q => ?_
  obtain ⟨F, P, Lk, r, E, q⟩ := q
  exact ⟨F, P, Lk, r, E, (RD.bind q).mono fun k r1 q1 F1 H1 x1 E1 => q1 F1 H1 x1 E1⟩
theorem de_if {t : ST} {f h : SE} {o : O} (hc : PT X c (tDT C W G t)) (ha : PE X a (tD C W G f o)) (hb : PE X b (tD C W G h o)) : PE X (.IfExp c a b pos) (tD C W G (eIf t f h) o) := by
  refine PE_weak (pe_ifExp hc ha hb) fun σ H Q q => ?_
  obtain ⟨F, P, Lk, r, E, q⟩ := q
  refine ⟨F, P, Lk, r, E, (RD.bind q).mono fun k r1 q1 F1 H1 x1 E1 => ?_⟩
  cases k with
  | true =>
    rw [if_pos rfl] at q1 ⊢
    exact ⟨F1, P, Lk, r1, E1, (q1.ext x1 (Ext.refl P)).mono fun d r2 q2 v F2 H2 x2 E2 => q2 v F2 H2 (x1.trans x2) E2⟩
  | false =>
    rw [if_neg Bool.false_ne_true] at q1 ⊢
    exact ⟨F1, P, Lk, r1, E1, (q1.ext x1 (Ext.refl P)).mono fun d r2 q2 v F2 H2 x2 E2 => q2 v F2 H2 (x1.trans x2) E2⟩
theorem de_one {op : BoolOp} {f : SE} (ha : PE X a (tD C W G f .z)) : PE X (.BoolOp op [a] pos) (tD C W G f .z) := pe_one ha
theorem de_and {f h : SE} (ha : PE X a (tD C W G f .z)) (hb : PE X (.BoolOp .And (b :: es) pos) (tD C W G h .z)) : PE X (.BoolOp .And (a :: b :: es) pos) (tD C W G (eAnd f h) .z) := by
  refine PE_weak (pe_and ha hb) fun σ H Q q => ?_
  obtain ⟨F, P, Lk, r, E, q⟩ := q
  refine ⟨F, P, Lk, r, E, (RD.bind q).mono fun k r1 q1 v F1 H1 x1 E0 => ?_⟩
  obtain ⟨R1, E1⟩ := E0.rep
  clear E0
  cases R1 with
  | bl b =>
    refine ⟨b, rfl, ?_⟩
    cases b with
    | true =>
      rw [if_pos rfl]
      exact ⟨F1, P, Lk, r1, E1, (q1.ext x1 (Ext.refl P)).mono fun d r2 q2 v F2 H2 x2 E2 => q2 v F2 H2 (x1.trans x2) E2⟩
    | false =>
      rw [if_neg Bool.false_ne_true]
      exact q1 _ F1 H1 x1 (E1.zcons (.bl false))
  | _ => exact q1.elim
theorem de_or {f h : SE} (ha : PE X a (tD C W G f .z)) (hb : PE X (.BoolOp .Or (b :: es) pos) (tD C W G h .z)) : PE X (.BoolOp .Or (a :: b :: es) pos) (tD C W G (eOr f h) .z) := by
  refine PE_weak (pe_or ha hb) fun σ H Q q => ?_
  obtain ⟨F, P, Lk, r, E, q⟩ := q
  refine ⟨F, P, Lk, r, E, (RD.bind q).mono fun k r1 q1 v F1 H1 x1 E0 => ?_⟩
  obtain ⟨R1, E1⟩ := E0.rep
  clear E0
  cases R1 with
  | bl b =>
    refine ⟨b, rfl, ?_⟩
    cases b with
    | true =>
      rw [if_pos rfl]
      exact q1 _ F1 H1 x1 (E1.zcons (.bl true))
    | false =>
      rw [if_neg Bool.false_ne_true]
      exact ⟨F1, P, Lk, r1, E1, (q1.ext x1 (Ext.refl P)).mono fun d r2 q2 v F2 H2 x2 E2 => q2 v F2 H2 (x1.trans x2) E2⟩
  | _ => exact q1.elim
theorem UnaryNot {f : SE} (hK : X.K = C.K) (ha : PE X a (tD C W G f .z)) : PE X (.UnaryOp .Not a pos) (tD C W G (eNot f) .z) := by
  refine ⟨fun pins s σ H Q I h => ?_⟩
  obtain ⟨F, P, Lk, r, E, q⟩ := h
  refine UnaryOp_ (thn (ha.run pins s σ H (fun x H1 => ∃ k, TruV X.K x H1 k ∧ Q (.bl (!k)) H1) I ⟨F, P, Lk, r, E, (RD.bind q).mono fun d r1 q1 v F1 H1 x1 E1 => ?_⟩) fun v s1 ⟨x, H1, I1, r1, k, tk, q1⟩ => ?_)
  · obtain ⟨dz, e3, q3⟩ := RD_opt q1
    obtain ⟨R1, L, E1, S1⟩ := E1.rep
    cases hb : truth d with
    | none => rw [hb] at e3; cases e3
    | some k =>
      rw [hb] at e3
      cases e3
      exact ⟨k, by rw [hK]; exact truth_ok S1 R1 hb, q3 _ F1 H1 x1 ⟨L, E1, S1.zcons (.bl _)⟩⟩
  · exact not_of (thn (tru_ok pins s1 σ H1 x v (fun b H' => b = k ∧ Q (.bl (!k)) H') I1 r1 ⟨k, tk, rfl, q1⟩) fun b s2 ⟨H2, I2, e2, q2⟩ => by
      subst e2
      exact ⟨.bl (!b), H2, I2, rfl, q2⟩)
end
end DL
set_option Elab.async false
set_option linter.all false
set_option autoImplicit false
set_option maxHeartbeats 1000000
/-! the data layer, part 3: statements, defs, calls -/
namespace DL
open PySem PySem.Spec PyProof.Rows L2

inductive Fl where
  | nx (r : DL.Env) | rt (d : D) (r : DL.Env) | exc (c : Str) (fs : List (Str × D)) | stk
def RF (C : Cfg) (W : WX) (F P : Hp) (Lk : Lock) (σ : L2.St) (x : Fl) (nx : DL.Env → Prop) (rt : D → DL.Env → Prop) : Prop := match x with
  | .nx r => nx r
  | .rt d r => rt d r
  | .exc c fs => ∀ cls dct F' H', Ext F F' → Stt C F' P Lk [] H' → ExcO C F' H' c fs cls dct → W cls dct σ H'
  | .stk => False
abbrev SS := DL.Env → Fl
def Res.fl {α : Type} (x : Res α) (k : α → DL.Env → Fl) : Fl := match x with
  | .ok a r => k a r
  | .exc c fs => .exc c fs
  | .stk => .stk
def Fl.seq (x : Fl) (k : DL.Env → Fl) : Fl := match x with
  | .nx r => k r
  | y => y

def maskE : List Bool → DL.Env → DL.Env
  | [], _ => []
  | _ :: _, [] => []
  | b :: m, x :: r => (if b = true then x else none) :: maskE m r
def agree : List Bool → List O → List O → Bool
  | [], _, [] => true
  | b :: m, g :: G, h :: K => (!b || decide (g = h)) && agree m G K
  | _, _, _ => false
def Keep (pm : List Nat) (σ σ' : L2.St) : Prop := ∀ i ∈ pm, σ'[i]? = σ[i]?

variable {C : Cfg}
/-- what stands at a return: the value, and the parameters that are handed back -/
def RetX (C : Cfg) (F P : Hp) (Lk : Lock) (m : List Bool) (Gs : List O) (o : O) (v : V) (d : D) (r : DL.Env) (σ : L2.St) (H : Hp) : Prop :=
  ∃ L, EnvR Gs (maskE m r) (σ.take m.length) L ∧ Stt C F P Lk ((o, v, d) :: L) H
/-- how a def returns: the mask of the parameters that go back, their shapes, the value's shape; the slots that stay -/
structure Rt where
  m : List Bool
  Gs : List O
  o : O
  pm : List Nat
def tDS (C : Cfg) (W : WX) (R : Rt) (G : List O) (f : SS) (G' : List O) : TS := fun D σ H => ∃ F P Lk r, EnvX C [] F P Lk G r σ H ∧
  RF C W F P Lk σ (f r) (fun r' => ∀ σ' F' H', Ext F F' → Keep R.pm σ σ' → EnvX C [] F' P Lk G' r' σ' H' → D.nx σ' H')
    (fun d r' => ∀ v σ' F' H', Ext F F' → Keep R.pm σ σ' → RetX C F' P Lk R.m R.Gs R.o v d r' σ' H' → D.rt v H')

section
variable {W : WX} {F F' P P' H : Hp} {Lk : Lock} {σ σ' : L2.St} {pm : List Nat}
theorem Keep.refl : Keep pm σ σ := fun _ _ => rfl
theorem Keep.trans {σ2 : L2.St} (a : Keep pm σ σ') (b : Keep pm σ' σ2) : Keep pm σ σ2 := fun i h => (b i h).trans (a i h)
theorem Keep.set {i : Nat} {x : Option V} (h : i ∉ pm) : Keep pm σ (σ.set i x) := fun j hj => by
  rw [List.getElem?_set_ne]
  rintro rfl
  exact h hj
theorem RF.mono {x : Fl} {n n' : DL.Env → Prop} {t t' : D → DL.Env → Prop} (h : RF C W F P Lk σ x n t) (k : ∀ r, n r → n' r) (l : ∀ d r, t d r → t' d r) : RF C W F P Lk σ x n' t' := by
  cases x with
  | nx r => exact k _ h
  | rt d r => exact l _ _ h
  | exc c fs => exact h
  | stk => exact h
theorem RF.seq {x : Fl} {k : DL.Env → Fl} {n : DL.Env → Prop} {t : D → DL.Env → Prop} (h : RF C W F P Lk σ (x.seq k) n t) : RF C W F P Lk σ x (fun r => RF C W F P Lk σ (k r) n t) t := by
  cases x with
  | nx r => exact h
  | rt d r => exact h
  | exc c fs => exact h
  | stk => exact h
theorem RF.fl {α : Type} {x : Res α} {k : α → DL.Env → Fl} {n : DL.Env → Prop} {t : D → DL.Env → Prop} (h : RF C W F P Lk σ (x.fl k) n t) : RD C W F P Lk σ x fun a r => RF C W F P Lk σ (k a r) n t := by
  cases x with
  | ok a r => exact h
  | exc c fs => exact h
  | stk => exact h
/-- the wish about exceptions does not lean on the slots -/
def WK (W : WX) (pm : List Nat) : Prop := ∀ c d σ σ' H, Keep pm σ σ' → W c d σ H → W c d σ' H
theorem RF.ext {x : Fl} {n : DL.Env → Prop} {t : D → DL.Env → Prop} (hW : WK W pm) (e : Ext F F') (eP : Ext P P') (kp : Keep pm σ σ') (h : RF C W F P Lk σ x n t) : RF C W F' P' Lk σ' x n t := by
  cases x with
  | nx r => exact h
  | rt d r => exact h
  | exc c fs => exact fun cls dct G H' g s x => hW _ _ _ _ _ kp (h cls dct G H' (e.trans g) (s.subP eP) x)
  | stk => exact h
end

section
variable {G G' : List O} {r : DL.Env} {σ : L2.St} {L : List Cell} {F P H : Hp} {Lk : Lock}
theorem EnvR.len (h : EnvR G r σ L) : G.length = r.length ∧ σ.length = r.length := by
  induction h with
  | nil => exact ⟨rfl, rfl⟩
  | skip h ih => simp [ih.1, ih.2]
  | «have» h ih => simp [ih.1, ih.2]
/-- the slot i thrown away -/
theorem EnvR.clear (h : EnvR G r σ L) (i : Nat) : ∃ L' T, EnvR G (r.set i none) σ L' ∧ L.Perm (T ++ L') := by
  induction h generalizing i with
  | nil => exact ⟨[], [], .nil, .refl _⟩
  | @skip o s G r t L h ih =>
    cases i with
    | zero => exact ⟨L, [], .skip h, .refl _⟩
    | succ i =>
      obtain ⟨L', T, a, b⟩ := ih i
      exact ⟨L', T, .skip a, b⟩
  | @«have» o v d G r t L h ih =>
    cases i with
    | zero => exact ⟨L, [(o, v, d)], .skip h, .refl _⟩
    | succ i =>
      obtain ⟨L', T, a, b⟩ := ih i
      refine ⟨(o, v, d) :: L', T, .have a, ?_⟩
      exact (b.cons (o, v, d)).trans (List.perm_middle.symm)
/-- an empty slot filled -/
theorem EnvR.fill (h : EnvR G r σ L) {i : Nat} {o : O} {v : V} {d : D} (hr : r[i]? = some none) : EnvR (G.set i o) (r.set i (some d)) (σ.set i (some v)) L ∨ ∃ L', EnvR (G.set i o) (r.set i (some d)) (σ.set i (some v)) L' ∧ L'.Perm ((o, v, d) :: L) := by
  induction h generalizing i with
  | nil => simp at hr
  | @skip o' s G r t L h ih =>
    cases i with
    | zero => exact .inr ⟨_, .have h, .refl _⟩
    | succ i =>
      rcases ih (i := i) (by simpa using hr) with a | ⟨L', a, b⟩
      · exact .inl (.skip a)
      · exact .inr ⟨L', .skip a, b⟩
  | @«have» o' v' d' G r t L h ih =>
    cases i with
    | zero => simp at hr
    | succ i =>
      rcases ih (i := i) (by simpa using hr) with a | ⟨L', a, b⟩
      · exact .inl (.have a)
      · exact .inr ⟨_, .have a, (b.cons _).trans (List.Perm.swap _ _ _)⟩
theorem EnvR.put (h : EnvR G r σ L) {i : Nat} (hi : i < r.length) (o : O) (v : V) (d : D) : ∃ L' T, EnvR (G.set i o) (r.set i (some d)) (σ.set i (some v)) L' ∧ ((o, v, d) :: L).Perm (T ++ L') := by
  obtain ⟨L1, T, a, b⟩ := h.clear i
  have e : (r.set i none)[i]? = some none := by simp [hi]
  rcases a.fill (o := o) (v := v) (d := d) e with q | ⟨L', q, p⟩
  · rw [List.set_set] at q
    exact ⟨L1, (o, v, d) :: T, q, b.cons _⟩
  · rw [List.set_set] at q
    refine ⟨L', T, q, ?_⟩
    exact (b.cons _).trans ((List.perm_middle.symm).trans (p.symm.append_left T))
theorem EnvX.put {i : Nat} {o : O} {v : V} {d : D} (h : EnvX C [(o, v, d)] F P Lk G r σ H) (hi : i < r.length) : EnvX C [] F P Lk (G.set i o) (r.set i (some d)) (σ.set i (some v)) H := by
  obtain ⟨L, e, s⟩ := h
  obtain ⟨L', T, a, b⟩ := e.put hi o v d
  exact ⟨L', a, (s.perm b).drop⟩
/-- the owned slot i taken out -/
theorem EnvR.take (h : EnvR G r σ L) {i : Nat} {d : D} {o : O} (e : r[i]? = some (some d)) (g : G[i]? = some o) : ∃ v L', σ[i]? = some (some v) ∧ EnvR G (r.set i none) σ L' ∧ L.Perm ((o, v, d) :: L') := by
  induction h generalizing i with
  | nil => simp at e
  | @skip o s G r t L h ih =>
    cases i with
    | zero => simp at e
    | succ i =>
      obtain ⟨v, L', h1, h2, h3⟩ := ih (i := i) (by simpa using e) (by simpa using g)
      exact ⟨v, L', by simpa using h1, .skip h2, h3⟩
  | @«have» o v d G r t L h ih =>
    cases i with
    | zero =>
      simp at e g
      subst e g
      exact ⟨v, L, rfl, .skip h, .refl _⟩
    | succ i =>
      obtain ⟨v, L', h1, h2, h3⟩ := ih (i := i) (by simpa using e) (by simpa using g)
      exact ⟨v, _, by simpa using h1, .have h2, (h3.cons _).trans (List.Perm.swap _ _ _)⟩
/-- .. and put back -/
theorem EnvR.back (h : EnvR G r σ L) {i : Nat} {o : O} {v : V} (d : D) (hr : r[i]? = some none) (g : G[i]? = some o) (hs : σ[i]? = some (some v)) : ∃ L', EnvR G (r.set i (some d)) σ L' ∧ L'.Perm ((o, v, d) :: L) := by
  induction h generalizing i with
  | nil => simp at hr
  | @skip o' s G r t L h ih =>
    cases i with
    | zero =>
      simp at g hs
      subst g hs
      exact ⟨_, .have h, .refl _⟩
    | succ i =>
      obtain ⟨L', a, b⟩ := ih (i := i) (by simpa using hr) (by simpa using g) (by simpa using hs)
      exact ⟨L', .skip a, b⟩
  | @«have» o' v' d' G r t L h ih =>
    cases i with
    | zero => simp at hr
    | succ i =>
      obtain ⟨L', a, b⟩ := ih (i := i) (by simpa using hr) (by simpa using g) (by simpa using hs)
      exact ⟨_, .have a, (b.cons _).trans (List.Perm.swap _ _ _)⟩
theorem EnvX.take {i : Nat} {d : D} {o : O} {T : List Cell} (h : EnvX C T F P Lk G r σ H) (e : r[i]? = some (some d)) (g : G[i]? = some o) : ∃ v, σ[i]? = some (some v) ∧ EnvX C ((o, v, d) :: T) F P Lk G (r.set i none) σ H := by
  obtain ⟨L, a, s⟩ := h
  obtain ⟨v, L', h1, h2, h3⟩ := a.take e g
  refine ⟨v, h1, L', h2, s.perm ?_⟩
  exact (h3.append_left T).trans List.perm_middle
theorem EnvX.back {i : Nat} {d : D} {o : O} {v : V} {T : List Cell} (h : EnvX C ((o, v, d) :: T) F P Lk G r σ H) (hr : r[i]? = some none) (g : G[i]? = some o) (hs : σ[i]? = some (some v)) : EnvX C T F P Lk G (r.set i (some d)) σ H := by
  obtain ⟨L, a, s⟩ := h
  obtain ⟨L', h1, h2⟩ := a.back d hr g hs
  refine ⟨L', h1, s.perm ?_⟩
  exact (List.perm_middle.symm).trans (h2.symm.append_left T)
theorem EnvX.perm {T T' : List Cell} (h : EnvX C T F P Lk G r σ H) (p : T.Perm T') : EnvX C T' F P Lk G r σ H := by
  obtain ⟨L, a, s⟩ := h
  exact ⟨L, a, s.perm (p.append_right L)⟩
theorem EnvX.drop {x : Cell} {T : List Cell} (h : EnvX C (x :: T) F P Lk G r σ H) : EnvX C T F P Lk G r σ H := by
  obtain ⟨L, a, s⟩ := h
  exact ⟨L, a, s.tail⟩
theorem EnvX.len {T : List Cell} (h : EnvX C T F P Lk G r σ H) : G.length = r.length ∧ σ.length = r.length := by
  obtain ⟨L, a, s⟩ := h
  exact a.len
/-- the slots that go back -/
theorem EnvR.mask (h : EnvR G r σ L) : ∀ {m : List Bool} {Gs : List O}, agree m G Gs = true → ∃ L1 L2, EnvR Gs (maskE m r) (σ.take m.length) L1 ∧ L.Perm (L2 ++ L1) := by
  induction h with
  | nil =>
    intro m Gs a
    cases m with
    | nil => cases Gs with
      | nil => exact ⟨[], [], .nil, .refl _⟩
      | cons _ _ => simp [agree] at a
    | cons b m => cases Gs <;> simp [agree] at a
  | @skip o s G r t L h ih =>
    intro m Gs a
    cases m with
    | nil => cases Gs with
      | nil => exact ⟨[], L, .nil, by simp⟩
      | cons _ _ => simp [agree] at a
    | cons b m =>
      cases Gs with
      | nil => simp [agree] at a
      | cons g Gs =>
        simp only [agree, Bool.and_eq_true] at a
        obtain ⟨L1, L2, q, p⟩ := ih a.2
        refine ⟨L1, L2, ?_, p⟩
        have : maskE (b :: m) (none :: r) = none :: maskE m r := by simp [maskE]
        rw [this]
        exact .skip q
  | @«have» o v d G r t L h ih =>
    intro m Gs a
    cases m with
    | nil => cases Gs with
      | nil => exact ⟨[], (o, v, d) :: L, .nil, by simp⟩
      | cons _ _ => simp [agree] at a
    | cons b m =>
      cases Gs with
      | nil => simp [agree] at a
      | cons g Gs =>
        simp only [agree, Bool.and_eq_true] at a
        obtain ⟨L1, L2, q, p⟩ := ih a.2
        cases b with
        | false =>
          refine ⟨L1, (o, v, d) :: L2, ?_, p.cons _⟩
          have : maskE (false :: m) (some d :: r) = none :: maskE m r := by simp [maskE]
          rw [this]
          exact .skip q
        | true =>
          have eg : o = g := by simpa using a.1
          subst eg
          refine ⟨(o, v, d) :: L1, L2, ?_, (p.cons _).trans List.perm_middle.symm⟩
          have : maskE (true :: m) (some d :: r) = some d :: maskE m r := by simp [maskE]
          rw [this]
          exact .have q
theorem EnvX.ret {R : Rt} {v : V} {d : D} (h : EnvX C [(R.o, v, d)] F P Lk G r σ H) (a : agree R.m G R.Gs = true) : RetX C F P Lk R.m R.Gs R.o v d r σ H := by
  obtain ⟨L, e, s⟩ := h
  obtain ⟨L1, L2, q, p⟩ := e.mask a
  refine ⟨L1, q, ?_⟩
  have s2 : Stt C F P Lk ((R.o, v, d) :: (L2 ++ L1)) H := s.perm (p.cons _)
  exact (s2.perm (List.perm_middle.symm)).drop
def leG : List O → List O → Bool
  | [], [] => true
  | g :: G, h :: K => (decide (h = g) || decide (h = .z)) && leG G K
  | _, _ => false
theorem Stt.freeze1 {o : O} {v : V} {d : D} (h : Stt C F P Lk ((o, v, d) :: L) H) : ∃ F', Ext F F' ∧ Stt C F' P Lk ((.z, v, d) :: L) H := by
  obtain ⟨F', e, q, s⟩ := Stt.freeze (M := [(o, v, d)]) h
  exact ⟨F', e, s.zcons (q _ List.mem_cons_self)⟩
theorem EnvR.le (h : EnvR G r σ L) : ∀ {K : List O} {T : List Cell} {F : Hp}, leG G K = true → Stt C F P Lk (T ++ L) H → ∃ F' L', Ext F F' ∧ EnvR K r σ L' ∧ Stt C F' P Lk (T ++ L') H := by
  induction h with
  | nil =>
    intro K T F k s
    cases K with
    | nil => exact ⟨F, [], Ext.refl _, .nil, s⟩
    | cons _ _ => simp [leG] at k
  | @skip o s' G r t L h ih =>
    intro K T F k s
    cases K with
    | nil => simp [leG] at k
    | cons g K =>
      simp only [leG, Bool.and_eq_true] at k
      obtain ⟨F', L', e, q, s2⟩ := ih k.2 s
      exact ⟨F', L', e, .skip q, s2⟩
  | @«have» o v d G r t L h ih =>
    intro K T F k s
    cases K with
    | nil => simp [leG] at k
    | cons g K =>
      simp only [leG, Bool.and_eq_true, Bool.or_eq_true, decide_eq_true_eq] at k
      have s1 : ∃ F1, Ext F F1 ∧ Stt C F1 P Lk (T ++ (g, v, d) :: L) H := by
        rcases k.1 with e | e
        · subst e; exact ⟨F, Ext.refl _, s⟩
        · subst e
          obtain ⟨F1, e1, s1⟩ := Stt.freeze1 (s.perm List.perm_middle)
          exact ⟨F1, e1, s1.perm List.perm_middle.symm⟩
      obtain ⟨F1, e1, s1⟩ := s1
      have s1' : Stt C F1 P Lk ((T ++ [(g, v, d)]) ++ L) H := by simpa using s1
      obtain ⟨F', L', e, q, s2⟩ := ih k.2 s1'
      exact ⟨F', _, e1.trans e, .have q, by simpa using s2⟩
theorem EnvX.le {K : List O} {T : List Cell} (h : EnvX C T F P Lk G r σ H) (k : leG G K = true) : ∃ F', Ext F F' ∧ EnvX C T F' P Lk K r σ H := by
  obtain ⟨L, e, s⟩ := h
  obtain ⟨F', L', x, q, s2⟩ := e.le k s
  exact ⟨F', x, L', q, s2⟩
end

/-! ### statements -/
def sNx : SS := fun r => .nx r
def sSeq (f g : SS) : SS := fun r => (f r).seq g
def sAsg (i : Nat) (f : SE) : SS := fun r => (f r).fl fun d r1 => .nx (r1.set i (some d))
def sDrop (f : SE) : SS := fun r => (f r).fl fun _ r1 => .nx r1
def sRet (f : SE) : SS := fun r => (f r).fl fun d r1 => .rt d r1
def sIf (t : ST) (f g : SS) : SS := fun r => (t r).fl fun b r1 => if b = true then f r1 else g r1
def sStk : SS := fun _ => .stk
section
variable {X : Cx} {W : WX} {R : Rt} {G G1 G2 G' : List O} {e a b c : Expr} {st : Stmt} {sts : List Stmt} {pos : Pos}
theorem PS_weak {t t' : TS} (h : PS X st t) (k : ∀ D σ H, t' D σ H → t D σ H) : PS X st t' := ⟨fun pins s σ H D I h' => h.run pins s σ H D I (k _ _ _ h')⟩
theorem PSs_weak {t t' : TS} (h : PSs X sts t) (k : ∀ D σ H, t' D σ H → t D σ H) : PSs X sts t' := ⟨fun pins s σ H D I h' => h.run pins s σ H D I (k _ _ _ h')⟩
theorem ds_nil : PSs X [] (tDS C W R G sNx G) := by
  refine PSs_weak pss_nil fun D σ H q => ?_
  obtain ⟨F, P, Lk, r, E, q⟩ := q
  exact q σ F H (Ext.refl F) Keep.refl E
theorem ds_cons {f g : SS} (hW : WK W R.pm) (h1 : PS X st (tDS C W R G f G1)) (h2 : PSs X sts (tDS C W R G1 g G2)) : PSs X (st :: sts) (tDS C W R G (sSeq f g) G2) := by
  refine PSs_weak (pss_cons h1 h2) fun D σ H q => ?_
  obtain ⟨F, P, Lk, r, E, q⟩ := q
  refine ⟨F, P, Lk, r, E, (RF.seq q).mono (fun r1 q1 σ1 F1 H1 x1 k1 E1 => ?_) fun d r1 q1 => q1⟩
  refine ⟨F1, P, Lk, r1, E1, (q1.ext hW x1 (Ext.refl P) k1).mono (fun r2 q2 σ2 F2 H2 x2 k2 E2 => ?_) fun d r2 q2 v σ2 F2 H2 x2 k2 E2 => ?_⟩
  · exact q2 σ2 F2 H2 (x1.trans x2) (k1.trans k2) E2
  · exact q2 v σ2 F2 H2 (x1.trans x2) (k1.trans k2) E2
theorem ds_one {f : SS} (h1 : PS X st (tDS C W R G f G1)) : PSs X [st] (tDS C W R G f G1) := pss_one h1
theorem ds_le {f : SS} (hW : WK W R.pm) (k : leG G G1 = true) (h : PSs X sts (tDS C W R G1 f G')) : PSs X sts (tDS C W R G f G') := by
  refine PSs_weak h fun D σ H q => ?_
  obtain ⟨F, P, Lk, r, E, q⟩ := q
  obtain ⟨F1, x1, E1⟩ := E.le k
  refine ⟨F1, P, Lk, r, E1, (q.ext hW x1 (Ext.refl P) Keep.refl).mono (fun r2 q2 σ2 F2 H2 x2 k2 E2 => ?_) fun d r2 q2 v σ2 F2 H2 x2 k2 E2 => ?_⟩
  · exact q2 σ2 F2 H2 (x1.trans x2) k2 E2
  · exact q2 v σ2 F2 H2 (x1.trans x2) k2 E2
theorem ds_leR {f : SS} (k : leG G1 G2 = true) (h : PSs X sts (tDS C W R G f G1)) : PSs X sts (tDS C W R G f G2) := by
  refine PSs_weak h fun D σ H q => ?_
  obtain ⟨F, P, Lk, r, E, q⟩ := q
  refine ⟨F, P, Lk, r, E, q.mono (fun r1 q1 σ1 F1 H1 x1 k1 E1 => ?_) fun d r1 q1 => q1⟩
  obtain ⟨F2, x2, E2⟩ := E1.le k
  exact q1 σ1 F2 H1 (x1.trans x2) k1 E2
theorem d_le {f : SS} (hW : WK W R.pm) (k : leG G G1 = true) (h : PS X st (tDS C W R G1 f G')) : PS X st (tDS C W R G f G') := by
  refine PS_weak h fun D σ H q => ?_
  obtain ⟨F, P, Lk, r, E, q⟩ := q
  obtain ⟨F1, x1, E1⟩ := E.le k
  refine ⟨F1, P, Lk, r, E1, (q.ext hW x1 (Ext.refl P) Keep.refl).mono (fun r2 q2 σ2 F2 H2 x2 k2 E2 => ?_) fun d r2 q2 v σ2 F2 H2 x2 k2 E2 => ?_⟩
  · exact q2 σ2 F2 H2 (x1.trans x2) k2 E2
  · exact q2 v σ2 F2 H2 (x1.trans x2) k2 E2
theorem d_set {i : Nat} {x : Str} {o : O} {f : SE} {pos' : Pos} (hN : X.N.Nodup) (hi : X.N[i]? = some x) (hx : Loc X.env.scope x) (he : PE X e (tD C W G f o)) (hp : R.pm.contains i = false) (hG : i < G.length)
    (hs : swapsWith e (some (.Name x pos')) pos.line X.env = pure false := by rfl) (hf : X.fn x = true ∨ X.env.scope.names.lookup x = some .local := by first | exact .inl rfl | exact .inr rfl | assumption) :
    PS X (.Assign [.Name x pos'] e pos) (tDS C W R G (sAsg i f) (G.set i o)) := by
  refine PS_weak (ps_set hN hi hx he hs hf) fun D σ H q => ?_
  obtain ⟨F, P, Lk, r, E, q⟩ := q
  refine ⟨F, P, Lk, r, E, (RF.fl q).mono fun d r1 q1 v F1 H1 x1 E1 => ?_⟩
  have hl := E1.len
  exact q1 _ F1 H1 x1 (Keep.set (by simpa using hp)) (E1.put (by omega))
theorem d_drop {o : O} {f : SE} (he : PE X e (tD C W G f o)) (hs : swapsWith e none pos.line X.env = pure false := by rfl) : PS X (.Expr e pos) (tDS C W R G (sDrop f) G) := by
  refine PS_weak (ps_expr he hs) fun D σ H q => ?_
  obtain ⟨F, P, Lk, r, E, q⟩ := q
  refine ⟨F, P, Lk, r, E, (RF.fl q).mono fun d r1 q1 v F1 H1 x1 E1 => ?_⟩
  exact q1 _ F1 H1 x1 Keep.refl E1.drop
theorem d_ret {f : SE} (ha : agree R.m G R.Gs = true) (he : PE X e (tD C W G f R.o)) : PS X (.Return (some e) pos) (tDS C W R G (sRet f) G') := by
  refine PS_weak (ps_ret he) fun D σ H q => ?_
  obtain ⟨F, P, Lk, r, E, q⟩ := q
  refine ⟨F, P, Lk, r, E, (RF.fl q).mono fun d r1 q1 v F1 H1 x1 E1 => ?_⟩
  exact q1 v σ F1 H1 x1 Keep.refl (E1.ret ha)
theorem d_if {t : ST} {f g : SS} {as bs : List Stmt} (hW : WK W R.pm) (hc : PT X c (tDT C W G t)) (ha : PSs X as (tDS C W R G f G1)) (hb : PSs X bs (tDS C W R G g G1)) : PS X (.If c as bs pos) (tDS C W R G (sIf t f g) G1) := by
  refine PS_weak (ps_if hc ha hb) fun D σ H q => ?_
  obtain ⟨F, P, Lk, r, E, q⟩ := q
  refine ⟨F, P, Lk, r, E, (RF.fl q).mono fun b r1 q1 F1 H1 x1 E1 => ?_⟩
  cases b with
  | true =>
    rw [if_pos rfl] at q1 ⊢
    refine ⟨F1, P, Lk, r1, E1, (q1.ext hW x1 (Ext.refl P) Keep.refl).mono (fun r2 q2 σ2 F2 H2 x2 k2 E2 => ?_) fun d r2 q2 v σ2 F2 H2 x2 k2 E2 => ?_⟩
    · exact q2 σ2 F2 H2 (x1.trans x2) k2 E2
    · exact q2 v σ2 F2 H2 (x1.trans x2) k2 E2
  | false =>
    rw [if_neg Bool.false_ne_true] at q1 ⊢
    refine ⟨F1, P, Lk, r1, E1, (q1.ext hW x1 (Ext.refl P) Keep.refl).mono (fun r2 q2 σ2 F2 H2 x2 k2 E2 => ?_) fun d r2 q2 v σ2 F2 H2 x2 k2 E2 => ?_⟩
    · exact q2 σ2 F2 H2 (x1.trans x2) k2 E2
    · exact q2 v σ2 F2 H2 (x1.trans x2) k2 E2
/-- code that nothing is said of -/
theorem d_stk : PS X st (tDS C W R G sStk G') := ⟨fun _ _ _ _ _ _ h => by
  obtain ⟨F, P, Lk, r, E, q⟩ := h
  exact q.elim⟩
theorem d_pass : PS X (.Pass pos) (tDS C W R G sNx G) := by
  refine PS_weak ps_pass fun D σ H q => ?_
  obtain ⟨F, P, Lk, r, E, q⟩ := q
  exact q σ F H (Ext.refl F) Keep.refl E
end

/-! ### a def -/
inductive Out where
  | ok (d : D) (ds : DL.Env) | exc (c : Str) (fs : List (Str × D)) | stk
/-- a def's promise: shapes of the parameters, which go back, the value's shape -/
structure Sig where
  Gi : List O
  m : List Bool
  o : O
def spD (C : Cfg) (S : Sig) (mir : List D → Out) : Sp := fun vs H Q E => vs.length = S.Gi.length ∧ ∃ F P Lk ds L, EnvR S.Gi (ds.map some) (vs.map some) L ∧ Stt C F P Lk L H ∧ match mir ds with
  | .ok d ds' => ∀ v F' H', Ext F F' → (∃ L', EnvR S.Gi ds' (vs.map some) L' ∧ Stt C F' P Lk ((S.o, v, d) :: L') H') → Q v H'
  | .exc c fs => ∀ cls dct F' H', Ext F F' → Stt C F' P Lk [] H' → ExcO C F' H' c fs cls dct → E cls dct H'
  | .stk => False
/-- what a body computes; ft: may it come to its end -/
def mkF (ft : Bool) (n : Nat) (m : List Bool) (f : SS) : List D → Out := fun ds => match f (ds.map some ++ List.replicate n none) with
  | .nx r => if ft = true then .ok .non (maskE m r) else .stk
  | .rt d r => .ok d (maskE m r)
  | .exc c fs => .exc c fs
  | .stk => .stk
def pmOf : List Bool → Nat → List Nat
  | [], _ => []
  | b :: m, i => if b = true then i :: pmOf m (i + 1) else pmOf m (i + 1)
def Sig.rt (S : Sig) : Rt := ⟨S.m, S.Gi, S.o, pmOf S.m 0⟩
theorem pmOf_mem : ∀ {m : List Bool} {k i : Nat}, m[i]? = some true → k + i ∈ pmOf m k
  | [], k, i, h => by simp at h
  | b :: m, k, 0, h => by simp at h; subst h; simp [pmOf]
  | b :: m, k, i + 1, h => by
    have q := pmOf_mem (m := m) (k := k + 1) (i := i) (by simpa using h)
    have e : k + 1 + i = k + (i + 1) := by omega
    rw [e] at q
    unfold pmOf
    split
    · exact List.mem_cons_of_mem _ q
    · exact q
theorem maskE_none : ∀ {m : List Bool} {r : DL.Env} {i : Nat} {d : D}, (maskE m r)[i]? = some (some d) → m[i]? = some true
  | [], r, i, d, h => by simp [maskE] at h
  | b :: m, [], i, d, h => by simp [maskE] at h
  | b :: m, x :: r, 0, d, h => by
    simp only [maskE, List.getElem?_cons_zero, Option.some.injEq] at h
    cases b with
    | true => rfl
    | false => simp at h
  | b :: m, x :: r, i + 1, d, h => by
    have h' : (maskE m r)[i]? = some (some d) := by simpa [maskE] using h
    simpa using maskE_none h'
/-- slots with nothing in them may hold what they like -/
theorem EnvR.slots {G : List O} {r : DL.Env} {σ σ' : L2.St} {L : List Cell} (h : EnvR G r σ L) : σ'.length = σ.length → (∀ (i : Nat) (d : D), r[i]? = some (some d) → σ'[i]? = σ[i]?) → EnvR G r σ' L := by
  induction h generalizing σ' with
  | nil =>
    intro hl _
    cases σ' with
    | nil => exact .nil
    | cons _ _ => simp at hl
  | @skip o s G r t L h ih =>
    intro hl k
    cases σ' with
    | nil => simp at hl
    | cons s' t' => exact .skip (ih (by simpa using hl) fun i d e => by simpa using k (i + 1) d (by simpa using e))
  | @«have» o v d G r t L h ih =>
    intro hl k
    cases σ' with
    | nil => simp at hl
    | cons s' t' =>
      have e := k 0 d (by simp)
      simp at e
      subst e
      exact .have (ih (by simpa using hl) fun i d e => by simpa using k (i + 1) d (by simpa using e))
theorem EnvR.pad {G : List O} {r : DL.Env} {σ : L2.St} {L : List Cell} (h : EnvR G r σ L) (n : Nat) : EnvR (G ++ List.replicate n .z) (r ++ List.replicate n none) (σ ++ List.replicate n none) L := by
  induction h with
  | nil =>
    show EnvR (List.replicate n O.z) (List.replicate n none) (List.replicate n none) []
    induction n with
    | zero => exact .nil
    | succ n ih => exact .skip ih
  | skip h ih => exact .skip ih
  | «have» h ih => exact .have ih

section
variable {P : Program} {w : World} {K : PySem.W.Frag} {mg : Str → Option Value} {base : Heap}
/-- the body's context: what the rules lean on -/
structure Bdy (C : Cfg) (X : Cx) (W : WX) (k : Nat) : Prop where
  hK : X.K = C.K
  tk : Takes X W
  po : PassesOwn (model X.prog X.w) X.A X.env X.xe
  cm : X.calm = true
  hr : Room k X.A
/-- THE RULE for a def: its body computes f -/
theorem fn_mk {x qual : Str} {st : Stmt} {f : Addr} {fd : FuncData} {N ps : List Str} {k : Nat} {S : Sig} {ft : Bool} {n : Nat} {body : SS} {G' : List O} (hC : C.K = K) (Fn : Fun K x qual st f fd) (Sc : FnScope N ps (defScope st))
    (hl : S.Gi.length = ps.length) (hn : N.length = ps.length + n) (hm : S.m.length = ps.length) (hft : ft = true → S.o = .z ∧ agree S.m G' S.Gi = true)
    (hb : ∀ (X : Cx) (E : XK) (W : WX), W = (fun c d _ H => E c d H) → X.prog = P → X.w = w → X.mg = mg → X.base = base → X.N = N → X.env.scope = defScope st → X.fn = (fun _ => true) → Bdy C X W k → X.stack = X.env :: X.outer → X.env.frame = some X.env.locals →
      PSs X (defBody st) (tDS C W S.rt (S.Gi ++ List.replicate n .z) body G')) :
    FnOk P w K mg base (L2.CX P w) (k + 1) f fd ps (spD C S (mkF ft n S.m body)) := by
  refine Fn.okX Sc (fun vs H Q E h => by rw [h.1, hl]) fun cdv A outer s H vs Q E hr h => ?_
  obtain ⟨hv, F, Pp, Lk, ds, L, E0, S0, h⟩ := h
  have B := hb (cxOf (L2.CX P w) P w K mg base N qual (defScope st) f cdv A outer s H E) E (fun c d _ H => E c d H) rfl rfl rfl rfl rfl rfl rfl rfl
    ⟨hC.symm, takes_of rfl rfl rfl rfl, passes_of rfl, rfl, hr⟩ rfl rfl
  refine ⟨_, B, F, Pp, Lk, ds.map some ++ List.replicate n none, ⟨L, ?_, S0⟩, ?_⟩
  · have e : L2.start N vs = vs.map some ++ List.replicate n none := by
      unfold L2.start
      rw [hn, hv, hl, Nat.add_sub_cancel_left]
    rw [e]
    exact E0.pad n
  · have fin : ∀ (v : V) (d : D) (r' : DL.Env) (σ' : L2.St) (F' H' : Hp), Keep S.rt.pm (L2.start N vs) σ' → RetX C F' Pp Lk S.m S.Gi S.o v d r' σ' H' → ∃ L', EnvR S.Gi (maskE S.m r') (vs.map some) L' ∧ Stt C F' Pp Lk ((S.o, v, d) :: L') H' := by
      rintro v d r' σ' F' H' kp ⟨L', e, s⟩
      refine ⟨L', e.slots ?_ fun i d q => ?_, s⟩
      · have z := e.len
        rw [List.length_map, hv, z.1, z.2]
      · have mi := maskE_none q
        have il : i < S.m.length := (List.getElem?_eq_some_iff.mp mi).1
        have pm : i ∈ S.rt.pm := by
          have := pmOf_mem (k := 0) mi
          simpa [Sig.rt] using this
        have z := kp i pm
        rw [List.getElem?_take_of_lt il, z]
        unfold L2.start
        rw [List.getElem?_append_left (by rw [List.length_map, hv, hl, ← hm]; exact il)]
    unfold mkF at h
    cases hf : body (ds.map some ++ List.replicate n none) with
    | nx r' =>
      rw [hf] at h
      dsimp only at h
      cases ft with
      | false => exact h.elim
      | true =>
        rw [if_pos rfl] at h
        obtain ⟨ho, ha⟩ := hft rfl
        intro σ' F' H' x1 k1 E1
        refine h .non F' H' x1 (fin _ _ _ σ' _ _ k1 ?_)
        have E2 : EnvX C [(S.rt.o, V.non, D.non)] F' Pp Lk G' r' σ' H' := by
          have : S.rt.o = .z := ho
          rw [this]
          exact E1.zcons .non
        exact E2.ret (R := S.rt) ha
    | rt d r' =>
      rw [hf] at h
      exact fun v σ' F' H' x1 k1 E1 => h v F' H' x1 (fin _ _ _ σ' _ _ k1 E1)
    | exc c fs =>
      rw [hf] at h
      exact h
    | stk =>
      rw [hf] at h
      exact h
end

/-! ### calls -/
/-- arguments, some of them local names that are handed over -/
def tDM (C : Cfg) (W : WX) (G : List O) (f : SA) (mv : List (Option Nat)) (os : List O) : TA := fun σ H Q => ∃ F P Lk r, EnvX C [] F P Lk G r σ H ∧
  RD C W F P Lk σ (f r) fun ds r' => ∀ vs F' H' La, Ext F F' → EnvR os (ds.map some) (vs.map some) La → EnvX C La F' P Lk G r' σ H' → (∀ (j i : Nat), mv[j]? = some (some i) → ∃ v : V, vs[j]? = some v ∧ σ[i]? = some (some v) ∧ r'[i]? = some none) → Q vs H'
/-- a local name that is handed over -/
def mMv (i : Nat) (k : SA) : SA := fun r => match r[i]? with
  | some (some d) => (k (r.set i none)).bind fun ds r' => match r'[i]? with
    | some none => .ok (d :: ds) r'
    | _ => .stk
  | _ => .stk
section
variable {X : Cx} {W : WX} {G : List O} {e : Expr} {es : List Expr} {pos : Pos}
theorem dm_nil : PA X [] (tDM C W G aNil [] []) := by
  refine PA_weak pa_nil fun σ H Q q => ?_
  obtain ⟨F, P, Lk, r, E, q⟩ := q
  exact q [] F H [] (Ext.refl F) .nil E (fun j i h => by simp at h)
theorem dm_cons {f : SE} {k : SA} {mv : List (Option Nat)} {os : List O} {o : O} (ha : PE X e (tD C W G f o)) (hr : PA X es (tDM C W G k mv os)) (hs : starEach (e :: es) X.env = (false, eval e X.env) :: starEach es X.env := by rfl) :
    PA X (e :: es) (tDM C W G (aCons f k) (none :: mv) (o :: os)) := by
  refine PA_weak (pa_cons ha hr hs) fun σ H Q q => ?_
  obtain ⟨F, P, Lk, r, E, q⟩ := q
  refine ⟨F, P, Lk, r, E, (RD.bind q).mono fun dx r1 q1 x F1 H1 x1 E1 => ?_⟩
  obtain ⟨P', E1', eP, unp⟩ := E1.park
  refine ⟨F1, P', Lk, r1, E1', (RD.bind (q1.ext x1 eP)).mono fun ds r2 q2 vs F2 H2 La x2 R2 E2 mv2 => ?_⟩
  have E3 := unp F2 H2 Lk La G r2 σ x2 E2
  refine q2 (x :: vs) F2 H2 ((o, x, dx) :: La) (x1.trans x2) (.have R2) E3 fun j i h => ?_
  cases j with
  | zero => simp at h
  | succ j =>
    obtain ⟨v, h1, h2⟩ := mv2 j i (by simpa using h)
    exact ⟨v, by simpa using h1, h2⟩
theorem dm_mv {i : Nat} {x : Str} {p : Pos} {k : SA} {mv : List (Option Nat)} {os : List O} {o : O} (hG : G[i]? = some o) (hN : X.N[i]? = some x) (hv : Vis X.env.scope x) (hr : PA X es (tDM C W G k mv os))
    (hd : (x == ("__debug__" : Str)) = false := by decide) (hcd : (x == ("__classdict__" : Str)) = false := by decide) (hs : starEach (.Name x p :: es) X.env = (false, eval (.Name x p) X.env) :: starEach es X.env := by rfl) :
    PA X (.Name x p :: es) (tDM C W G (mMv i k) (some i :: mv) (o :: os)) := by
  refine PA_weak (pa_cons (pe_var hN hv hd hcd) hr hs) fun σ H Q q => ?_
  obtain ⟨F, P, Lk, r, E, q⟩ := q
  unfold mMv at q
  split at q
  · rename_i d hd
    obtain ⟨v, h1, E1⟩ := E.take hd hG
    obtain ⟨P', E1', eP, unp⟩ := E1.park
    refine ⟨v, h1, F, P', Lk, _, E1', (RD.bind (q.ext (Ext.refl F) eP)).mono fun ds r2 q2 vs F2 H2 La x2 R2 E2 mv2 => ?_⟩
    split at q2
    · rename_i hr2
      have E3 := unp F2 H2 Lk La G r2 σ x2 E2
      refine q2 (v :: vs) F2 H2 ((o, v, d) :: La) x2 (.have R2) E3 fun j i' h => ?_
      cases j with
      | zero => simp at h; subst h; exact ⟨v, rfl, h1, hr2⟩
      | succ j =>
        obtain ⟨v, h1, h2⟩ := mv2 j i' (by simpa using h)
        exact ⟨v, by simpa using h1, h2⟩
    · exact q2.elim
  · exact q.elim
/-- what was handed over comes back -/
def wb : List (Option Nat) → DL.Env → DL.Env → DL.Env
  | some i :: mv, x :: xs, r => wb mv xs (r.set i x)
  | none :: mv, _ :: xs, r => wb mv xs r
  | _, _, r => r
def eCall (mir : List D → Out) (mv : List (Option Nat)) (k : SA) : SE := fun r => (k r).bind fun ds r1 => match mir ds with
  | .ok d ds' => .ok d (wb mv ds' r1)
  | .exc c fs => .exc c fs
  | .stk => .stk
/-- the shapes that are handed over fit the slots; no slot twice -/
def mvOk (G : List O) : List (Option Nat) → List O → Bool
  | [], [] => true
  | some i :: mv, o :: os => decide (G[i]? = some o) && !(mv.contains (some i)) && mvOk G mv os
  | none :: mv, _ :: os => mvOk G mv os
  | _, _ => false
theorem wb_ok {F P H : Hp} {Lk : Lock} {σ : L2.St} : ∀ {mv : List (Option Nat)} {os : List O} {ds' : DL.Env} {vs : List V} {La T : List Cell} {r : DL.Env}, mvOk G mv os = true → EnvR os ds' (vs.map some) La →
    (∀ (j i : Nat), mv[j]? = some (some i) → ∃ v : V, vs[j]? = some v ∧ σ[i]? = some (some v) ∧ r[i]? = some none) → EnvX C (T ++ La) F P Lk G r σ H → EnvX C T F P Lk G (wb mv ds' r) σ H
  | [], os, ds', vs, La, T, r, a, e, m, E => by
    cases os with
    | nil =>
      cases vs with
      | nil => cases e; simpa [wb] using E
      | cons _ _ => cases e
    | cons _ _ => simp [mvOk] at a
  | none :: mv, os, ds', vs, La, T, r, a, e, m, E => by
    cases os with
    | nil => simp [mvOk] at a
    | cons o os =>
      have a' : mvOk G mv os = true := by simpa [mvOk] using a
      have m' : ∀ (x : V) (vt : List V), vs = x :: vt → ∀ (j i : Nat), mv[j]? = some (some i) → ∃ v : V, vt[j]? = some v ∧ σ[i]? = some (some v) ∧ r[i]? = some none := fun x vt ev j i h => by
        obtain ⟨v, h1, h2⟩ := m (j + 1) i (by simpa using h)
        exact ⟨v, by rw [ev] at h1; simpa using h1, h2⟩
      cases vs with
      | nil => cases e
      | cons x vt =>
        cases e with
        | skip e => exact wb_ok (mv := mv) a' e (m' x vt rfl) E
        | «have» e =>
          refine wb_ok (mv := mv) a' e (m' x vt rfl) ?_
          exact (E.perm List.perm_middle).drop
  | some i :: mv, os, ds', vs, La, T, r, a, e, m, E => by
    cases os with
    | nil => simp [mvOk] at a
    | cons o os =>
      simp only [mvOk, Bool.and_eq_true, decide_eq_true_eq, Bool.not_eq_true'] at a
      obtain ⟨⟨g, nc⟩, a'⟩ := a
      obtain ⟨v, h1, h2, h3⟩ := m 0 i rfl
      cases vs with
      | nil => simp at h1
      | cons x vt =>
        have ex : x = v := by simpa using h1
        subst ex
        have ne : ∀ (j i' : Nat), mv[j]? = some (some i') → i' ≠ i := fun j i' h z => by
          subst z
          have : some i' ∈ mv := List.mem_of_getElem? h
          rw [List.contains_iff_mem.mpr this] at nc
          cases nc
        have m' : ∀ (y : Option D), ∀ (j i' : Nat), mv[j]? = some (some i') → ∃ v : V, vt[j]? = some v ∧ σ[i']? = some (some v) ∧ (r.set i y)[i']? = some none := fun y j i' h => by
          obtain ⟨v, h1, h2, h3⟩ := m (j + 1) i' (by simpa using h)
          refine ⟨v, by simpa using h1, h2, ?_⟩
          rw [List.getElem?_set_ne (Ne.symm (ne j i' h))]
          exact h3
        cases e with
        | skip e =>
          refine wb_ok (mv := mv) (r := r.set i none) a' e (m' none) ?_
          have er : r.set i none = r := by
            apply List.ext_getElem?
            intro j
            by_cases hj : j = i
            · subst hj
              rw [List.getElem?_set_self (List.getElem?_eq_some_iff.mp h3).1, h3]
            · rw [List.getElem?_set_ne (Ne.symm hj)]
          rw [er]
          exact E
        | @«have» _ _ d _ _ _ L e =>
          refine wb_ok (mv := mv) (r := r.set i (some d)) a' e (m' (some d)) ?_
          exact EnvX.back (E.perm List.perm_middle) h3 g h2
theorem callD {S : Sig} {mir : List D → Out} {mv : List (Option Nat)} {k : SA} {E : XK} {t : TA} (hW : ∀ c d σ H, W c d σ H → E c d H) (hmv : mvOk G mv S.Gi = true) (ka : ∀ σ H Q, tDM C W G k mv S.Gi σ H Q → t σ H Q) {σ : L2.St} {H : Hp} {Q : VK}
    (q : tD C W G (eCall mir mv k) S.o σ H Q) : t σ H fun vs H1 => spD C S mir (vs ++ []) H1 Q E := by
  obtain ⟨F, P, Lk, r, En, q⟩ := q
  refine ka _ _ _ ⟨F, P, Lk, r, En, (RD.bind q).mono fun ds r1 q1 vs F1 H1 La x1 R1 E1 m1 => ?_⟩
  show spD C S mir (vs ++ []) H1 Q E
  rw [List.append_nil]
  have hl : vs.length = S.Gi.length := by
    have z := R1.len
    rw [List.length_map, List.length_map] at z
    omega
  obtain ⟨Le, eL, sL⟩ := E1
  obtain ⟨P', S', eP, unp⟩ := Stt.park (M := Le) (L := La) (sL.perm List.perm_append_comm)
  refine ⟨hl, F1, P', Lk, ds, La, R1, S', ?_⟩
  cases hm : mir ds with
  | stk => rw [hm] at q1; exact q1.elim
  | exc c fs =>
    rw [hm] at q1
    exact fun cls dct F' H' x' s' xo => hW _ _ σ _ (q1 cls dct F' H' (x1.trans x') (s'.subP eP) xo)
  | ok d ds' =>
    rw [hm] at q1
    rintro v F' H' x' ⟨L', R', S2⟩
    refine q1 v F' H' (x1.trans x') ?_
    have S3 := unp F' H' Lk _ x' S2
    have E3 : EnvX C ([(S.o, v, d)] ++ L') F' P Lk G r1 σ H' := ⟨Le, eL, S3.perm (List.perm_append_comm (l₁ := Le) (l₂ := (S.o, v, d) :: L'))⟩
    exact wb_ok hmv R' m1 E3
theorem de_call {S : Sig} {mir : List D → Out} {mv : List (Option Nat)} {k : SA} {j kk : Nat} {f : Addr} {fd : FuncData} {ps : List Str} {x : Str} {p : Pos} {E : XK} (Fn : FnOk X.prog X.w X.K X.mg X.base (L2.CX X.prog X.w) j f fd ps (spD C S mir)) (hr : Room kk X.A) (hj : j ≤ kk) (hg : Gl X x) (hm : X.mg x = some (.ref f)) (hk : PySem.W.keepIn X.K (.ref f) = true) (hb : Binds X.K fd ps [])
    (tk : Takes X W) (hW : W = fun c d _ H => E c d H) (hmv : mvOk G mv S.Gi = true) (ha : PA X (e :: es) (tDM C W G k mv S.Gi)) (hdb : (x == ("__debug__" : Str)) = false := by decide) (he : starEach (e :: es) X.env = (false, eval e X.env) :: starEach es X.env := by rfl) (hpl : (backTo pos (starEach es X.env)).any (·.1) = false := by rfl) :
    PE X (.Call (.Name x p) (e :: es) [] pos) (tD C W G (eCall mir mv k) S.o) := by
  subst hW
  exact PE_weak (pe_call (E := E) Fn (hr.mono hj) hg hm hk hb .nil (passes_call tk fun _ _ _ _ h => h) ha hdb he hpl) fun σ H Q q => callD (C := C) (W := fun c d _ H => E c d H) (E := E) (fun _ _ _ _ h => h) hmv (fun _ _ _ h => h) q
end
end DL
set_option Elab.async false
set_option linter.all false
set_option autoImplicit false
set_option maxHeartbeats 1000000
/-! the data layer, part 4: operations by values -/
namespace DL
open PySem PySem.Spec PyProof.Rows L2

/-! ### data as the library's data -/
mutual
def toPy : D → Option PyData
  | .non => some .none
  | .bl b => some (.bool b)
  | .int i => some (.int i)
  | .str x => some (.str x)
  | .lst xs => (toPyL xs).map .list
  | .tup xs => (toPyL xs).map .tuple
  | .ktup xs => (toPyL xs).map .tuple
  | .klst xs => (toPyL xs).map .list
  | .dct _ _ => none
  | .ins _ _ => none
  | .opq _ => none
def toPyL : List D → Option (List PyData)
  | [] => some []
  | x :: xs => match toPy x, toPyL xs with
    | some a, some b => some (a :: b)
    | _, _ => none
end
def shp (d : D) : Option PyData := (toPy d).bind fun p => if SeqAt.shaped p = true then some p else none
def eqD (x y : D) : Option Bool := match shp x, shp y with
  | some a, some b => some (PyData.eqv a b)
  | _, _ => none
def anyEq (x : PyData) (ys : List PyData) : Bool := ys.any fun z => PyData.eqv z x

variable {C : Cfg}
section
variable {F P H : Hp} {Lk : Lock} {L : List Cell} {K : PySem.W.Frag}
mutual
theorem Rep.dp (S : Stt C F P Lk L H) : ∀ {v : V} {d : D} {p : PyData}, Rep C F v d → toPy d = some p → Dp C.K H v p
  | _, _, _, .non, e => by cases e; exact .non
  | _, _, _, .bl b, e => by cases e; exact .bl b
  | _, _, _, .int b, e => by cases e; exact .int b
  | _, _, _, .str b, e => by cases e; exact .str b
  | _, _, _, .opq b, e => by simp [toPy] at e
  | _, _, p, .lst (ds := ds) h r, e => by
    cases q : toPyL ds with
    | none => simp [toPy, q] at e
    | some ps =>
      simp [toPy, q] at e
      subst e
      exact .lst (.inl (S.rdL h)) (RepL.dp S r q)
  | _, _, p, .tup (ds := ds) h r, e => by
    cases q : toPyL ds with
    | none => simp [toPy, q] at e
    | some ps =>
      simp [toPy, q] at e
      subst e
      exact .tup (SqT.of (S.tup h)) (RepL.dp S r q)
  | _, _, p, .ktup (ds := ds) h r, e => by
    cases q : toPyL ds with
    | none => simp [toPy, q] at e
    | some ps =>
      simp [toPy, q] at e
      subst e
      exact .tup (sqT_k h) (RepL.dp S r q)
  | _, _, p, .klst (ds := ds) h r, e => by
    cases q : toPyL ds with
    | none => simp [toPy, q] at e
    | some ps =>
      simp [toPy, q] at e
      subst e
      exact .lst (sqL_k h) (RepL.dp S r q)
  | _, _, _, .dK h r, e => by simp [toPy] at e
  | _, _, _, .dT h r, e => by simp [toPy] at e
  | _, _, _, .ins h c r, e => by simp [toPy] at e
theorem RepL.dp (S : Stt C F P Lk L H) : ∀ {vs : List V} {ds : List D} {ps : List PyData}, RepL C F vs ds → toPyL ds = some ps → DpAll C.K H vs ps
  | _, _, _, .nil, e => by simp [toPyL] at e; subst e; exact .nil
  | _, _, _, .cons (d := d) (ds := ds) h r, e => by
    cases q : toPy d with
    | none => simp [toPyL, q] at e
    | some a =>
      cases q2 : toPyL ds with
      | none => simp [toPyL, q, q2] at e
      | some b =>
        simp [toPyL, q, q2] at e
        subst e
        exact .cons (Rep.dp S h q) (RepL.dp S r q2)
end
theorem shp_of {d : D} {p : PyData} (h : shp d = some p) : toPy d = some p ∧ SeqAt.shaped p = true := by
  unfold shp at h
  cases q : toPy d with
  | none => rw [q] at h; cases h
  | some a =>
    rw [q] at h
    have h : (if SeqAt.shaped a = true then some a else none) = some p := h
    split at h
    · rename_i z; cases h; exact ⟨rfl, z⟩
    · cases h
end

section
variable {X : Cx}
/-- a value op -/
def gB (f : D → D → Option Bool) : D → D → Option D := fun x y => (f x y).map .bl
theorem gB_some {f : D → D → Option Bool} {x y z : D} (h : gB f x y = some z) : ∃ b, f x y = some b ∧ z = .bl b := by
  unfold gB at h
  cases q : f x y with
  | none => rw [q] at h; cases h
  | some b => rw [q] at h; cases h; exact ⟨b, rfl, rfl⟩
theorem op_eq_D (hK : X.K = C.K) (hu : X.A.units + 64 < cLine) : OpR X (compareOp .Eq) (rO2 C (gB eqD) .z) := by
  intro pins s σ H x y v u Q I rx ry ⟨F, P, Lk, L, dx, dy, dz, S, hx, hy, e, k⟩
  obtain ⟨b, e1, e2⟩ := gB_some e
  clear e
  subst e2
  have e := e1
  unfold eqD at e
  split at e
  · rename_i a b h1 h2
    obtain ⟨t1, s1⟩ := shp_of h1
    obtain ⟨t2, s2⟩ := shp_of h2
    cases e
    exact op_eqD hu pins s σ H x y v u Q I rx ry ⟨_, _, by rw [hK]; exact hx.dp S t1, by rw [hK]; exact hy.dp S t2, s1, s2, k _ F H (Ext.refl F) (S.zcons (.bl _))⟩
  · cases e
def neD (x y : D) : Option Bool := (eqD x y).map (!·)
theorem op_ne_D (hK : X.K = C.K) (hu : X.A.units + 64 < cLine) : OpR X (compareOp .NotEq) (rO2 C (gB neD) .z) := by
  intro pins s σ H x y v u Q I rx ry ⟨F, P, Lk, L, dx, dy, dz, S, hx, hy, e, k⟩
  obtain ⟨b, e1, e2⟩ := gB_some e
  clear e
  subst e2
  have e := e1
  unfold neD eqD at e
  split at e
  · rename_i a b h1 h2
    obtain ⟨t1, s1⟩ := shp_of h1
    obtain ⟨t2, s2⟩ := shp_of h2
    cases e
    exact op_neD hu pins s σ H x y v u Q I rx ry ⟨_, _, by rw [hK]; exact hx.dp S t1, by rw [hK]; exact hy.dp S t2, s1, s2, k _ F H (Ext.refl F) (S.zcons (.bl _))⟩
  · cases e

/-! ### ints -/
theorem rep_int {F : Hp} {v : V} {i : Int} (h : Rep C F v (.int i)) : v = .int i := by cases h; rfl
theorem rep_str {F : Hp} {v : V} {i : Str} (h : Rep C F v (.str i)) : v = .str i := by cases h; rfl
theorem rep_bl {F : Hp} {v : V} {i : Bool} (h : Rep C F v (.bl i)) : v = .bl i := by cases h; rfl
theorem rep_non {F : Hp} {v : V} (h : Rep C F v .non) : v = .non := by cases h; rfl
def iB (p : Int → Int → Bool) : D → D → Option Bool
  | .int i, .int j => some (p i j)
  | _, _ => none
theorem op_cmpI {op : CmpOp} {p : Int → Int → Bool} (h : OpR X (compareOp op) (rI0 fun i j => .bl (p i j))) : OpR X (compareOp op) (rO2 C (gB (iB p)) .z) := by
  intro pins s σ H x y v u Q I rx ry ⟨F, P, Lk, L, dx, dy, dz, S, hx, hy, e, k⟩
  obtain ⟨b, e1, e2⟩ := gB_some e
  clear e
  subst e2
  have e := e1
  unfold iB at e
  split at e
  · cases e
    exact h pins s σ H x y v u Q I rx ry ⟨_, _, rep_int hx, rep_int hy, k _ F H (Ext.refl F) (S.zcons (.bl _))⟩
  · cases e
/-- < of ints, texts, tuples of ints -/
def intsD : List D → Option (List Int)
  | [] => some []
  | .int i :: xs => (intsD xs).map (i :: ·)
  | _ :: _ => none
theorem intsD_rep {F : Hp} : ∀ {ds : List D} {vs : List V} {ns : List Int}, RepL C F vs ds → intsD ds = some ns → vs = ns.map V.int
  | [], _, _, .nil, e => by cases e; rfl
  | d :: ds, _, ns, .cons h r, e => by
    cases d <;> simp only [intsD] at e <;> try (cases e; done)
    rename_i i
    cases q : intsD ds with
    | none => rw [q] at e; cases e
    | some ms =>
      rw [q] at e
      cases e
      rw [rep_int h, intsD_rep r q]
      rfl
def ltD : D → D → Option Bool
  | .int i, .int j => some (decide (i < j))
  | .str a, .str b => some (decide (a.cps.toList < b.cps.toList))
  | .tup xs, .tup ys => match intsD xs, intsD ys with
    | some ns, some ms => some (HT.lexLt ns ms)
    | _, _ => none
  | _, _ => none
theorem op_lt_D (hK : X.K = C.K) (hu : X.A.units < cLine) : OpR X (compareOp .Lt) (rO2 C (gB ltD) .z) := by
  intro pins s σ H x y v u Q I rx ry ⟨F, P, Lk, L, dx, dy, dz, S, hx, hy, e, k⟩
  obtain ⟨b, e1, e2⟩ := gB_some e
  clear e
  subst e2
  have e := e1
  unfold ltD at e
  split at e
  · cases e
    exact op_lt pins s σ H x y v u Q I rx ry ⟨_, _, rep_int hx, rep_int hy, k _ F H (Ext.refl F) (S.zcons (.bl _))⟩
  · cases e
    exact op_lt_str pins s σ H x y v u Q I rx ry ⟨_, _, rep_str hx, rep_str hy, k _ F H (Ext.refl F) (S.zcons (.bl _))⟩
  · split at e
    · rename_i ns ms h1 h2
      cases e
      cases hx with
      | tup a r1 =>
        cases hy with
        | tup b r2 =>
          have z1 := intsD_rep r1 h1
          have z2 := intsD_rep r2 h2
          subst z1 z2
          exact op_ltT hu pins s σ H _ _ v u Q I rx ry ⟨_, _, ns, ms, rfl, rfl, SqT.of (S.tup a), SqT.of (S.tup b), k _ F H (Ext.refl F) (S.zcons (.bl _))⟩
    · cases e
  · cases e
theorem op_binI {op : Operator} {cd : Int → Int → Prop} [DecidableRel cd] {p : Int → Int → Int} (h : OpR X (binaryOp op) (rI cd fun i j => .int (p i j))) :
    OpR X (binaryOp op) (rO2 C (fun a b => match a, b with | .int i, .int j => if cd i j then some (.int (p i j)) else none | _, _ => none) .z) := by
  intro pins s σ H x y v u Q I rx ry ⟨F, P, Lk, L, dx, dy, dz, S, hx, hy, e, k⟩
  dsimp only at e
  split at e
  · split at e
    · rename_i hc
      cases e
      exact h pins s σ H x y v u Q I rx ry ⟨_, _, rep_int hx, rep_int hy, hc, k _ F H (Ext.refl F) (S.zcons (.int _))⟩
    · cases e
  · cases e
instance : DecidableRel CDiv := fun i j => by unfold CDiv; infer_instance
instance : DecidableRel CMul := fun i j => by unfold CMul; infer_instance
instance : DecidableRel CPow := fun i j => by unfold CPow; infer_instance
def subD : D → D → Option D
  | .int i, .int j => some (.int (i - j))
  | _, _ => none
theorem op_sub_D : OpR X (binaryOp .Sub) (rO2 C subD .z) := by
  intro pins s σ H x y v u Q I rx ry ⟨F, P, Lk, L, dx, dy, dz, S, hx, hy, e, k⟩
  unfold subD at e
  split at e
  · cases e
    exact op_sub pins s σ H x y v u Q I rx ry ⟨_, _, rep_int hx, rep_int hy, k _ F H (Ext.refl F) (S.zcons (.int _))⟩
  · cases e
def modD : D → D → Option D
  | .int i, .int j => if 0 < j then some (.int (i % j)) else none
  | _, _ => none
theorem op_mod_D : OpR X (binaryOp .Mod) (rO2 C modD .z) := by
  intro pins s σ H x y v u Q I rx ry ⟨F, P, Lk, L, dx, dy, dz, S, hx, hy, e, k⟩
  unfold modD at e
  split at e
  · split at e
    · rename_i hc
      cases e
      exact op_mod pins s σ H x y v u Q I rx ry ⟨_, _, rep_int hx, rep_int hy, hc, k _ F H (Ext.refl F) (S.zcons (.int _))⟩
    · cases e
  · cases e
def fdivD : D → D → Option D
  | .int i, .int j => if 0 < j ∧ j < 1073741824 then some (.int (i / j)) else none
  | _, _ => none
theorem op_fdiv_D : OpR X (binaryOp .FloorDiv) (rO2 C fdivD .z) := by
  intro pins s σ H x y v u Q I rx ry ⟨F, P, Lk, L, dx, dy, dz, S, hx, hy, e, k⟩
  unfold fdivD at e
  split at e
  · split at e
    · rename_i hc
      cases e
      exact op_fdiv pins s σ H x y v u Q I rx ry ⟨_, _, rep_int hx, rep_int hy, hc, k _ F H (Ext.refl F) (S.zcons (.int _))⟩
    · cases e
  · cases e
def powD : D → D → Option D
  | .int i, .int j => if 0 ≤ j ∧ j ≤ 1000000 ∧ i.natAbs < 2 ^ 64 then some (.int (i ^ j.toNat)) else none
  | _, _ => none
theorem op_pow_D : OpR X (binaryOp .Pow) (rO2 C powD .z) := by
  intro pins s σ H x y v u Q I rx ry ⟨F, P, Lk, L, dx, dy, dz, S, hx, hy, e, k⟩
  unfold powD at e
  split at e
  · split at e
    · rename_i hc
      cases e
      exact op_pow pins s σ H x y v u Q I rx ry ⟨_, _, rep_int hx, rep_int hy, hc, k _ F H (Ext.refl F) (S.zcons (.int _))⟩
    · cases e
  · cases e

/-! ### lists: +, * -/
theorem lstRd {pins : List (Addr × Obj)} {σ : L2.St} {H : Hp} {s : Shared} {l : Addr} {xs : List V} (I : Inv X pins σ H s) (h : Rd H l (.lst xs)) :
    xs.length ≤ sizeLine ∧ ∃ (its : List Value) (n : Nat), Vals xs its ∧ xs.length = its.length ∧ s.heap.get? l = some { cls := .type "list", data := .seq its.toArray n } := by
  obtain ⟨z, its, n, r, e⟩ := h.ok I.hok
  exact ⟨z, its, n, r, r.length, e⟩
theorem catL {pins : List (Addr × Obj)} {σ : L2.St} {H : Hp} {s : Shared} {l b : Addr} {xs zs : List V} {Q : VK} (I : Inv X pins σ H s) (h1 : Rd H l (.lst xs)) (h2 : Rd H b (.lst zs)) (hz : xs.length + zs.length ≤ sizeLine)
    (q : ∀ p, H p = none → Q (.ref p) (upd H p (.lst (xs ++ zs)))) : wpAny (model X.prog X.w) X.A (binaryOp .Add (.ref l) (.ref b)) (EP X pins σ Q) X.xe s := by
  obtain ⟨z, its, n, r, hl, e⟩ := lstRd I h1
  obtain ⟨z2, its2, n2, r2, hl2, e2⟩ := lstRd I h2
  refine PySem.P.add_list e e2 ?_ (by rw [List.size_toArray, List.size_toArray]; omega)
  have ea : its.toArray ++ its2.toArray = (its ++ its2).toArray := by simp
  rw [ea]
  exact ⟨.ref _, _, I.lnew (t' := s.toks) (r.append r2) (by rw [List.length_append]; omega), rfl, q _ I.fresh⟩
def addD : D → D → Option D
  | .int i, .int j => some (.int (i + j))
  | .int i, .bl j => some (.int (i + b2i j))
  | .str a, .str b => if a.length + b.length ≤ sizeLine then some (.str (a ++ b)) else none
  | .lst xs, .lst ys => if xs.length + ys.length ≤ sizeLine then some (.lst (xs ++ ys)) else none
  | .tup xs, .tup ys => if xs.length + ys.length ≤ sizeLine then some (.tup (xs ++ ys)) else none
  | _, _ => none
theorem op_add_D (hK : X.K = C.K) : OpR X (binaryOp .Add) (rO2 C addD .z) := by
  intro pins s σ H x y v u Q I rx ry ⟨F, P, Lk, L, dx, dy, dz, S, hx, hy, e, k⟩
  unfold addD at e
  split at e
  · cases e
    exact op_add pins s σ H x y v u Q I rx ry ⟨_, _, rep_int hx, rep_int hy, k _ F H (Ext.refl F) (S.zcons (.int _))⟩
  · cases e
    exact op_add_ib pins s σ H x y v u Q I rx ry ⟨_, _, rep_int hx, rep_bl hy, k _ F H (Ext.refl F) (S.zcons (.int _))⟩
  · split at e
    · rename_i hc
      cases e
      exact op_add_str pins s σ H x y v u Q I rx ry ⟨_, _, rep_str hx, rep_str hy, hc, k _ F H (Ext.refl F) (S.zcons (.str _))⟩
    · cases e
  · split at e
    · rename_i hc
      cases e
      cases hx with
      | lst h1 r1 =>
        cases hy with
        | lst h2 r2 =>
          cases rx
          cases ry
          refine catL I (S.rdL h1) (S.rdL h2) (by rw [r1.length, r2.length]; exact hc) fun p hp => ?_
          obtain ⟨x2, S2⟩ := S.newZ (o := .lst _) hp
          exact k _ _ _ x2 (S2.zcons (.lst (.inl upd_same) ((r1.append r2).mono x2)))
    · cases e
  · split at e
    · rename_i hc
      cases e
      cases hx with
      | @tup a1 vs1 ds1 h1 r1 =>
        cases hy with
        | @tup a2 vs2 ds2 h2 r2 =>
          refine op_catA pins s σ H _ _ v u Q I rx ry ⟨_, _, vs1, vs2, rfl, rfl, SqT.of (S.tup h1), SqT.of (S.tup h2), by rw [r1.length, r2.length]; exact hc, fun z => ?_, fun _ z => ?_, fun _ _ p hp => ?_⟩
          · subst z
            cases r1
            exact k _ F H (Ext.refl F) (S.zcons (.tup h2 r2))
          · subst z
            cases r2
            refine k _ F H (Ext.refl F) (S.zcons ?_)
            rw [List.append_nil]
            exact .tup h1 r1
          · obtain ⟨x2, S2⟩ := S.newZ (o := .tup _) hp
            exact k _ _ _ x2 (S2.zcons (.tup upd_same ((r1.append r2).mono x2)))
    · cases e
  · cases e
theorem RepL.rep {F : Hp} {vs : List V} {ds : List D} (h : RepL C F vs ds) : ∀ n : Nat, RepL C F (List.replicate n vs).flatten (List.replicate n ds).flatten
  | 0 => .nil
  | n + 1 => by
    rw [List.replicate_succ, List.replicate_succ, List.flatten_cons, List.flatten_cons]
    exact h.append (RepL.rep h n)
theorem len_flat {α : Type} (xs : List α) : ∀ n : Nat, (List.replicate n xs).flatten.length = xs.length * n
  | 0 => by simp
  | n + 1 => by
    rw [List.replicate_succ, List.flatten_cons, List.length_append, len_flat xs n, Nat.mul_succ, Nat.add_comm]
def mulD : D → D → Option D
  | .int i, .int j => if (-(2 ^ 64) < i ∧ i < 2 ^ 64) ∨ (-(2 ^ 64) < j ∧ j < 2 ^ 64) then some (.int (i * j)) else none
  | .lst xs, .int k => if -(2 ^ 63) ≤ k ∧ k < 2 ^ 63 ∧ xs.length * k.toNat ≤ sizeLine then some (.lst (List.replicate k.toNat xs).flatten) else none
  | _, _ => none
theorem repL' {pins : List (Addr × Obj)} {σ : L2.St} {H : Hp} {s : Shared} {l : Addr} {xs : List V} {k : Int} {t : Tok} {Q : VK} (I : Inv X pins σ H s) (hH : H l = some (.lst xs)) (h1 : -(2 ^ 63) ≤ k) (h2 : k < 2 ^ 63) (hz : xs.length * k.toNat ≤ sizeLine)
    (q : ∀ p, H p = none → Q (.ref p) (upd H p (.lst (List.replicate k.toNat xs).flatten))) : wpAny (model X.prog X.w) X.A (binaryOp .Mult (.ref l) (.int k t)) (EP X pins σ Q) X.xe s :=
  op_rep pins s σ H (.ref l) (.int k) _ _ Q I rfl ⟨t, rfl⟩ ⟨l, k, xs, rfl, rfl, hH, h1, h2, hz, q⟩
theorem op_mul_D : OpR X (binaryOp .Mult) (rO2 C (fun a b => match a, b with
  | .int i, .int j => if (-(2 ^ 64) < i ∧ i < 2 ^ 64) ∨ (-(2 ^ 64) < j ∧ j < 2 ^ 64) then some (.int (i * j)) else none
  | _, _ => none) .z) := by
  intro pins s σ H x y v u Q I rx ry ⟨F, P, Lk, L, dx, dy, dz, S, hx, hy, e, k⟩
  dsimp only at e
  split at e
  · split at e
    · rename_i hc
      cases e
      exact op_mul pins s σ H x y v u Q I rx ry ⟨_, _, rep_int hx, rep_int hy, hc, k _ F H (Ext.refl F) (S.zcons (.int _))⟩
    · cases e
  · cases e

/-! ### calls -/
theorem repl1 {F : Hp} {vs : List V} {d : D} (h : RepL C F vs [d]) : ∃ v, vs = [v] ∧ Rep C F v d := by
  cases h with
  | cons a b => cases b; exact ⟨_, rfl, a⟩
theorem repl2 {F : Hp} {vs : List V} {d e : D} (h : RepL C F vs [d, e]) : ∃ v w, vs = [v, w] ∧ Rep C F v d ∧ Rep C F w e := by
  cases h with
  | cons a b => cases b with
    | cons c z => cases z; exact ⟨_, _, rfl, a, c⟩
def g1 (f : D → Option D) : List D → Option D
  | [x] => f x
  | _ => none
def g2 (f : D → D → Option D) : List D → Option D
  | [x, y] => f x y
  | _ => none
theorem cr1 {f : Value} {g : D → Option D} {o : O} {r : List V → Hp → VK → Prop} (h : CallR X f r)
    (k : ∀ (F P : Hp) Lk L (H : Hp) x dx dz (Q : VK), Stt C F P Lk L H → Rep C F x dx → g dx = some dz → (∀ w F' H', Ext F F' → Stt C F' P Lk ((o, w, dz) :: L) H' → Q w H') → r [x] H Q) : CallR X f (rON C (g1 g) o) := by
  intro pins s σ H xs us Q I ru ⟨F, P, Lk, L, ds, dz, S, R, e, q⟩
  unfold g1 at e
  split at e
  · obtain ⟨v, rfl, Rv⟩ := repl1 R
    exact h pins s σ H _ us Q I ru (k F P Lk L H v _ dz Q S Rv e q)
  · cases e
theorem cr2 {f : Value} {g : D → D → Option D} {o : O} {r : List V → Hp → VK → Prop} (h : CallR X f r)
    (k : ∀ (F P : Hp) Lk L (H : Hp) x y dx dy dz (Q : VK), Stt C F P Lk L H → Rep C F x dx → Rep C F y dy → g dx dy = some dz → (∀ w F' H', Ext F F' → Stt C F' P Lk ((o, w, dz) :: L) H' → Q w H') → r [x, y] H Q) : CallR X f (rON C (g2 g) o) := by
  intro pins s σ H xs us Q I ru ⟨F, P, Lk, L, ds, dz, S, R, e, q⟩
  unfold g2 at e
  split at e
  · obtain ⟨v, w, rfl, Rv, Rw⟩ := repl2 R
    exact h pins s σ H _ us Q I ru (k F P Lk L H v w _ _ dz Q S Rv Rw e q)
  · cases e
def lenD : D → Option D
  | .str x => if x.length ≤ sizeLine then some (.int x.length) else none
  | .lst xs => some (.int xs.length)
  | .tup xs => some (.int xs.length)
  | .ktup xs => some (.int xs.length)
  | .klst xs => some (.int xs.length)
  | _ => none
theorem call_len_D (hK : X.K = C.K) : CallR X (.builtin "len") (rON C (g1 lenD) .z) :=
  cr1 call_len fun F P Lk L H x dx dz Q S R e q => by
    unfold lenD at e
    split at e
    · split at e
      · rename_i hc; cases e; cases R; exact ⟨_, _, rfl, ⟨hc, rfl⟩, q _ F H (Ext.refl F) (S.zcons (.int _))⟩
      · cases e
    · cases e
      cases R with
      | lst h r => exact ⟨_, _, rfl, .inl ⟨_, .inl (S.rdL h), rfl⟩, by rw [r.length]; exact q _ F H (Ext.refl F) (S.zcons (.int _))⟩
    · cases e
      cases R with
      | tup h r => exact ⟨_, _, rfl, .inr ⟨_, SqT.of (S.tup h), rfl⟩, by rw [r.length]; exact q _ F H (Ext.refl F) (S.zcons (.int _))⟩
    · cases e
      cases R with
      | ktup h r => exact ⟨_, _, rfl, .inr ⟨_, by rw [hK]; exact sqT_k h, rfl⟩, by rw [r.length]; exact q _ F H (Ext.refl F) (S.zcons (.int _))⟩
    · cases e
      cases R with
      | klst h r => exact ⟨_, _, rfl, .inl ⟨_, by rw [hK]; exact sqL_k h, rfl⟩, by rw [r.length]; exact q _ F H (Ext.refl F) (S.zcons (.int _))⟩
    · cases e
def absD : D → Option D
  | .int i => some (.int (if i < 0 then -i else i))
  | _ => none
theorem call_abs_D : CallR X (.builtin "abs") (rON C (g1 absD) .z) :=
  cr1 call_abs fun F P Lk L H x dx dz Q S R e q => by
    unfold absD at e
    split at e
    · cases e; cases R; exact ⟨_, rfl, q _ F H (Ext.refl F) (S.zcons (.int _))⟩
    · cases e
def max2D : D → D → Option D
  | .int i, .int j => some (.int (if j > i then j else i))
  | _, _ => none
def min2D : D → D → Option D
  | .int i, .int j => some (.int (if j < i then j else i))
  | _, _ => none
theorem call_max2_D (hc : X.calm = true) : CallR X (.builtin "max") (rON C (g2 max2D) .z) :=
  cr2 (call_max2 hc) fun F P Lk L H x y dx dy dz Q S R R2 e q => by
    unfold max2D at e
    split at e
    · cases e; cases R; cases R2; exact ⟨_, _, rfl, q _ F H (Ext.refl F) (S.zcons (.int _))⟩
    · cases e
theorem call_min2_D (hc : X.calm = true) : CallR X (.builtin "min") (rON C (g2 min2D) .z) :=
  cr2 (call_min2 hc) fun F P Lk L H x y dx dy dz Q S R R2 e q => by
    unfold min2D at e
    split at e
    · cases e; cases R; cases R2; exact ⟨_, _, rfl, q _ F H (Ext.refl F) (S.zcons (.int _))⟩
    · cases e
def intD : D → Option D
  | .int i => some (.int i)
  | .bl k => some (.int (if k then 1 else 0))
  | _ => none
theorem call_int_D : CallR X (.type "int") (rON C (g1 intD) .z) :=
  cr1 call_int1 fun F P Lk L H x dx dz Q S R e q => by
    unfold intD at e
    split at e
    · cases e; cases R; exact .inl ⟨_, rfl, q _ F H (Ext.refl F) (S.zcons (.int _))⟩
    · cases e; cases R; exact .inr ⟨_, rfl, q _ F H (Ext.refl F) (S.zcons (.int _))⟩
    · cases e
def divmodD : D → D → Option D
  | .int i, .int j => if 0 < j ∧ j < 1073741824 then some (.tup [.int (i / j), .int (i % j)]) else none
  | _, _ => none
theorem call_divmod_D : CallR X (.builtin "divmod") (rON C (g2 divmodD) .z) :=
  cr2 call_divmod fun F P Lk L H x y dx dy dz Q S R R2 e q => by
    unfold divmodD at e
    split at e
    · split at e
      · rename_i hc
        cases e; cases R; cases R2
        refine ⟨_, _, rfl, hc, fun p hp => ?_⟩
        obtain ⟨x2, S2⟩ := S.newZ (o := .tup _) hp
        exact q _ _ _ x2 (S2.zcons (.tup upd_same (.cons (.int _) (.cons (.int _) .nil))))
      · cases e
    · cases e
def boolsD : List D → Option (List Bool)
  | [] => some []
  | .bl b :: xs => (boolsD xs).map (b :: ·)
  | _ :: _ => none
theorem boolsD_rep {F : Hp} : ∀ {ds : List D} {vs : List V} {ns : List Bool}, RepL C F vs ds → boolsD ds = some ns → vs = ns.map V.bl
  | [], _, _, .nil, e => by cases e; rfl
  | d :: ds, _, ns, .cons h r, e => by
    cases d <;> simp only [boolsD] at e <;> try (cases e; done)
    rename_i i
    cases q : boolsD ds with
    | none => rw [q] at e; cases e
    | some ms =>
      rw [q] at e
      cases e
      rw [rep_bl h, boolsD_rep r q]
      rfl
def allD : D → Option D
  | .lst xs => (boolsD xs).map fun bs => .bl (bs.all id)
  | _ => none
def anyD : D → Option D
  | .lst xs => (boolsD xs).map fun bs => .bl (bs.any id)
  | _ => none
def sumD : D → Option D
  | .lst xs => (intsD xs).map fun bs => .int bs.sum
  | _ => none
theorem call_all_D (hK : X.K = C.K) (hc : X.calm = true) : CallR X (.builtin "all") (rON C (g1 allD) .z) :=
  cr1 (cr_all hc) fun F P Lk L H x dx dz Q S R e q => by
    unfold allD at e
    split at e
    · rename_i xs
      cases hb : boolsD xs with
      | none => rw [hb] at e; cases e
      | some bs =>
        rw [hb] at e; cases e
        cases R with
        | lst h r =>
          have z := boolsD_rep r hb
          subst z
          exact ⟨_, bs, rfl, .inl (S.rdL h), q _ F H (Ext.refl F) (S.zcons (.bl _))⟩
    · cases e
theorem call_any_D (hK : X.K = C.K) (hc : X.calm = true) : CallR X (.builtin "any") (rON C (g1 anyD) .z) :=
  cr1 (cr_any hc) fun F P Lk L H x dx dz Q S R e q => by
    unfold anyD at e
    split at e
    · rename_i xs
      cases hb : boolsD xs with
      | none => rw [hb] at e; cases e
      | some bs =>
        rw [hb] at e; cases e
        cases R with
        | lst h r =>
          have z := boolsD_rep r hb
          subst z
          exact ⟨_, bs, rfl, .inl (S.rdL h), q _ F H (Ext.refl F) (S.zcons (.bl _))⟩
    · cases e
theorem call_sum_D (hK : X.K = C.K) (hc : X.calm = true) : CallR X (.builtin "sum") (rON C (g1 sumD) .z) :=
  cr1 (cr_sum hc) fun F P Lk L H x dx dz Q S R e q => by
    unfold sumD at e
    split at e
    · rename_i xs
      cases hb : intsD xs with
      | none => rw [hb] at e; cases e
      | some bs =>
        rw [hb] at e; cases e
        cases R with
        | lst h r =>
          have z := intsD_rep r hb
          subst z
          exact ⟨_, bs, rfl, .inl (S.rdL h), q _ F H (Ext.refl F) (S.zcons (.int _))⟩
    · cases e
/-- list(x), tuple(x) -/
def listD : D → Option D
  | .lst xs => some (.lst xs)
  | .tup xs => some (.lst xs)
  | .ktup xs => some (.lst xs)
  | _ => none
def tupleD : D → Option D
  | .lst xs => some (.tup xs)
  | .tup xs => some (.tup xs)
  | .ktup xs => some (.ktup xs)
  | _ => none
end
end DL
set_option Elab.async false
set_option linter.all false
set_option autoImplicit false
set_option maxHeartbeats 1000000
/-! the data layer, part 5: places, slices, membership, sorting, kinds -/
namespace DL
open PySem PySem.Spec PyProof.Rows L2
variable {C : Cfg}

/-! ### dicts: looking up -/
def toKey : D → Option Key
  | .int i => some (.inl i)
  | .str x => some (.inr x)
  | _ => none
def toKeys : List D → Option (List Key)
  | [] => some []
  | x :: xs => match toKey x, toKeys xs with
    | some a, some b => some (a :: b)
    | _, _ => none
theorem toKey_keyD (k : Key) : toKey (keyD k) = some k := by cases k <;> rfl
theorem toKeys_map : ∀ ks : List Key, toKeys (ks.map keyD) = some ks
  | [] => rfl
  | k :: ks => by simp [toKeys, toKey_keyD, toKeys_map ks]
theorem toKey_some {d : D} {k : Key} (h : toKey d = some k) : d = keyD k := by
  cases d <;> simp [toKey] at h <;> subst h <;> rfl
theorem toKeys_some : ∀ {ds : List D} {ks : List Key}, toKeys ds = some ks → ds = ks.map keyD
  | [], ks, h => by simp [toKeys] at h; subst h; rfl
  | d :: ds, ks, h => by
    cases q : toKey d with
    | none => simp [toKeys, q] at h
    | some a =>
      cases q2 : toKeys ds with
      | none => simp [toKeys, q, q2] at h
      | some b =>
        simp [toKeys, q, q2] at h
        subst h
        rw [toKey_some q, toKeys_some q2]
        rfl
theorem tupD_inj {a b : List Key} (h : tupD a = tupD b) : a = b := by
  unfold tupD at h
  injection h with h
  have := congrArg toKeys h
  rw [toKeys_map, toKeys_map] at this
  exact Option.some.inj this
/-- equality of keys -/
def keyB (a b : D) : Bool := match a, b with
  | .int i, .int j => i == j
  | .str x, .str y => x == y
  | .tup xs, .tup ys => match toKeys xs, toKeys ys with
    | some p, some q => decide (p = q)
    | _, _ => false
  | _, _ => false
theorem keyB_key (a b : Key) : keyB (keyD a) (keyD b) = decide (a = b) := by
  cases a <;> cases b <;> simp [keyB, keyD]
  · rw [Bool.eq_iff_iff]; simp
  · rw [Bool.eq_iff_iff]; simp
theorem keyB_tup (a b : List Key) : keyB (tupD a) (tupD b) = decide (a = b) := by
  simp [keyB, tupD, toKeys_map]
def lookD (kvs : List (D × D)) (k : D) : Option D := (kvs.find? fun p => keyB p.1 k).map (·.2)
theorem look_rel {κ : Type} [DecidableEq κ] {F : Hp} (f : κ → D) (hf : ∀ a b, keyB (f a) (f b) = decide (a = b)) : ∀ {kvs : List (κ × V)} {ds : List D}, RepL C F (kvs.map (·.2)) ds → ∀ k : κ,
    (∀ d, lookD ((kvs.map fun p => f p.1).zip ds) (f k) = some d → ∃ v, valV kvs k = some v ∧ Rep C F v d) ∧ (lookD ((kvs.map fun p => f p.1).zip ds) (f k) = none → valV kvs k = none)
  | [], _, _, k => ⟨fun d h => by simp [lookD] at h, fun _ => rfl⟩
  | p :: kvs, _, .cons (d := e) (ds := ds) a r, k => by
    have ih := look_rel f hf r k
    simp only [List.map_cons, List.zip_cons_cons]
    by_cases q : p.1 = k
    · have hb : keyB (f p.1) (f k) = true := by rw [hf, q]; simp
      refine ⟨fun d h => ?_, fun h => ?_⟩
      · unfold lookD at h
        rw [List.find?_cons_of_pos (by simpa using hb)] at h
        have h : some e = some d := h
        cases h
        exact ⟨p.2, valV_pos q, a⟩
      · unfold lookD at h
        rw [List.find?_cons_of_pos (by simpa using hb)] at h
        cases h
    · have hb : keyB (f p.1) (f k) = false := by rw [hf]; simp [q]
      have e1 : lookD ((f p.1, e) :: (kvs.map fun p => f p.1).zip ds) (f k) = lookD ((kvs.map fun p => f p.1).zip ds) (f k) := by
        unfold lookD
        rw [List.find?_cons_of_neg (by simp [hb])]
      rw [e1, valV_neg q]
      exact ih

/-- the place that an index means -/
def ixD : D → D → Option D
  | .lst xs, .int i => atI xs i
  | .tup xs, .int i => atI xs i
  | .ktup xs, .int i => atI xs i
  | .klst xs, .int i => atI xs i
  | .str x, .int i => if x.length ≤ sizeLine then (atI x.cps.toList i).map fun c => .str ⟨#[c]⟩ else none
  | .dct false kvs, k => (toKey k).bind fun _ => lookD kvs k
  | .dct true kvs, .tup ks => (toKeys ks).bind fun _ => lookD kvs (.tup ks)
  | _, _ => none
theorem atI_rep {F : Hp} {vs : List V} {ds : List D} (r : RepL C F vs ds) {i : Int} {d : D} (h : atI ds i = some d) : ∃ v, atI vs i = some v ∧ Rep C F v d := by
  unfold atI at h ⊢
  rw [r.length]
  cases q : ixN ds.length i with
  | none => rw [q] at h; cases h
  | some j =>
    rw [q] at h
    exact r.get h
section
variable {X : Cx} {W : WX} {G : List O} {a b e : Expr} {es : List Expr} {pos : Pos}
theorem RepL.keys {F P H : Hp} {Lk : Lock} {L : List Cell} (S : Stt C F P Lk L H) : ∀ {ks : List Key} {vs : List V}, RepL C F vs (ks.map keyD) → vs = ks.map kV
  | [], _, h => by cases h; rfl
  | .inl i :: ks, _, .cons h r => by cases h; rw [RepL.keys S r]; rfl
  | .inr i :: ks, _, .cons h r => by cases h; rw [RepL.keys S r]; rfl
theorem ix_D (hK : X.K = C.K) (hu : X.A.units + 1 < cLine) : IxR X (rO2 C ixD .z) := by
  intro value slice pins s σ H x y v u Q I rx ry ⟨F, P, Lk, L, dx, dy, dz, S, hx, hy, e, k⟩ hs
  unfold ixD at e
  split at e
  · cases hx with
    | lst h r =>
      obtain ⟨z, hz, Rz⟩ := atI_rep r e
      exact ix_list value slice pins s σ H _ y v u Q I rx ry ⟨_, _, _, z, rfl, rep_int hy, .inl (S.rdL h), hz, k z F H (Ext.refl F) (S.zcons Rz)⟩ hs
  · cases hx with
    | tup h r =>
      obtain ⟨z, hz, Rz⟩ := atI_rep r e
      exact ix_tup value slice pins s σ H _ y v u Q I rx ry ⟨_, _, _, z, rfl, rep_int hy, SqT.of (S.tup h), hz, k z F H (Ext.refl F) (S.zcons Rz)⟩ hs
  · cases hx with
    | ktup h r =>
      obtain ⟨z, hz, Rz⟩ := atI_rep r e
      exact ix_tup value slice pins s σ H _ y v u Q I rx ry ⟨_, _, _, z, rfl, rep_int hy, by rw [hK]; exact sqT_k h, hz, k z F H (Ext.refl F) (S.zcons Rz)⟩ hs
  · cases hx with
    | klst h r =>
      obtain ⟨z, hz, Rz⟩ := atI_rep r e
      exact ix_list value slice pins s σ H _ y v u Q I rx ry ⟨_, _, _, z, rfl, rep_int hy, by rw [hK]; exact sqL_k h, hz, k z F H (Ext.refl F) (S.zcons Rz)⟩ hs
  · split at e
    · rename_i hl
      obtain ⟨c, hc, rfl⟩ := Option.map_eq_some_iff.mp e
      exact ix_str value slice pins s σ H _ y v u Q I rx ry ⟨_, _, c, rep_str hx, rep_int hy, hl, hc, k _ F H (Ext.refl F) (S.zcons (.str _))⟩ hs
    · cases e
  · obtain ⟨ky, hky, e⟩ := Option.bind_eq_some_iff.mp e
    have hdk := toKey_some hky
    subst hdk
    cases hx with
    | dK h r =>
      obtain ⟨z, hz, Rz⟩ := (look_rel keyD keyB_key r ky).1 _ e
      have g : DGet H _ y (some z) := .inl ⟨_, ky, S.rd h, by cases ky <;> (cases hy; rfl), hz.symm⟩
      cases rx
      exact tail_any (dict_typeIs I g) PySem.F.slot_dict_getitem.lookup (d_getItem hu I g ry fun w' s3 I3 rw' => ⟨z, H, I3, rw', k z F H (Ext.refl F) (S.zcons Rz)⟩) hs
  · obtain ⟨ks, hks, e⟩ := Option.bind_eq_some_iff.mp e
    have hdk := toKeys_some hks
    subst hdk
    cases hx with
    | dT h r =>
      obtain ⟨z, hz, Rz⟩ := (look_rel tupD keyB_tup r ks).1 _ e
      cases hy with
      | @tup b vs ds hb rb =>
        have hvs := RepL.keys S rb
        subst hvs
        have g : DGet H _ (.ref b) (some z) := .inr ⟨_, ks, b, S.rd h, rfl, S.tup hb, hz.symm⟩
        cases rx
        exact tail_any (dict_typeIs I g) PySem.F.slot_dict_getitem.lookup (d_getItem hu I g ry fun w' s3 I3 rw' => ⟨z, H, I3, rw', k z F H (Ext.refl F) (S.zcons Rz)⟩) hs
  · cases e
theorem de_ix {f h : SE} (hK : X.K = C.K) (hu : X.A.units + 1 < cLine) (ha : PE X a (tD C W G f .z)) (hb : PE X b (tD C W G h .z)) (hs : PlainIx b) : PE X (.Subscript a b pos) (tD C W G (e2 ixD f h) .z) :=
  PE_weak (pe_ix (ix_D hK hu) ha hb hs) fun _ _ _ q => tD2 (fun _ _ _ h => h) (fun _ _ _ h => h) q

/-! ### slices -/
def cutD (xs : List D) (lo hi : Option Int) : List D := (xs.drop (HT.sIx xs.length 0 lo)).take (HT.sIx xs.length xs.length hi - HT.sIx xs.length 0 lo)
def slD : D → Option Int → Option Int → Option D
  | .lst xs, lo, hi => some (.lst (cutD xs lo hi))
  | .tup xs, lo, hi => some (.tup (cutD xs lo hi))
  | .str x, lo, hi => if x.length ≤ sizeLine then some (.str (cutS x lo hi)) else none
  | _, _, _ => none
abbrev SO := DL.Env → Res (Option Int)
def oNone : SO := fun r => .ok none r
def oInt (f : SE) : SO := fun r => (f r).bind fun d r1 => match d with
  | .int i => .ok (some i) r1
  | _ => .stk
def eSl (f : SE) (lo hi : SO) : SE := fun r => (f r).bind fun x r1 => (lo r1).bind fun l r2 => (hi r2).bind fun h r3 => opt (slD x l h) r3
def tDO (C : Cfg) (W : WX) (G : List O) (f : SO) : TO := fun σ H Q => ∃ F P Lk r, EnvX C [] F P Lk G r σ H ∧
  RD C W F P Lk σ (f r) fun o r' => ∀ F' H', Ext F F' → EnvX C [] F' P Lk G r' σ H' → Q o H'
theorem do_none : PO X none (tDO C W G oNone) := by
  have h := po_none (X := X)
  refine ⟨fun pins s σ H Q I q => h.run pins s σ H Q I ?_⟩
  obtain ⟨F, P, Lk, r, E, q⟩ := q
  exact q F H (Ext.refl F) E
theorem do_int {f : SE} (hf : PE X e (tD C W G f .z)) : PO X (some e) (tDO C W G (oInt f)) := by
  have h := po_some hf
  refine ⟨fun pins s σ H Q I q => h.run pins s σ H Q I ?_⟩
  obtain ⟨F, P, Lk, r, E, q⟩ := q
  refine ⟨F, P, Lk, r, E, (RD.bind q).mono fun d r1 q1 v F1 H1 x1 E0 => ?_⟩
  obtain ⟨R1, E1⟩ := E0.rep
  clear E0
  cases R1 with
  | int i => exact ⟨i, rfl, q1 F1 H1 x1 E1⟩
  | _ => exact q1.elim
theorem cut_rep {F : Hp} {vs : List V} {ds : List D} (r : RepL C F vs ds) (lo hi : Option Int) : RepL C F (cutV vs lo hi) (cutD ds lo hi) := by
  unfold cutV cutD
  rw [r.length]
  exact (r.drop _).take _
theorem sl_D (hK : X.K = C.K) : SlR X (fun x lo hi H Q => ∃ F P Lk L dx dz, Stt C F P Lk L H ∧ Rep C F x dx ∧ slD dx lo hi = some dz ∧ ∀ w F' H', Ext F F' → Stt C F' P Lk ((.z, w, dz) :: L) H' → Q w H') := by
  intro pins s σ H x v vl vu lo hi sl Q I rx hs pl pu ⟨F, P, Lk, L, dx, dz, S, hx, e, k⟩
  unfold slD at e
  split at e
  · cases e
    cases hx with
    | lst h r =>
      refine sl_list pins s σ H _ v vl vu _ _ sl Q I rx hs pl pu ⟨_, _, rfl, .inl (S.rdL h), fun p hp => ?_⟩
      obtain ⟨x2, S2⟩ := S.newZ (o := .lst _) hp
      exact k _ _ _ x2 (S2.zcons (.lst (.inl upd_same) ((cut_rep r _ _).mono x2)))
  · cases e
    cases hx with
    | @tup a vs ds h r =>
      refine sl_tupA pins s σ H _ v vl vu _ _ sl Q I rx hs pl pu ⟨_, _, rfl, SqT.of (S.tup h), fun hw => ?_, fun _ p hp => ?_⟩
      · refine k _ F H (Ext.refl F) (S.zcons ?_)
        have z := cut_rep r lo hi
        have e1 : cutV vs lo hi = vs := by
          unfold cutV
          rw [hw.1, hw.2]
          simp
        rw [e1] at z
        exact .tup h z
      · obtain ⟨x2, S2⟩ := S.newZ (o := .tup _) hp
        exact k _ _ _ x2 (S2.zcons (.tup upd_same ((cut_rep r _ _).mono x2)))
  · split at e
    · rename_i hc
      cases e
      exact sl_str pins s σ H _ v vl vu _ _ sl Q I rx hs pl pu ⟨_, rep_str hx, hc, k _ F H (Ext.refl F) (S.zcons (.str _))⟩
    · cases e
  · cases e
theorem de_sl {f : SE} {lo hi : Option Expr} {fl fh : SO} {p2 : Pos} (hK : X.K = C.K) (ha : PE X a (tD C W G f .z)) (hl : PO X lo (tDO C W G fl)) (hh : PO X hi (tDO C W G fh)) :
    PE X (.Subscript a (.Slice lo hi none p2) pos) (tD C W G (eSl f fl fh) .z) := by
  refine PE_weak (pe_slice (sl_D (C := C) hK) ha hl hh) fun σ H Q q => ?_
  obtain ⟨F, P, Lk, r, E, q⟩ := q
  refine ⟨F, P, Lk, r, E, (RD.bind q).mono fun dx r1 q1 x F1 H1 x1 E0 => ?_⟩
  obtain ⟨R1, E1⟩ := E0.rep
  clear E0
  refine ⟨F1, P, Lk, r1, E1, (RD.bind (q1.ext x1 (Ext.refl P))).mono fun l r2 q2 F2 H2 x2 E2 => ?_⟩
  refine ⟨F2, P, Lk, r2, E2, (RD.bind (q2.ext x2 (Ext.refl P))).mono fun u r3 q3 F3 H3 x3 E3 => ?_⟩
  obtain ⟨dz, e3, q4⟩ := RD_opt q3
  obtain ⟨L, E3, S3⟩ := E3
  exact ⟨F3, P, Lk, L, dx, dz, S3, R1.mono (x2.trans x3), e3, fun w F' H' x' S' => q4 w F' H' (((x1.trans x2).trans x3).trans x') ⟨L, E3, S'⟩⟩

/-! ### in -/
def inD (x y : D) : Option Bool := match y with
  | .lst ys => match shp x, shp (.lst ys) with
    | some a, some (.list bs) => some (anyEq a bs)
    | _, _ => none
  | .tup ys => match shp x, shp (.tup ys) with
    | some a, some (.tuple bs) => some (anyEq a bs)
    | _, _ => none
  | .ktup ys => match shp x, shp (.ktup ys) with
    | some a, some (.tuple bs) => some (anyEq a bs)
    | _, _ => none
  | .str t => match x with
    | .str s => some (!(Builtin.Str.occurrences t s 0 t.length 1).isEmpty)
    | _ => none
  | .dct false kvs => (toKey x).bind fun _ => some (lookD kvs x).isSome
  | .dct true kvs => match x with
    | .tup ks => (toKeys ks).bind fun _ => some (lookD kvs (.tup ks)).isSome
    | _ => none
  | _ => none
def ninD (x y : D) : Option Bool := (inD x y).map (!·)
theorem look_get {F P H : Hp} {Lk : Lock} {L : List Cell} {a : Addr} {x : V} {dx : D} {b : Bool} (S : Stt C F P Lk L H) {t : Bool} {kvs : List (D × D)} (hx : Rep C F x dx) (hy : Rep C F (.ref a) (.dct t kvs)) (e : inD dx (.dct t kvs) = some b) : ∃ o, DGet H a x o ∧ o.isSome = b ∧
    ∀ v, o = some v → ∃ d, lookD kvs dx = some d ∧ Rep C F v d := by
  cases hy with
  | dK h r =>
    obtain ⟨ky, hky, e⟩ := Option.bind_eq_some_iff.mp e
    have hdk := toKey_some hky
    subst hdk
    have e : (lookD _ (keyD ky)).isSome = b := Option.some.inj e
    refine ⟨_, .inl ⟨_, ky, S.rd h, by cases ky <;> (cases hx; rfl), rfl⟩, ?_, fun v hv => ?_⟩
    · cases q : lookD _ (keyD ky) with
      | none => rw [q] at e; rw [(look_rel keyD keyB_key r ky).2 q]; exact e
      | some d => rw [q] at e; obtain ⟨z, hz, _⟩ := (look_rel keyD keyB_key r ky).1 _ q; rw [hz]; exact e
    · cases q : lookD _ (keyD ky) with
      | none => rw [(look_rel keyD keyB_key r ky).2 q] at hv; cases hv
      | some d => obtain ⟨z, hz, Rz⟩ := (look_rel keyD keyB_key r ky).1 _ q; rw [hz] at hv; cases hv; exact ⟨d, rfl, Rz⟩
  | dT h r =>
    cases hx with
    | @tup bb vs ks hb rb =>
      obtain ⟨ky, hky, e⟩ := Option.bind_eq_some_iff.mp e
      have hdk := toKeys_some hky
      subst hdk
      have e : (lookD _ (tupD ky)).isSome = b := Option.some.inj e
      have hvs := RepL.keys S rb
      subst hvs
      refine ⟨_, .inr ⟨_, ky, bb, S.rd h, rfl, S.tup hb, rfl⟩, ?_, fun v hv => ?_⟩
      · cases q : lookD _ (tupD ky) with
        | none => rw [q] at e; rw [(look_rel tupD keyB_tup r ky).2 q]; exact e
        | some d => rw [q] at e; obtain ⟨z, hz, _⟩ := (look_rel tupD keyB_tup r ky).1 _ q; rw [hz]; exact e
      · cases q : lookD _ (tupD ky) with
        | none => rw [(look_rel tupD keyB_tup r ky).2 q] at hv; cases hv
        | some d => obtain ⟨z, hz, Rz⟩ := (look_rel tupD keyB_tup r ky).1 _ q; rw [hz] at hv; cases hv; exact ⟨d, q, Rz⟩
    | _ => cases e
theorem inTup {A : Around} {pins : List (Addr × Obj)} {σ : L2.St} {H : Hp} {s : Shared} {x y : V} {v u : Value} {p : PyData} {qs : List PyData} {Q : Value → Shared → Prop} {E : Value → Shared → Prop} (I : Inv X pins σ H s) (hu : A.units + 65 < cLine) (rx : RelV x v) (ry : RelV y u)
    (dx : Dp X.K H x p) (dy : Dp X.K H y (.tuple qs)) (s1 : SeqAt.shaped p = true) (s2 : SeqAt.shaped (.tuple qs) = true) :
    (Q (.bool (anyEq p qs)) s → wpAny (model X.prog X.w) A (compareOp .In v u) Q E s) ∧ (Q (.bool (!anyEq p qs)) s → wpAny (model X.prog X.w) A (compareOp .NotIn v u) Q E s) := by
  obtain ⟨as, r1⟩ := Dp.reads I _ x v dx rx
  obtain ⟨bs, r2⟩ := Dp.reads I _ y u dy ry
  exact ⟨fun q => SeqAt.in_tuple_reads r2 r1 (SeqAt.canLay_of_shaped s2) (SeqAt.canLay_of_shaped s1) (PyProof.Rows.room_in_shaped s1 hu) q,
    fun q => SeqAt.notIn_tuple_reads r2 r1 (SeqAt.canLay_of_shaped s2) (SeqAt.canLay_of_shaped s1) (PyProof.Rows.room_in_shaped s1 hu) q⟩
theorem in_both (hK : X.K = C.K) (hu : X.A.units + 65 < cLine) {pins : List (Addr × Obj)} {s : Shared} {σ : L2.St} {H F P : Hp} {Lk : Lock} {L : List Cell} {x y : V} {v u : Value} {dx dy : D} {b : Bool} (I : Inv X pins σ H s) (rx : RelV x v) (ry : RelV y u) (S : Stt C F P Lk L H) (hx : Rep C F x dx) (hy : Rep C F y dy) (e : inD dx dy = some b) :
    (∀ Q : VK, Q (.bl b) H → wpAny (model X.prog X.w) X.A (compareOp .In v u) (EP X pins σ Q) X.xe s) ∧ (∀ Q : VK, Q (.bl (!b)) H → wpAny (model X.prog X.w) X.A (compareOp .NotIn v u) (EP X pins σ Q) X.xe s) := by
  unfold inD at e
  split at e
  · split at e
    · rename_i p qs h1 h2
      obtain ⟨t1, s1⟩ := shp_of h1
      obtain ⟨t2, s2⟩ := shp_of h2
      cases e
      exact ⟨fun Q q => op_inD hu pins s σ H x y v u Q I rx ry ⟨_, _, by rw [hK]; exact hx.dp S t1, by rw [hK]; exact hy.dp S t2, s1, s2, q⟩,
        fun Q q => op_notInD hu pins s σ H x y v u Q I rx ry ⟨_, _, by rw [hK]; exact hx.dp S t1, by rw [hK]; exact hy.dp S t2, s1, s2, q⟩⟩
    · cases e
  · split at e
    · rename_i p qs h1 h2
      obtain ⟨t1, s1⟩ := shp_of h1
      obtain ⟨t2, s2⟩ := shp_of h2
      cases e
      have d1 : Dp X.K H x p := by rw [hK]; exact hx.dp S t1
      have d2 : Dp X.K H y (.tuple qs) := by rw [hK]; exact hy.dp S t2
      exact ⟨fun Q q => (inTup I hu rx ry d1 d2 s1 s2).1 ⟨.bl _, H, I, rfl, q⟩, fun Q q => (inTup I hu rx ry d1 d2 s1 s2).2 ⟨.bl _, H, I, rfl, q⟩⟩
    · cases e
  · split at e
    · rename_i p qs h1 h2
      obtain ⟨t1, s1⟩ := shp_of h1
      obtain ⟨t2, s2⟩ := shp_of h2
      cases e
      have d1 : Dp X.K H x p := by rw [hK]; exact hx.dp S t1
      have d2 : Dp X.K H y (.tuple qs) := by rw [hK]; exact hy.dp S t2
      exact ⟨fun Q q => (inTup I hu rx ry d1 d2 s1 s2).1 ⟨.bl _, H, I, rfl, q⟩, fun Q q => (inTup I hu rx ry d1 d2 s1 s2).2 ⟨.bl _, H, I, rfl, q⟩⟩
    · cases e
  · split at e
    · cases e
      exact ⟨fun Q q => op_in_str pins s σ H x y v u Q I rx ry ⟨_, _, rep_str hx, rep_str hy, q⟩, fun Q q => L2.op_notIn_str pins s σ H x y v u Q I rx ry ⟨_, _, rep_str hx, rep_str hy, q⟩⟩
    · cases e
  · obtain ⟨a, rfl⟩ : ∃ a, y = .ref a := by cases hy; exact ⟨_, rfl⟩
    obtain ⟨o, g, ho, _⟩ := look_get S hx hy e
    cases ry
    subst ho
    exact ⟨fun Q q => d_in (by omega) I g rx fun s3 I3 => ⟨.bl o.isSome, H, I3, rfl, q⟩, fun Q q => d_notIn (by omega) I g rx fun s3 I3 => ⟨.bl (!o.isSome), H, I3, rfl, q⟩⟩
  · split at e
    · obtain ⟨a, rfl⟩ : ∃ a, y = .ref a := by cases hy; exact ⟨_, rfl⟩
      obtain ⟨o, g, ho, _⟩ := look_get S hx hy e
      cases ry
      subst ho
      exact ⟨fun Q q => d_in (by omega) I g rx fun s3 I3 => ⟨.bl o.isSome, H, I3, rfl, q⟩, fun Q q => d_notIn (by omega) I g rx fun s3 I3 => ⟨.bl (!o.isSome), H, I3, rfl, q⟩⟩
    · cases e
  · cases e
theorem op_in_D (hK : X.K = C.K) (hu : X.A.units + 65 < cLine) : OpR X (compareOp .In) (rO2 C (gB inD) .z) := by
  intro pins s σ H x y v u Q I rx ry ⟨F, P, Lk, L, dx, dy, dz, S, hx, hy, e0, k⟩
  obtain ⟨b, e, e2⟩ := gB_some e0
  subst e2
  exact (in_both hK hu I rx ry S hx hy e).1 Q (k _ F H (Ext.refl F) (S.zcons (.bl _)))
theorem op_nin_D (hK : X.K = C.K) (hu : X.A.units + 65 < cLine) : OpR X (compareOp .NotIn) (rO2 C (gB ninD) .z) := by
  intro pins s σ H x y v u Q I rx ry ⟨F, P, Lk, L, dx, dy, dz, S, hx, hy, e0, k⟩
  obtain ⟨b, e1, e2⟩ := gB_some e0
  subst e2
  obtain ⟨b', e, e3⟩ := Option.map_eq_some_iff.mp e1
  subst e3
  exact (in_both hK hu I rx ry S hx hy e).2 Q (k _ F H (Ext.refl F) (S.zcons (.bl _)))
/-! ### is None -/
def isND (x y : D) : Option Bool := match y with
  | .non => match x with
    | .non => some true
    | .opq _ => none
    | _ => some false
  | .bl b => match x with
    | .bl a => some (decide (a = b))
    | _ => none
  | _ => none
def isNND (x y : D) : Option Bool := (isND x y).map (!·)
theorem isN_rep {F : Hp} {x : V} {dx : D} {b : Bool} (hx : Rep C F x dx) (e : isND dx .non = some b) : decide (x = V.non) = b := by
  cases hx <;> simp [isND] at e <;> subst e <;> simp
theorem op_is_D : OpR X (compareOp .Is) (rO2 C (gB isND) .z) := by
  intro pins s σ H x y v u Q I rx ry ⟨F, P, Lk, L, dx, dy, dz, S, hx, hy, e0, k⟩
  obtain ⟨b, e, e2⟩ := gB_some e0
  subst e2
  cases hy with
  | non => exact op_isN pins s σ H x _ v u Q I rx ry ⟨rfl, by rw [isN_rep hx e]; exact k _ F H (Ext.refl F) (S.zcons (.bl _))⟩
  | bl c =>
    cases hx <;> simp [isND] at e
    subst e
    exact op_is_bl pins s σ H _ _ v u Q I rx ry ⟨_, _, rfl, rfl, k _ F H (Ext.refl F) (S.zcons (.bl _))⟩
  | _ => simp [isND] at e
theorem op_isn_D : OpR X (compareOp .IsNot) (rO2 C (gB isNND) .z) := by
  intro pins s σ H x y v u Q I rx ry ⟨F, P, Lk, L, dx, dy, dz, S, hx, hy, e0, k⟩
  obtain ⟨b, e1, e2⟩ := gB_some e0
  subst e2
  obtain ⟨b', e, e3⟩ := Option.map_eq_some_iff.mp e1
  subst e3
  cases hy with
  | non => exact op_notN pins s σ H x _ v u Q I rx ry ⟨rfl, by rw [isN_rep hx e]; exact k _ F H (Ext.refl F) (S.zcons (.bl _))⟩
  | bl c =>
    cases hx <;> simp [isND] at e
    subst e
    exact op_isnot_bl pins s σ H _ _ v u Q I rx ry ⟨_, _, rfl, rfl, by simpa using k _ F H (Ext.refl F) (S.zcons (.bl _))⟩
  | _ => simp [isND] at e

/-! ### list(..), tuple(..) -/
theorem call_tuple_D (hK : X.K = C.K) : CallR X (.type "tuple") (rON C (g1 tupleD) .z) :=
  cr1 call_tuple_of fun F P Lk L H x dx dz Q S R e q => by
    unfold tupleD at e
    split at e
    · cases e
      cases R with
      | lst h r =>
        refine ⟨_, _, rfl, .inl ⟨.inl (S.rdL h), fun p hp => ?_⟩⟩
        obtain ⟨x2, S2⟩ := S.newZ (o := .tup _) hp
        exact q _ _ _ x2 (S2.zcons (.tup upd_same (r.mono x2)))
    · cases e
      cases R with
      | tup h r => exact ⟨_, _, rfl, .inr ⟨SqT.of (S.tup h), q _ F H (Ext.refl F) (S.zcons (.tup h r))⟩⟩
    · cases e
      cases R with
      | ktup h r => exact ⟨_, _, rfl, .inr ⟨by rw [hK]; exact sqT_k h, q _ F H (Ext.refl F) (S.zcons (.ktup h r))⟩⟩
    · cases e
end
end DL
set_option Elab.async false
set_option linter.all false
set_option autoImplicit false
set_option maxHeartbeats 1000000
/-! the data layer, part 6: what is walked; for; comprehensions -/
namespace DL
open PySem PySem.Spec PyProof.Rows L2
variable {C : Cfg}

/-- the iterator J yields the items, whatever is built above F -/
structure Yld (C : Cfg) (J : It) (F : Hp) (items : List D) : Prop where
  go : ∀ (i : Nat) F2 P Lk L H, Ext F F2 → Stt C F2 P Lk L H → i < items.length → J.go i H
  stop : ∀ F2 P Lk L H, Ext F F2 → Stt C F2 P Lk L H → J.stop items.length H
  yld : ∀ (i : Nat) F2 P Lk L H v H', Ext F F2 → Stt C F2 P Lk L H → i < items.length → J.yld i H v H' → ∃ F3 d, Ext F2 F3 ∧ items[i]? = some d ∧ Rep C F3 v d ∧ Stt C F3 P Lk L H'
abbrev SI := DL.Env → Res (List D)
def tDI (C : Cfg) (W : WX) (G : List O) (f : SI) : TI := fun σ H R => ∃ F P Lk r, EnvX C [] F P Lk G r σ H ∧
  RD C W F P Lk σ (f r) fun items r' => ∀ J F' H', Ext F F' → EnvX C [] F' P Lk G r' σ H' → Yld C J F' items → R J H'
section
variable {X : Cx} {W : WX} {G : List O} {a b e tg : Expr} {es : List Expr} {pos : Pos}
theorem PI_weak {t t' : TI} (h : PI X tg e t) (k : ∀ σ H R, t' σ H R → t σ H R) : PI X tg e t' := ⟨fun pins s σ H R I h' => h.run pins s σ H R I (k _ _ _ h')⟩
theorem yld_list {K : PySem.W.Frag} {F : Hp} {a : Addr} {vs : List V} {ds : List D} (h : Rd F a (.lst vs)) (r : RepL C F vs ds) : Yld C (Itl K a) F ds where
  go := fun i F2 P Lk L H e S hi => by
    obtain ⟨v, hv, _⟩ := r.get (List.getElem?_eq_getElem hi)
    exact ⟨vs, v, .inl (S.rdL (e.rd h)), hv⟩
  stop := fun F2 P Lk L H e S => ⟨vs, .inl (S.rdL (e.rd h)), by rw [r.length]; exact Nat.le_refl _⟩
  yld := fun i F2 P Lk L H v H' e S hi y => by
    obtain ⟨e1, y⟩ := y
    subst e1
    obtain ⟨d, hd, Rd⟩ := r.get' (y vs (.inl (S.rdL (e.rd h))))
    exact ⟨F2, d, Ext.refl _, hd, Rd.mono e, S⟩
theorem yld_tup {K : PySem.W.Frag} {F : Hp} {a : Addr} {vs : List V} {ds : List D} (h : ∀ F2 P Lk L H, Ext F F2 → Stt C F2 P Lk L H → SqT K H a vs) (r : RepL C F vs ds) : Yld C (Itt K a) F ds where
  go := fun i F2 P Lk L H e S hi => by
    obtain ⟨v, hv, _⟩ := r.get (List.getElem?_eq_getElem hi)
    exact ⟨vs, v, h _ _ _ _ _ e S, hv⟩
  stop := fun F2 P Lk L H e S => ⟨vs, h _ _ _ _ _ e S, by rw [r.length]; exact Nat.le_refl _⟩
  yld := fun i F2 P Lk L H v H' e S hi y => by
    obtain ⟨e1, y⟩ := y
    subst e1
    obtain ⟨d, hd, Rd⟩ := r.get' (y vs (h _ _ _ _ _ e S))
    exact ⟨F2, d, Ext.refl _, hd, Rd.mono e, S⟩
theorem yld_range {lo : Int} {n : Nat} {F : Hp} : Yld C (Itr lo n) F ((List.range n).map fun i => D.int (lo + (i : Nat))) where
  go := fun i F2 P Lk L H e S hi => by show i < n; simpa using hi
  stop := fun F2 P Lk L H e S => by show n ≤ _; simp
  yld := fun i F2 P Lk L H v H' e S hi y => by
    obtain ⟨e1, y⟩ := y
    subst e1 y
    have hi : i < n := by simpa using hi
    exact ⟨F2, _, Ext.refl _, by simp [hi], .int _, S⟩
theorem yld_str {x : Str} {F : Hp} : Yld C (Its x) F (x.cps.toList.map fun c => D.str ⟨#[c]⟩) where
  go := fun i F2 P Lk L H e S hi => by show i < x.cps.size; simpa using hi
  stop := fun F2 P Lk L H e S => by show x.cps.size ≤ _; simp
  yld := fun i F2 P Lk L H v H' e S hi y => by
    obtain ⟨e1, c, hc, y⟩ := y
    subst e1 y
    exact ⟨F2, .str ⟨#[c]⟩, Ext.refl _, by simp [hc], .str _, S⟩
/-! a list, a tuple, a text by itself -/
def itD : D → Option (List D)
  | .lst xs => some xs
  | .tup xs => some xs
  | .ktup xs => some xs
  | .str x => some (x.cps.toList.map fun c => D.str ⟨#[c]⟩)
  | _ => none
def iE (f : SE) : SI := fun r => (f r).bind fun d r1 => opt (itD d) r1
theorem di_val {f : SE} (hK : X.K = C.K) (he : PE X e (tD C W G f .z)) : PI X tg e (tDI C W G (iE f)) := by
  have h1 := pi_list (tg := tg) he
  have h2 := pi_tup (tg := tg) he
  have h3 := pi_str (tg := tg) he
  refine ⟨fun pins s σ H R I q => ?_⟩
  obtain ⟨F, P, Lk, r, E, q⟩ := q
  have q := RD.bind (k := fun d r1 => opt (itD d) r1) q
  -- the value's kind is known before it is evaluated
  cases hf : f r with
  | stk => rw [hf] at q; exact q.elim
  | exc c fs =>
    rw [hf] at q
    refine h1.run pins s σ H R I ?_
    refine ⟨F, P, Lk, r, E, ?_⟩
    rw [hf]
    exact q
  | ok d r1 =>
    rw [hf] at q
    obtain ⟨items, e3, q3⟩ := RD_opt q
    have go : ∀ (K : V → Hp → Prop), (∀ v F' H', Ext F F' → EnvX C [(.z, v, d)] F' P Lk G r1 σ H' → K v H') → tD C W G f .z σ H K := fun K k => ⟨F, P, Lk, r, E, by rw [hf]; exact fun v F' H' x E' => k v F' H' x E'⟩
    unfold itD at e3
    split at e3
    · cases e3
      refine h1.run pins s σ H R I (go _ fun v F' H' x E0 => ?_)
      obtain ⟨R1, L, E1, S1⟩ := E0.rep
      clear E0
      cases R1 with
      | lst h rr => exact ⟨_, rfl, ⟨_, .inl (S1.rdL h)⟩, q3 _ F' H' x ⟨L, E1, S1⟩ (yld_list h rr)⟩
    · cases e3
      refine h2.run pins s σ H R I (go _ fun v F' H' x E0 => ?_)
      obtain ⟨R1, L, E1, S1⟩ := E0.rep
      clear E0
      cases R1 with
      | tup h rr => exact ⟨_, rfl, ⟨_, SqT.of (S1.tup h)⟩, q3 _ F' H' x ⟨L, E1, S1⟩ (yld_tup (fun F2 P2 Lk2 L2 H2 e2 S2 => SqT.of (S2.tup (e2 _ _ h))) rr)⟩
    · cases e3
      refine h2.run pins s σ H R I (go _ fun v F' H' x E0 => ?_)
      obtain ⟨R1, L, E1, S1⟩ := E0.rep
      clear E0
      cases R1 with
      | ktup h rr => exact ⟨_, rfl, ⟨_, by rw [hK]; exact sqT_k h⟩, q3 _ F' H' x ⟨L, E1, S1⟩ (yld_tup (fun F2 P2 Lk2 L2 H2 e2 S2 => by rw [hK]; exact sqT_k h) rr)⟩
    · cases e3
      refine h3.run pins s σ H R I (go _ fun v F' H' x E0 => ?_)
      obtain ⟨R1, L, E1, S1⟩ := E0.rep
      clear E0
      cases R1 with
      | str y => exact ⟨_, rfl, q3 _ F' H' x ⟨L, E1, S1⟩ yld_str⟩
    · cases e3
/-! ranges -/
def rngD (lo hi : Int) : List D := (List.range (hi - lo).toNat).map fun i => D.int (lo + (i : Nat))
def okI (i : Int) : Bool := decide (-(2 ^ 62) ≤ i) && decide (i < 2 ^ 62)
def rg1 : List D → Option (List D)
  | [.int j] => if okI j = true then some (rngD 0 j) else none
  | _ => none
def rg2 : List D → Option (List D)
  | [.int i, .int j] => if okI i = true ∧ okI j = true then some (rngD i j) else none
  | _ => none
def iRg1 (k : SA) : SI := fun r => (k r).bind fun ds r1 => opt (rg1 ds) r1
def iRg2 (k : SA) : SI := fun r => (k r).bind fun ds r1 => opt (rg2 ds) r1
theorem okI_iff {i : Int} : okI i = true ↔ -(2 ^ 62) ≤ i ∧ i < 2 ^ 62 := by simp [okI]
theorem di_range1 {k : SA} {p : Pos} (hg : Gl X "range") (hm : X.mg "range" = none) (ha : PA X [a] (tDA C W G k)) (hs : starEach [a] X.env = [(false, eval a X.env)] := by rfl) : PI X tg (.Call (.Name "range" p) [a] [] pos) (tDI C W G (iRg1 k)) := by
  refine PI_weak (pi_range1 hg hm ha hs) fun σ H R q => ?_
  obtain ⟨F, P, Lk, r, E, q⟩ := q
  refine ⟨F, P, Lk, r, E, (RD.bind q).mono fun ds r1 q1 vs F1 H1 x1 R1 E1 => ?_⟩
  obtain ⟨items, e3, q3⟩ := RD_opt q1
  unfold rg1 at e3
  split at e3
  · split at e3
    · rename_i j hj
      cases e3
      obtain ⟨v, rfl, Rv⟩ := repl1 R1
      have z := rep_int Rv
      subst z
      obtain ⟨z1, z2⟩ := okI_iff.mp hj
      refine ⟨j, rfl, z1, z2, q3 _ F1 H1 x1 E1 ?_⟩
      have e : rngD 0 j = (List.range j.toNat).map fun i => D.int ((0 : Int) + (i : Nat)) := by simp [rngD]
      rw [e]
      exact yld_range
    · cases e3
  · cases e3
theorem di_range2 {k : SA} {p : Pos} (hg : Gl X "range") (hm : X.mg "range" = none) (ha : PA X [a, b] (tDA C W G k)) (hs : starEach [a, b] X.env = [(false, eval a X.env), (false, eval b X.env)] := by rfl) (hs2 : starEach [b] X.env = [(false, eval b X.env)] := by rfl) :
    PI X tg (.Call (.Name "range" p) [a, b] [] pos) (tDI C W G (iRg2 k)) := by
  refine PI_weak (pi_range2 hg hm ha hs hs2) fun σ H R q => ?_
  obtain ⟨F, P, Lk, r, E, q⟩ := q
  refine ⟨F, P, Lk, r, E, (RD.bind q).mono fun ds r1 q1 vs F1 H1 x1 R1 E1 => ?_⟩
  obtain ⟨items, e3, q3⟩ := RD_opt q1
  unfold rg2 at e3
  split at e3
  · split at e3
    · rename_i i j hj
      cases e3
      obtain ⟨v, w, rfl, Rv, Rw⟩ := repl2 R1
      have z := rep_int Rv
      have z' := rep_int Rw
      subst z z'
      obtain ⟨z1, z2⟩ := okI_iff.mp hj.1
      obtain ⟨z3, z4⟩ := okI_iff.mp hj.2
      exact ⟨i, j, rfl, ⟨z1, z2, z3, z4⟩, q3 _ F1 H1 x1 E1 yld_range⟩
    · cases e3
  · cases e3
end

/-! ### targets -/
inductive Tg where
  | nm (i : Nat) | tp (ts : List Tg) | sb (i : Nat) (f : SE)
/-- in its place, or at the end -/
def putD (kvs : List (D × D)) (k e : D) : List (D × D) := if (kvs.any fun p => keyB p.1 k) = true then kvs.map fun p => if keyB p.1 k = true then (p.1, e) else p else kvs ++ [(k, e)]
/-- xs[i] = e; d[k] = e -/
def setIx : D → D → D → Option D
  | .lst xs, .int i, e => (ixN xs.length i).map fun j => .lst (xs.set j e)
  | .dct false kvs, k, e => if kvs.length < sizeLine then (toKey k).map fun _ => .dct false (putD kvs k e) else none
  | .dct true kvs, .tup ks, e => if kvs.length < sizeLine then (toKeys ks).map fun _ => .dct true (putD kvs (.tup ks) e) else none
  | _, _, _ => none
mutual
def Tg.put : Tg → D → DL.Env → Option DL.Env
  | .nm i, d, r => if i < r.length then some (r.set i (some d)) else none
  | .tp ts, .tup ds, r => Tg.putL ts ds r
  | .tp _, _, _ => none
  | .sb i f, d, r => match r[i]? with
    | some (some _) => match f r with
      | .ok ix r1 => match r1[i]? with
        | some (some c) => match setIx c ix d with
          | some c' => some (r1.set i (some c'))
          | none => none
        | _ => none
      | _ => none
    | _ => none
def Tg.putL : List Tg → List D → DL.Env → Option DL.Env
  | [], [], r => some r
  | t :: ts, d :: ds, r => match t.put d r with
    | some r1 => Tg.putL ts ds r1
    | none => none
  | _, _, _ => none
end
mutual
def Tg.slots : Tg → List Nat
  | .nm i => [i]
  | .tp ts => Tg.slotsL ts
  | .sb _ _ => []
def Tg.slotsL : List Tg → List Nat
  | [] => []
  | t :: ts => t.slots ++ Tg.slotsL ts
end
/-- alike but for some slots -/
def Off (l : List Nat) (σ σ' : L2.St) : Prop := σ'.length = σ.length ∧ ∀ j, j ∉ l → σ'[j]? = σ[j]?
theorem Off.trans {l m : List Nat} {σ σ1 σ2 : L2.St} (a : Off l σ σ1) (b : Off m σ1 σ2) : Off (l ++ m) σ σ2 :=
  ⟨b.1.trans a.1, fun j hj => (b.2 j fun z => hj (List.mem_append_right _ z)).trans (a.2 j fun z => hj (List.mem_append_left _ z))⟩
def tDG (C : Cfg) (G : List O) (t : Tg) : TG := fun v σ H Q => ∃ F P Lk r d r', EnvX C [] F P Lk G r σ H ∧ Rep C F v d ∧ t.put d r = some r' ∧ ∀ σ', Off t.slots σ σ' → ∀ F' H', Ext F F' → EnvX C [] F' P Lk G r' σ' H' → Q σ' H'
def tDGs (C : Cfg) (G : List O) (ts : List Tg) : TGs := fun vs σ H Q => ∃ F P Lk r ds r', EnvX C [] F P Lk G r σ H ∧ RepL C F vs ds ∧ Tg.putL ts ds r = some r' ∧ ∀ σ', Off (Tg.slotsL ts) σ σ' → ∀ F' H', Ext F F' → EnvX C [] F' P Lk G r' σ' H' → Q σ' H'
section
variable {X : Cx} {G : List O} {e tg : Expr} {es : List Expr} {pos : Pos}
theorem PG_weak {t t' : TG} (h : PG X tg t) (k : ∀ v σ H Q, t' v σ H Q → t v σ H Q) : PG X tg t' := ⟨fun pins s σ H v u Q I r h' => h.run pins s σ H v u Q I r (k _ _ _ _ h')⟩
theorem PGs_weak {t t' : TGs} (h : PGs X es t) (k : ∀ v σ H Q, t' v σ H Q → t v σ H Q) : PGs X es t' := ⟨fun pins s σ H v u Q I r h' => h.run pins s σ H v u Q I r (k _ _ _ _ h')⟩
theorem set_z {i : Nat} (h : G[i]? = some .z) : G.set i .z = G := by
  apply List.ext_getElem?
  intro j
  by_cases q : i = j
  · subst q
    rw [List.getElem?_set_self (List.getElem?_eq_some_iff.mp h).1, h]
  · rw [List.getElem?_set_ne q]
theorem dg_name {i : Nat} {x : Str} (hN : X.N.Nodup) (hi : X.N[i]? = some x) (hx : Loc X.env.scope x) (hG : G[i]? = some .z) (hf : X.fn x = true ∨ X.env.scope.names.lookup x = some .local := by first | exact .inl rfl | exact .inr rfl | assumption) : PG X (.Name x pos) (tDG C G (.nm i)) := by
  refine PG_weak (pg_name hN hi hx hf) fun v σ H Q q => ?_
  obtain ⟨F, P, Lk, r, d, r', E, R, e, k⟩ := q
  simp only [Tg.put] at e
  split at e
  · rename_i hl
    cases e
    refine k _ ⟨by simp, fun j hj => ?_⟩ F H (Ext.refl F) ?_
    · rw [List.getElem?_set_ne]
      rintro rfl
      exact hj (by simp [Tg.slots])
    · have z := (E.zcons R).put hl
      rw [set_z hG] at z
      exact z
  · cases e
theorem dgs_nil : PGs X [] (tDGs C G []) := by
  refine PGs_weak pgs_nil fun v σ H Q q => ?_
  obtain ⟨F, P, Lk, r, ds, r', E, R, e, k⟩ := q
  cases ds with
  | nil =>
    cases R
    simp [Tg.putL] at e
    subst e
    exact ⟨rfl, k σ ⟨rfl, fun _ _ => rfl⟩ F H (Ext.refl F) E⟩
  | cons d ds => simp [Tg.putL] at e
theorem dgs_cons {t : Tg} {ts : List Tg} (h1 : PG X e (tDG C G t)) (h2 : PGs X es (tDGs C G ts)) (hs : (assignEach (e :: es) X.env).map (·.2) = assign e X.env :: (assignEach es X.env).map (·.2) := by rfl) : PGs X (e :: es) (tDGs C G (t :: ts)) := by
  refine PGs_weak (pgs_cons h1 h2 hs) fun v σ H Q q => ?_
  obtain ⟨F, P, Lk, r, ds, r', E, R, e, k⟩ := q
  cases ds with
  | nil => simp [Tg.putL] at e
  | cons d ds =>
    cases R with
    | cons a rr =>
      cases ht : t.put d r with
      | none => simp [Tg.putL, ht] at e
      | some r1 =>
        simp [Tg.putL, ht] at e
        refine ⟨_, _, rfl, F, P, Lk, r, d, r1, E, a, ht, fun σ1 o1 F1 H1 x1 E1 => ⟨F1, P, Lk, r1, ds, r', E1, rr.mono x1, e, fun σ2 o2 F2 H2 x2 E2 => k σ2 ?_ F2 H2 (x1.trans x2) E2⟩⟩
        have z := o1.trans o2
        simpa [Tg.slotsL] using z
theorem dg_tup {ts : List Tg} {k : Nat} {n : Nat} (hK : X.K = C.K) (hc : X.calm = true) (h : PGs X es (tDGs C G ts)) (hl : ts.length = n) (hn : (assignEach es X.env).length = n := by rfl) (hst : (assignEach es X.env).findIdx? (·.1) = none := by rfl) :
    PG X (.Tuple es k pos) (tDG C G (.tp ts)) := by
  refine PG_weak (pg_tup hc h hn hst) fun v σ H Q q => ?_
  obtain ⟨F, P, Lk, r, d, r', E, R, e, k⟩ := q
  have len : ∀ {ts : List Tg} {ds : List D} {r r' : DL.Env}, Tg.putL ts ds r = some r' → ds.length = ts.length := by
    intro ts
    induction ts with
    | nil => intro ds r r' h; cases ds <;> simp [Tg.putL] at h ⊢
    | cons t ts ih =>
      intro ds r r' h
      cases ds with
      | nil => simp [Tg.putL] at h
      | cons d ds =>
        cases ht : t.put d r with
        | none => simp [Tg.putL, ht] at h
        | some r1 => simp [Tg.putL, ht] at h; simp [ih h]
  cases R with
  | @tup a vs ds h rr =>
    have e : Tg.putL ts ds r = some r' := by simpa [Tg.put] using e
    obtain ⟨L, E1, S1⟩ := E
    refine ⟨a, vs, rfl, SqT.of (S1.tup h), by rw [rr.length, len e, hl], F, P, Lk, r, ds, r', ⟨L, E1, S1⟩, rr, e, fun σ' o' F' H' x' E' => k σ' (by simpa [Tg.slots] using o') F' H' x' E'⟩
  | _ => simp [Tg.put] at e
end

/-! ### for -/
def forL (t : Tg) (body : SS) : List D → DL.Env → Fl
  | [], r => .nx r
  | d :: ds, r => match t.put d r with
    | some r1 => (body r1).seq (forL t body ds)
    | none => .stk
def sFor (it : SI) (t : Tg) (body : SS) : SS := fun r => (it r).fl fun items r1 => forL t body items r1
section
variable {X : Cx} {W : WX} {R : Rt} {G : List O} {e tg iter : Expr} {body : List Stmt} {pos : Pos}
theorem Off.keep {l pm : List Nat} {σ σ' : L2.St} (h : Off l σ σ') (d : (l.all fun i => !pm.contains i) = true) : Keep pm σ σ' := fun i hi => h.2 i fun z => by
  have := List.all_eq_true.mp d i z
  rw [List.contains_iff_mem.mpr hi] at this
  cases this
theorem d_for {it : SI} {t : Tg} {bs : SS} (hW : WK W R.pm) (hp : PassesOwn (model X.prog X.w) X.A X.env X.xe) (hc : X.calm = true) (hi : PI X tg iter (tDI C W G it)) (hg : PG X tg (tDG C G t)) (hb : PSs X body (tDS C W R G bs G)) (hd : (t.slots.all fun i => !R.pm.contains i) = true)
    (hs : ∀ x, foldedSetIterable iter X.env x = pure x := by intro _; rfl) : PS X (.For tg iter body [] pos) (tDS C W R G (sFor it t bs) G) := by
  refine PS_weak (ps_for hp hc hi hg hb hs) fun D σ H q => ?_
  obtain ⟨F, P, Lk, r, E, q⟩ := q
  refine ⟨F, P, Lk, r, E, (RF.fl q).mono fun items r1 q1 J F1 H1 x1 E1 Y => ?_⟩
  refine ⟨fun i m σ' H' => m = items.length - i ∧ i ≤ items.length ∧ Keep R.pm σ σ' ∧ ∃ F' r', Ext F1 F' ∧ EnvX C [] F' P Lk G r' σ' H' ∧ RF C W F' P Lk σ' (forL t bs (items.drop i) r')
      (fun r' => ∀ σ'' F'' H'', Ext F' F'' → Keep R.pm σ' σ'' → EnvX C [] F'' P Lk G r' σ'' H'' → D.nx σ'' H'')
      (fun d r' => ∀ v σ'' F'' H'', Ext F' F'' → Keep R.pm σ' σ'' → RetX C F'' P Lk R.m R.Gs R.o v d r' σ'' H'' → D.rt v H''),
    ⟨items.length, rfl, Nat.zero_le _, Keep.refl, F1, r1, Ext.refl _, E1, ?_⟩, ?_⟩
  · rw [List.drop_zero]
    exact (q1.ext hW x1 (Ext.refl P) Keep.refl).mono (fun r2 q2 σ2 F2 H2 x2 k2 E2 => q2 σ2 F2 H2 (x1.trans x2) k2 E2) fun d r2 q2 v σ2 F2 H2 x2 k2 E2 => q2 v σ2 F2 H2 (x1.trans x2) k2 E2
  · rintro i m σ3 H3 ⟨rfl, hi', k3, F3, r3, x3, E3, q3⟩
    obtain ⟨L3, E3', S3⟩ := id E3
    by_cases hlt : i < items.length
    · refine .inr ⟨Y.go i F3 P Lk L3 H3 x3 S3 hlt, fun σ' H' => Keep R.pm σ σ' ∧ ∃ F' r', Ext F1 F' ∧ EnvX C [] F' P Lk G r' σ' H' ∧ RF C W F' P Lk σ' (forL t bs (items.drop (i + 1)) r')
          (fun r' => ∀ σ'' F'' H'', Ext F' F'' → Keep R.pm σ' σ'' → EnvX C [] F'' P Lk G r' σ'' H'' → D.nx σ'' H'')
          (fun d r' => ∀ v σ'' F'' H'', Ext F' F'' → Keep R.pm σ' σ'' → RetX C F'' P Lk R.m R.Gs R.o v d r' σ'' H'' → D.rt v H''), fun σ' H' ⟨k', F', r', x', E', q'⟩ => ⟨items.length - (i + 1), by omega, rfl, hlt, k', F', r', x', E', q'⟩, fun x H' y => ?_⟩
      obtain ⟨F4, d, x4, hd4, R4, S4⟩ := Y.yld i F3 P Lk L3 H3 x H' x3 S3 hlt y
      have e1 : items.drop i = d :: items.drop (i + 1) := by
        rw [List.drop_eq_getElem_cons hlt]
        congr 1
        rw [List.getElem?_eq_getElem hlt] at hd4
        exact Option.some.inj hd4
      rw [e1] at q3
      unfold forL at q3
      cases hput : t.put d r3 with
      | none => rw [hput] at q3; exact q3.elim
      | some r4 =>
        rw [hput] at q3
        refine ⟨F4, P, Lk, r3, d, r4, ⟨L3, E3', S4⟩, R4, hput, fun σ5 o5 F5 H5 x5 E5 => ?_⟩
        have k5 := o5.keep hd
        have x4 := x4.trans x5
        refine ⟨F5, P, Lk, r4, E5, (RF.seq (q3.ext hW x4 (Ext.refl P) k5)).mono (fun r6 q6 σ6 F6 H6 x6 k6 E6 => ?_) fun d6 r6 q6 v σ6 F6 H6 x6 k6 E6 => ?_⟩
        · refine ⟨k3.trans (k5.trans k6), F6, r6, x3.trans (x4.trans x6), E6, ?_⟩
          exact (q6.ext hW x6 (Ext.refl P) k6).mono (fun r2 q2 σ2 F2 H2 x2 k2 E2 => q2 σ2 F2 H2 ((x4.trans x6).trans x2) ((k5.trans k6).trans k2) E2) fun d r2 q2 v σ2 F2 H2 x2 k2 E2 => q2 v σ2 F2 H2 ((x4.trans x6).trans x2) ((k5.trans k6).trans k2) E2
        · exact q6 v σ6 F6 H6 (x4.trans x6) (k5.trans k6) E6
    · have e : i = items.length := by omega
      subst e
      rw [List.drop_length] at q3
      exact .inl ⟨Y.stop F3 P Lk L3 H3 x3 S3, q3 σ3 F3 H3 (Ext.refl _) Keep.refl E3⟩
end
end DL
set_option Elab.async false
set_option linter.all false
set_option autoImplicit false
set_option maxHeartbeats 1000000
/-! the data layer, part 7: owned lists; moves, views; list comprehensions -/
namespace DL
open PySem PySem.Spec PyProof.Rows L2
variable {C : Cfg}

/-! ### holes: cells that are at hand, not yet held by the list of cells -/
structure SttH (C : Cfg) (F P : Hp) (Lk : Lock) (as : List Addr) (L : List Cell) (H : Hp) : Prop where
  le : ∀ a o, F a = some o → H a = some (lk Lk a o)
  pe : Ext P H
  dj : ∀ a o, P a = some o → F a = none
  ld : ∀ a, Lk a ≠ none → (∃ k, F a = some (.dK k)) ∨ ∃ k, F a = some (.dT k)
  ow : ∃ fp, Owns C F H L fp ∧ (as ++ fp).Nodup ∧ ∀ a ∈ as ++ fp, F a = none ∧ P a = none
def cellsOf (o : O) (vs : List V) (ds : List D) : List Cell := (vs.zip ds).map fun p => (o, p.1, p.2)
theorem OwnL.iff {F H : Hp} {o : O} : ∀ {vs : List V} {ds : List D} {fp : List Addr}, OwnL (Own C F H o) vs ds fp ↔ vs.length = ds.length ∧ Owns C F H (cellsOf o vs ds) fp
  | [], [], fp => by simp [OwnL, cellsOf, Owns]
  | v :: vs, d :: ds, fp => by
    constructor
    · rintro ⟨f1, f2, rfl, p, r⟩
      obtain ⟨l, q⟩ := OwnL.iff.mp r
      exact ⟨by simp [l], f1, f2, rfl, p, q⟩
    · rintro ⟨l, f1, f2, rfl, p, r⟩
      exact ⟨f1, f2, rfl, p, OwnL.iff.mpr ⟨by simpa using l, r⟩⟩
  | [], _ :: _, fp => by simp [OwnL]
  | _ :: _, [], fp => by simp [OwnL]
section
variable {F F' P H H' : Hp} {Lk : Lock} {L M : List Cell} {a : Addr} {as : List Addr} {o : O} {d : D} {ds : List D} {vs : List V} {v : V}
theorem Stt.toH (h : Stt C F P Lk L H) : SttH C F P Lk [] L H := ⟨h.le, h.pe, h.dj, h.ld, by simpa using h.ow⟩
theorem SttH.perm (h : SttH C F P Lk as L H) (p : L.Perm M) : SttH C F P Lk as M H := by
  obtain ⟨fp, o, n, d⟩ := h.ow
  obtain ⟨g, og, pg⟩ := o.perm p
  have pp := pg.append_left as
  exact ⟨h.le, h.pe, h.dj, h.ld, g, og, pp.nodup_iff.mp n, fun a ha => d a (pp.mem_iff.mpr ha)⟩
theorem SttH.tail {x : Cell} (h : SttH C F P Lk as (x :: L) H) : SttH C F P Lk as L H := by
  obtain ⟨fp, ⟨f1, f2, rfl, p, r⟩, n, d⟩ := h.ow
  have sub : (as ++ f2).Sublist (as ++ (f1 ++ f2)) := (List.Sublist.refl as).append (List.sublist_append_right f1 f2)
  exact ⟨h.le, h.pe, h.dj, h.ld, f2, r, n.sublist sub, fun a ha => d a (sub.subset ha)⟩
theorem SttH.drop (h : SttH C F P Lk as (M ++ L) H) : SttH C F P Lk as L H := by
  induction M with
  | nil => exact h
  | cons x xs ih => exact ih h.tail
theorem SttH.zcons (r : Rep C F v d) (h : SttH C F P Lk as L H) : SttH C F P Lk as ((.z, v, d) :: L) H := by
  obtain ⟨fp, o, n, q⟩ := h.ow
  exact ⟨h.le, h.pe, h.dj, h.ld, fp, ⟨[], fp, rfl, ⟨r, rfl⟩, o⟩, n, q⟩
theorem SttH.zcell (r : RepL C F vs ds) (h : SttH C F P Lk as L H) : SttH C F P Lk as (cellsOf .z vs ds ++ L) H := by
  induction vs generalizing ds with
  | nil => cases r; exact h
  | cons v vs ih =>
    cases r with
    | cons a b => exact (ih b).zcons a
/-- an owned list is opened -/
theorem Stt.openL (h : Stt C F P Lk ((.c o, v, .lst ds) :: L) H) : ∃ a vs, v = .ref a ∧ H a = some (.lst vs) ∧ vs.length = ds.length ∧ SttH C F P Lk [a] (cellsOf o vs ds ++ L) H := by
  obtain ⟨fp, ⟨f1, f2, rfl, p, r⟩, n, dd⟩ := h.ow
  obtain ⟨a, fps, rfl, rfl, p⟩ := p
  rcases p with ⟨vs, ds', h1, h2, h3⟩ | ⟨kvs, ds', h1, h2, h3⟩ | ⟨kvs, ds', h1, h2, h4, h3⟩
  · cases h2
    obtain ⟨l, q⟩ := OwnL.iff.mp h3
    exact ⟨a, vs, rfl, h1, l, h.le, h.pe, h.dj, h.ld, fps ++ f2, q.append r, n, dd⟩
  · cases h2
  · cases h2
theorem SttH.upd_ok {q : HO} (h : SttH C F P Lk (a :: as) L H) : SttH C F P Lk (a :: as) L (upd H a q) := by
  obtain ⟨fp, o, n, d⟩ := h.ow
  have fa := d a (by simp)
  have na : ∀ b ∈ fp, b ≠ a := fun b hb e => by
    subst e
    have := (List.nodup_cons.mp (show (b :: (as ++ fp)).Nodup from n)).1
    exact this (List.mem_append_right _ hb)
  refine ⟨fun b x e => ?_, fun b x e => ?_, h.dj, h.ld, fp, o.keep (Ext.refl _) (fun b hb => upd_ne (na b hb)), n, d⟩
  · rw [upd_ne (fun z => by rw [z, fa.1] at e; cases e)]; exact h.le b x e
  · rw [upd_ne (fun z => by rw [z, fa.2] at e; cases e)]; exact h.pe b x e
theorem SttH.closeL (h : SttH C F P Lk [a] (cellsOf o vs ds ++ L) H) (l : vs.length = ds.length) : Stt C F P Lk ((.c o, .ref a, .lst ds) :: L) (upd H a (.lst vs)) := by
  have h := h.upd_ok (q := .lst vs)
  obtain ⟨fp, ow, n, d⟩ := h.ow
  obtain ⟨f1, f2, rfl, o1, o2⟩ := ow.split
  refine ⟨h.le, h.pe, h.dj, h.ld, (a :: f1) ++ f2, ⟨a :: f1, f2, rfl, ⟨a, f1, rfl, rfl, .inl ⟨vs, ds, upd_same, rfl, OwnL.iff.mpr ⟨l, o1⟩⟩⟩, o2⟩, n, d⟩
theorem SttH.closeK {kvs : List (Key × V)} (h : SttH C F P Lk [a] (cellsOf o (kvs.map (·.2)) ds ++ L) H) (l : kvs.length = ds.length) : Stt C F P Lk ((.c o, .ref a, .dct false ((kvs.map fun p => keyD p.1).zip ds)) :: L) (upd H a (.dK kvs)) := by
  have h := h.upd_ok (q := .dK kvs)
  obtain ⟨fp, ow, n, d⟩ := h.ow
  obtain ⟨f1, f2, rfl, o1, o2⟩ := ow.split
  refine ⟨h.le, h.pe, h.dj, h.ld, (a :: f1) ++ f2, ⟨a :: f1, f2, rfl, ⟨a, f1, rfl, rfl, .inr (.inl ⟨kvs, ds, upd_same, rfl, OwnL.iff.mpr ⟨by simpa using l, o1⟩⟩)⟩, o2⟩, n, d⟩
theorem SttH.closeT {kvs : List (List Key × V)} (h : SttH C F P Lk [a] (cellsOf o (kvs.map (·.2)) ds ++ L) H) (l : kvs.length = ds.length) (hk : ∀ p ∈ kvs, ∃ b, F b = some (.tup (p.1.map kV))) : Stt C F P Lk ((.c o, .ref a, .dct true ((kvs.map fun p => tupD p.1).zip ds)) :: L) (upd H a (.dT kvs)) := by
  have h := h.upd_ok (q := .dT kvs)
  obtain ⟨fp, ow, n, d⟩ := h.ow
  obtain ⟨f1, f2, rfl, o1, o2⟩ := ow.split
  refine ⟨h.le, h.pe, h.dj, h.ld, (a :: f1) ++ f2, ⟨a :: f1, f2, rfl, ⟨a, f1, rfl, rfl, .inr (.inr ⟨kvs, ds, upd_same, rfl, hk, OwnL.iff.mpr ⟨by simpa using l, o1⟩⟩)⟩, o2⟩, n, d⟩
theorem Stt.openK {kds : List (D × D)} (h : Stt C F P Lk ((.c o, v, .dct false kds) :: L) H) : ∃ a kvs ds, v = .ref a ∧ H a = some (.dK kvs) ∧ kvs.length = ds.length ∧ kds = (kvs.map fun p => keyD p.1).zip ds ∧ SttH C F P Lk [a] (cellsOf o (kvs.map (·.2)) ds ++ L) H := by
  obtain ⟨fp, ⟨f1, f2, rfl, p, r⟩, n, dd⟩ := h.ow
  obtain ⟨a, fps, rfl, rfl, p⟩ := p
  rcases p with ⟨vs, ds', h1, h2, h3⟩ | ⟨kvs, ds', h1, h2, h3⟩ | ⟨kvs, ds', h1, h2, h4, h3⟩
  · cases h2
  · cases h2
    obtain ⟨l, q⟩ := OwnL.iff.mp h3
    exact ⟨a, kvs, ds', rfl, h1, by simpa using l, rfl, h.le, h.pe, h.dj, h.ld, fps ++ f2, q.append r, n, dd⟩
  · cases h2
theorem Stt.openT {kds : List (D × D)} (h : Stt C F P Lk ((.c o, v, .dct true kds) :: L) H) : ∃ a kvs ds, v = .ref a ∧ H a = some (.dT kvs) ∧ kvs.length = ds.length ∧ kds = (kvs.map fun p => tupD p.1).zip ds ∧ (∀ p ∈ kvs, ∃ b, F b = some (.tup (p.1.map kV))) ∧ SttH C F P Lk [a] (cellsOf o (kvs.map (·.2)) ds ++ L) H := by
  obtain ⟨fp, ⟨f1, f2, rfl, p, r⟩, n, dd⟩ := h.ow
  obtain ⟨a, fps, rfl, rfl, p⟩ := p
  rcases p with ⟨vs, ds', h1, h2, h3⟩ | ⟨kvs, ds', h1, h2, h3⟩ | ⟨kvs, ds', h1, h2, h4, h3⟩
  · cases h2
  · cases h2
  · cases h2
    obtain ⟨l, q⟩ := OwnL.iff.mp h3
    exact ⟨a, kvs, ds', rfl, h1, by simpa using l, rfl, h4, h.le, h.pe, h.dj, h.ld, fps ++ f2, q.append r, n, dd⟩
/-- a new place -/
theorem Stt.hole (h : Stt C F P Lk L H) (hp : H a = none) : SttH C F P Lk [a] L H := by
  obtain ⟨fp, ow, n, d⟩ := h.ow
  refine ⟨h.le, h.pe, h.dj, h.ld, fp, ow, List.nodup_cons.mpr ⟨fun z => ?_, n⟩, fun b hb => ?_⟩
  · obtain ⟨ob, hb⟩ := ow.live a z
    rw [hp] at hb; cases hb
  · rcases List.mem_cons.mp hb with rfl | hb
    · refine ⟨?_, ?_⟩
      · cases q : F b with
        | none => rfl
        | some ob => have := h.le b ob q; rw [hp] at this; cases this
      · cases q : P b with
        | none => rfl
        | some ob => have := h.pe b ob q; rw [hp] at this; cases this
    · exact d b hb
/-- a new owned list of cells at hand -/
theorem Stt.newL (h : Stt C F P Lk (cellsOf o vs ds ++ L) H) (l : vs.length = ds.length) (hp : H a = none) : Stt C F P Lk ((.c o, .ref a, .lst ds) :: L) (upd H a (.lst vs)) := (h.hole hp).closeL l
theorem Stt.newE (h : Stt C F P Lk L H) (hp : H a = none) : Stt C F P Lk ((.c o, .ref a, .lst []) :: L) (upd H a (.lst [])) := Stt.newL (vs := []) (ds := []) h rfl hp
theorem cellsOf_append {vs ws : List V} {ds es : List D} (l : vs.length = ds.length) : cellsOf o (vs ++ ws) (ds ++ es) = cellsOf o vs ds ++ cellsOf o ws es := by
  unfold cellsOf
  rw [List.zip_append l, List.map_append]
/-- an item goes to the end of an owned list -/
theorem Stt.appL {y : V} {e : D} (h : Stt C F P Lk ((o, y, e) :: (.c o, v, .lst ds) :: L) H) : ∃ a vs, v = .ref a ∧ H a = some (.lst vs) ∧ vs.length = ds.length ∧ Stt C F P Lk ((.c o, v, .lst (ds ++ [e])) :: L) (upd H a (.lst (vs ++ [y]))) := by
  obtain ⟨a, vs, rfl, h1, l, h2⟩ := (h.perm (List.Perm.swap _ _ _)).openL
  refine ⟨a, vs, rfl, h1, l, ?_⟩
  refine SttH.closeL ?_ (by simp [l])
  rw [cellsOf_append l]
  exact h2.perm (by simp [cellsOf])
end

/-! ### moves, freezing, views -/
def eMv (i : Nat) : SE := fun r => match r[i]? with
  | some (some d) => .ok d (r.set i none)
  | _ => .stk
def flat : D → Bool
  | .non => true
  | .bl _ => true
  | .int _ => true
  | .str _ => true
  | _ => false
/-- a plain value, read off slots that stay as they are -/
def eView (f : SE) : SE := fun r => match f r with
  | .ok d _ => if flat d = true then .ok d r else .stk
  | _ => .stk
def tView (f : ST) : ST := fun r => match f r with
  | .ok d _ => .ok d r
  | _ => .stk
def zG (G : List O) : List O := G.map fun _ => .z
section
variable {X : Cx} {W : WX} {G : List O} {e : Expr} {pos : Pos} {F P H : Hp} {Lk : Lock} {r : DL.Env} {σ : L2.St}
theorem de_mv {i : Nat} {x : Str} {o : O} (hG : G[i]? = some o) (hN : X.N[i]? = some x) (hv : Vis X.env.scope x) (hd : (x == ("__debug__" : Str)) = false := by decide) (hcd : (x == ("__classdict__" : Str)) = false := by decide) :
    PE X (.Name x pos) (tD C W G (eMv i) o) := by
  refine PE_weak (pe_var hN hv hd hcd) fun σ H Q h => ?_
  obtain ⟨F, P, Lk, r, E, h⟩ := h
  unfold eMv at h
  split at h
  · rename_i d hd
    obtain ⟨v, h1, E1⟩ := E.take hd hG
    exact ⟨v, h1, h v F H (Ext.refl F) E1⟩
  · exact h.elim
theorem de_frz {f : SE} {o : O} (h : PE X e (tD C W G f o)) : PE X e (tD C W G f .z) := by
  refine PE_weak h fun σ H Q q => ?_
  obtain ⟨F, P, Lk, r, E, q⟩ := q
  refine ⟨F, P, Lk, r, E, q.mono fun d r1 q1 v F1 H1 x1 E1 => ?_⟩
  obtain ⟨L, e, s⟩ := E1
  obtain ⟨F2, x2, s2⟩ := s.freeze1
  exact q1 v F2 H1 (x1.trans x2) ⟨L, e, s2⟩
theorem flat_rep {F F' : Hp} {v : V} {d : D} (h : Rep C F v d) (f : flat d = true) : Rep C F' v d := by
  cases h with
  | non => exact .non
  | bl b => exact .bl b
  | int i => exact .int i
  | str x => exact .str x
  | _ => simp [flat] at f
theorem EnvR.zed {L : List Cell} (h : EnvR G r σ L) : EnvR (zG G) r σ (L.map fun x => (O.z, x.2.1, x.2.2)) := by
  induction h with
  | nil => exact .nil
  | skip h ih => exact .skip ih
  | «have» h ih => exact .have ih
/-- all slots are frozen for a while -/
theorem EnvX.view (h : EnvX C [] F P Lk G r σ H) : ∃ F1, Ext F F1 ∧ EnvX C [] F1 P Lk (zG G) r σ H ∧ ∀ F2 H2 G2 r2, Ext F1 F2 → EnvX C [] F2 P Lk G2 r2 σ H2 → EnvX C [] F P Lk G r σ H2 := by
  obtain ⟨L, e, s⟩ := h
  have s : Stt C F P Lk L H := s
  obtain ⟨fp, o, n, d⟩ := s.ow
  have live := o.live
  have s0 : Stt C F P Lk (L ++ []) H := by rw [List.append_nil]; exact s
  -- the freezing of all
  have ag : ∀ a ∈ fp, join F (only H fp) a = H a := fun a ha => by rw [join_r (d a ha).1, only_in ha]
  refine ⟨join F (only H fp), join_ext, ⟨_, e.zed, ?_⟩, fun F2 H2 G2 r2 x2 ⟨L2, e2, s2⟩ => ⟨L, e, ?_⟩⟩
  · have fz : Stt C (join F (only H fp)) P Lk [] H := by
      refine ⟨fun a ob e => ?_, s.pe, fun a ob e => ?_, fun a ha => ?_, [], rfl, List.nodup_nil, fun a ha => by simp at ha⟩
      · by_cases hf : F a = none
        · rw [join_r hf] at e
          by_cases ha : a ∈ fp
          · rw [only_in ha] at e
            have hl : Lk a = none := by
              cases q : Lk a with
              | none => rfl
              | some z => exact absurd hf (s.lf a (by rw [q]; simp))
            rw [e]; unfold lk; rw [hl]
          · rw [only_out ha] at e; cases e
        · obtain ⟨o', ho⟩ := Option.ne_none_iff_exists'.mp hf
          rw [join_l ho] at e
          cases e
          exact s.le a _ ho
      · have hf := s.dj a ob e
        rw [join_r hf]
        by_cases ha : a ∈ fp
        · have z := (d a ha).2
          rw [e] at z; cases z
        · exact only_out ha
      · exact (s.ld a ha).imp (fun ⟨k, q⟩ => ⟨k, join_l q⟩) fun ⟨k, q⟩ => ⟨k, join_l q⟩
    have aux : ∀ (M : List Cell) (g : List Addr), (∀ a ∈ g, join F (only H fp) a = H a) → Owns C F H M g → Stt C (join F (only H fp)) P Lk (M.map fun x => (O.z, x.2.1, x.2.2)) H := by
      intro M
      induction M with
      | nil => intro g _ _; exact fz
      | cons y ys ih =>
        rintro g ag ⟨g1, g2, rfl, p, r⟩
        exact (ih g2 (fun a ha => ag a (List.mem_append_right _ ha)) r).zcons (p.rep join_ext fun a ha => ag a (List.mem_append_left _ ha))
    exact aux L fp ag o
  · have eqH : ∀ a ∈ fp, H2 a = H a := fun a ha => by
      obtain ⟨ob, hb⟩ := live a ha
      have z := s2.le a ob (x2 _ _ (by rw [ag a ha]; exact hb))
      have hl : Lk a = none := by
        cases q : Lk a with
        | none => rfl
        | some z => exact absurd (d a ha).1 (s.lf a (by rw [q]; simp))
      rw [hb, z]; unfold lk; rw [hl]
    exact ⟨fun a ob q => s2.le a ob (x2 _ _ (join_l q)), s2.pe, s.dj, s.ld, fp, o.keep (Ext.refl _) eqH, n, d⟩
theorem de_view {f : SE} (h : PE X e (tD C W (zG G) f .z)) : PE X e (tD C W G (eView f) .z) := by
  refine PE_weak h fun σ H Q q => ?_
  obtain ⟨F, P, Lk, r, E, q⟩ := q
  obtain ⟨F1, x1, E1, back⟩ := E.view
  refine ⟨F1, P, Lk, r, E1, ?_⟩
  unfold eView at q
  cases hf : f r with
  | stk => rw [hf] at q; exact q.elim
  | exc c fs => rw [hf] at q; exact q.elim
  | ok d r1 =>
    rw [hf] at q
    dsimp only at q
    by_cases hd : flat d = true
    · rw [if_pos hd] at q
      refine fun v F2 H2 x2 E2 => q v F H2 (Ext.refl F) ?_
      obtain ⟨R2, E2⟩ := E2.rep
      exact (back F2 H2 _ _ x2 E2).zcons (flat_rep R2 hd)
    · rw [if_neg hd] at q; exact q.elim
theorem dt_view {f : ST} (h : PT X e (tDT C W (zG G) f)) : PT X e (tDT C W G (tView f)) := by
  refine PT_weak h fun σ H Q q => ?_
  obtain ⟨F, P, Lk, r, E, q⟩ := q
  obtain ⟨F1, x1, E1, back⟩ := E.view
  refine ⟨F1, P, Lk, r, E1, ?_⟩
  unfold tView at q
  cases hf : f r with
  | stk => rw [hf] at q; exact q.elim
  | exc c fs => rw [hf] at q; exact q.elim
  | ok d r1 =>
    rw [hf] at q
    exact fun F2 H2 x2 E2 => q F H2 (Ext.refl F) (back F2 H2 _ _ x2 E2)
end

/-! ### list comprehensions -/
def bndN {α β : Type} (x : Res α) (k : α → DL.Env → Res β) : Res β := match x with
  | .ok a r => k a r
  | _ => .stk
def wipeE (r : DL.Env) : List Nat → DL.Env
  | [] => r
  | v :: vs => (wipeE r vs).set v none
/-- the block's own slots as they were -/
def restE (r : DL.Env) : List Nat → DL.Env → DL.Env
  | [], r' => r'
  | v :: vs, r' => restE r vs (r'.set v ((wipeE r vs)[v]?.getD none))
def lcL (t : Tg) (vs : List Nat) (ts : ST) (f : SE) : List D → DL.Env → Res (List D)
  | [], r => .ok [] r
  | d :: ds, r => match t.put d r with
    | some r1 => bndN (ts r1) fun b r2 => if b = true then bndN (f r2) fun x r3 => bndN (lcL t vs ts f ds (wipeE r3 vs)) fun xs r4 => .ok (x :: xs) r4 else lcL t vs ts f ds (wipeE r2 vs)
    | none => .stk
def eLc (it : SI) (vs : List Nat) (t : Tg) (ts : ST) (f : SE) : SE := fun r => (it r).bind fun items r1 => bndN (lcL t vs ts f items (wipeE r1 vs)) fun xs r2 => if xs.length ≤ sizeLine then .ok (.lst xs) (restE r1 vs r2) else .stk
def W0 : WX := fun _ _ _ _ => False
def tDTs (C : Cfg) (G : List O) (f : ST) : TT := tDT C W0 G f
section
variable {X : Cx} {W : WX} {G : List O} {e elt tg iter : Expr} {ifs : List Expr} {pos : Pos} {F F' P P' H H' : Hp} {Lk Lk' : Lock} {r r' : DL.Env} {σ : L2.St} {T T' : List Cell}
theorem EnvR.wipe1 {L : List Cell} (h : EnvR G r σ L) (i : Nat) : ∃ L' T, EnvR G (r.set i none) (σ.set i none) L' ∧ L.Perm (T ++ L') := by
  obtain ⟨L', T, a, p⟩ := h.clear i
  refine ⟨L', T, a.slots (by simp) fun j d e => ?_, p⟩
  by_cases hij : i = j
  · subst hij
    by_cases hl : i < r.length
    · rw [List.getElem?_set_self hl] at e; cases e
    · rw [List.getElem?_eq_none (by simpa using hl)] at e; cases e
  · rw [List.getElem?_set_ne hij]
theorem EnvX.wipe1 (h : EnvX C T F P Lk G r σ H) (i : Nat) : EnvX C T F P Lk G (r.set i none) (σ.set i none) H := by
  obtain ⟨L, a, s⟩ := h
  obtain ⟨L', T1, b, p⟩ := a.wipe1 i
  refine ⟨L', b, ?_⟩
  have s1 : Stt C F P Lk (T1 ++ (T ++ L')) H := s.perm ((p.append_left T).trans (by
    rw [← List.append_assoc, ← List.append_assoc]
    exact List.perm_append_comm.append_right L'))
  exact s1.drop
theorem EnvX.slotZ {i : Nat} {d : D} (h : EnvX C T F P Lk G r σ H) (e : r[i]? = some (some d)) (g : G[i]? = some .z) : ∃ v, σ[i]? = some (some v) ∧ Rep C F v d := by
  obtain ⟨v, h1, h2⟩ := h.take e g
  exact ⟨v, h1, h2.rep.1⟩
theorem EnvX.none_at {i : Nat} (h : EnvX C T F P Lk G r σ H) (e : ∀ v, σ[i]? ≠ some (some v)) (d : D) : r[i]? ≠ some (some d) := by
  intro q
  obtain ⟨L, a, s⟩ := h
  have hl := a.len
  have gi : i < G.length := by rw [hl.1]; exact (List.getElem?_eq_some_iff.mp q).1
  obtain ⟨v, h1, _⟩ := a.get q (List.getElem?_eq_getElem gi)
  exact e v h1
theorem EnvX.slots {σ' : L2.St} (h : EnvX C T F P Lk G r σ H) (hl : σ'.length = σ.length) (k : ∀ (i : Nat) (d : D), r[i]? = some (some d) → σ'[i]? = σ[i]?) : EnvX C T F P Lk G r σ' H := by
  obtain ⟨L, a, s⟩ := h
  exact ⟨L, a.slots hl k, s⟩
theorem EnvX.rest1 {i : Nat} (h : EnvX C T F P Lk G r σ H) (g : G[i]? = some .z) (x : Ext F F') (h' : EnvX C T' F' P' Lk' G r' (σ.set i none) H') : EnvX C T' F' P' Lk' G (r'.set i (r[i]?.getD none)) σ H' := by
  have ni : ∀ d, r'[i]? ≠ some (some d) := h'.none_at fun v q => by
    by_cases hl : i < σ.length
    · rw [List.getElem?_set_self hl] at q; cases q
    · rw [List.getElem?_eq_none (by simpa using hl)] at q; cases q
  have h2 : EnvX C T' F' P' Lk' G r' σ H' := h'.slots (by simp) fun j d e => by
    have : i ≠ j := fun z => by subst z; exact ni d e
    rw [List.getElem?_set_ne this]
  have hl := h.len
  have hl' := h2.len
  have il : i < r'.length := by
    have := (List.getElem?_eq_some_iff.mp g).1
    omega
  have r'i : r'[i]? = some none := by
    rw [List.getElem?_eq_getElem il]
    cases q : r'[i] with
    | none => rfl
    | some d => exact absurd (by rw [List.getElem?_eq_getElem il, q]) (ni d)
  have ir : i < r.length := by omega
  cases q : r[i] with
  | none =>
    rw [List.getElem?_eq_getElem ir, q]
    have : r'.set i (Option.getD (some (none : Option D)) none) = r' := by
      apply List.ext_getElem?
      intro j
      by_cases hij : i = j
      · subst hij; rw [List.getElem?_set_self il, r'i]; rfl
      · rw [List.getElem?_set_ne hij]
    rw [this]
    exact h2
  | some d =>
    have e : r[i]? = some (some d) := by rw [List.getElem?_eq_getElem ir, q]
    obtain ⟨v, hv, R⟩ := h.slotZ e g
    rw [e]
    exact EnvX.back (h2.zcons (R.mono x)) r'i g hv
theorem EnvX.wipe : ∀ {vs : List Nat} {σ : L2.St} {r : DL.Env}, (∀ i ∈ vs, G[i]? = some .z) → EnvX C T F P Lk G r σ H → EnvX C T F P Lk G (wipeE r vs) (wipe σ vs) H
  | [], _, _, _, h => h
  | v :: vs, _, _, g, h => (EnvX.wipe (vs := vs) (fun i hi => g i (List.mem_cons_of_mem _ hi)) h).wipe1 v
theorem EnvX.rest : ∀ {vs : List Nat} {r' : DL.Env}, (∀ i ∈ vs, G[i]? = some .z) → EnvX C T F P Lk G r σ H → Ext F F' → EnvX C T' F' P' Lk' G r' (L2.wipe σ vs) H' → EnvX C T' F' P' Lk' G (restE r vs r') σ H'
  | [], _, _, _, _, h' => h'
  | v :: vs, _, g, h, x, h' =>
    EnvX.rest (vs := vs) (fun i hi => g i (List.mem_cons_of_mem _ hi)) h x (EnvX.rest1 (EnvX.wipe (fun i hi => g i (List.mem_cons_of_mem _ hi)) h) (g v List.mem_cons_self) x h')
theorem wipe_twice {vs : List Nat} {σ σ2 : L2.St} (o : Off vs (wipe σ vs) σ2) : wipe σ2 vs = wipe σ vs := by
  have key : ∀ (σ : L2.St) (j : Nat), (L2.wipe σ vs)[j]? = if j ∈ vs then (if j < σ.length then some none else none) else σ[j]? := by
    intro σ j
    clear o
    induction vs with
    | nil => simp [L2.wipe]
    | cons v vs ih =>
      unfold L2.wipe
      by_cases hv : v = j
      · subst hv
        by_cases hl : v < σ.length
        · rw [List.getElem?_set_self (by rw [wipe_length]; exact hl)]; simp [hl]
        · rw [List.getElem?_eq_none (by simp [wipe_length]; omega)]; simp [hl]
      · rw [List.getElem?_set_ne hv, ih]
        have : (j ∈ v :: vs) ↔ j ∈ vs := by simp [Ne.symm hv]
        simp only [this]
  apply List.ext_getElem?
  intro j
  have hl : σ2.length = σ.length := by rw [o.1, wipe_length]
  rw [key, key, hl]
  by_cases h : j ∈ vs
  · simp [h]
  · have := o.2 j h
    rw [key] at this
    simp only [h, if_false] at this ⊢
    exact this
theorem lc_hyp {it : SI} {t : Tg} {ts : ST} {f : SE} {oe : O} {vs : List Nat} (hv : ∀ i ∈ vs, G[i]? = some .z) (ht : t.slots = vs) {σ : L2.St} {H : Hp} {Q : VK} (q : tD C W G (eLc it vs t ts f) (.c oe) σ H Q) :
    tLc (tDI C W G it) (tDG C G t) (tDTs C G ts) (tD C W0 G f oe) vs σ H Q := by
  obtain ⟨F, P, Lk, r, E, q⟩ := q
  refine ⟨F, P, Lk, r, E, (RD.bind q).mono fun items r1 q1 J F1 H1 x1 E1 Y Da hD => ?_⟩
  -- all that is made is known
  cases hl : lcL t vs ts f items (wipeE r1 vs) with
  | stk => rw [hl] at q1; exact q1.elim
  | exc c fs => rw [hl] at q1; exact q1.elim
  | ok all r9 =>
    rw [hl] at q1
    have q1 : RD C W F P Lk σ (if all.length ≤ sizeLine then Res.ok (D.lst all) (restE r1 vs r9) else .stk) _ := q1
    have hz : all.length ≤ sizeLine := by
      refine Decidable.byContradiction fun hz => ?_
      rw [if_neg hz] at q1; exact q1
    rw [if_pos hz] at q1
    refine ⟨fun i m H' => m = items.length - i ∧ i ≤ items.length ∧ ∃ F' r' acc xs, Ext F1 F' ∧ EnvX C [(.c oe, .ref Da, .lst acc)] F' P Lk G r' (wipe σ vs) H' ∧ lcL t vs ts f (items.drop i) r' = .ok xs r9 ∧ acc ++ xs = all,
      ⟨items.length, rfl, Nat.zero_le _, F1, _, [], all, Ext.refl _, ?_, by rw [List.drop_zero]; exact hl, rfl⟩, ?_⟩
    · obtain ⟨L, e, s⟩ := EnvX.wipe hv E1
      exact ⟨L, e, s.newE hD⟩
    · rintro i m H3 ⟨rfl, hi', F3, r3, acc, xs, x3, E3, h3, hall⟩
      obtain ⟨L3, e3, S3⟩ := id E3
      by_cases hlt : i < items.length
      · refine .inr ⟨Y.go i F3 P Lk _ H3 x3 S3 hlt, fun H' => ∃ F' r' acc xs, Ext F1 F' ∧ EnvX C [(.c oe, .ref Da, .lst acc)] F' P Lk G r' (wipe σ vs) H' ∧ lcL t vs ts f (items.drop (i + 1)) r' = .ok xs r9 ∧ acc ++ xs = all,
          fun H' ⟨F', r', acc', xs', z⟩ => ⟨items.length - (i + 1), by omega, rfl, hlt, F', r', acc', xs', z⟩, fun x H' y => ?_⟩
        obtain ⟨F4, d, x4, hd4, R4, S4⟩ := Y.yld i F3 P Lk _ H3 x H' x3 S3 hlt y
        have e1 : items.drop i = d :: items.drop (i + 1) := by
          rw [List.drop_eq_getElem_cons hlt]
          congr 1
          rw [List.getElem?_eq_getElem hlt] at hd4
          exact Option.some.inj hd4
        rw [e1] at h3
        unfold lcL at h3
        cases hput : t.put d r3 with
        | none => rw [hput] at h3; cases h3
        | some r4 =>
          rw [hput] at h3
          dsimp only at h3
          have E4 : EnvX C [(.c oe, .ref Da, .lst acc)] F4 P Lk G r3 (wipe σ vs) H' := ⟨L3, e3, S4⟩
          obtain ⟨P4, E4', eP4, unp4⟩ := E4.park
          refine ⟨F4, P4, Lk, r3, d, r4, E4', R4, hput, fun σ5 o5 F5 H5 x5 E5 => ?_⟩
          rw [ht] at o5
          have ws := wipe_twice o5
          refine ⟨ws, ?_⟩
          cases hts : ts r4 with
          | stk => rw [hts] at h3; cases h3
          | exc c fs => rw [hts] at h3; cases h3
          | ok b r5 =>
            rw [hts] at h3
            have h3 : (if b = true then bndN (f r5) fun x r3 => bndN (lcL t vs ts f (items.drop (i + 1)) (wipeE r3 vs)) fun xs r4 => .ok (x :: xs) r4 else lcL t vs ts f (items.drop (i + 1)) (wipeE r5 vs)) = .ok xs r9 := h3
            refine ⟨F5, P4, Lk, r4, E5, ?_⟩
            rw [hts]
            intro F6 H6 x6 E6
            have x6 := x5.trans x6
            cases b with
            | false =>
              rw [if_neg Bool.false_ne_true] at h3 ⊢
              have E7 := EnvX.wipe hv (unp4 _ _ _ _ _ _ _ x6 E6)
              rw [ws, List.append_nil] at E7
              exact ⟨F6, _, acc, xs, x3.trans (x4.trans x6), E7, h3, hall⟩
            | true =>
              rw [if_pos rfl] at h3 ⊢
              cases hf : f r5 with
              | stk => rw [hf] at h3; cases h3
              | exc c fs => rw [hf] at h3; cases h3
              | ok xd r7 =>
                rw [hf] at h3
                have h3 : (bndN (lcL t vs ts f (items.drop (i + 1)) (wipeE r7 vs)) fun xs r4 => .ok (xd :: xs) r4) = .ok xs r9 := h3
                cases hr : lcL t vs ts f (items.drop (i + 1)) (wipeE r7 vs) with
                | stk => rw [hr] at h3; cases h3
                | exc c fs => rw [hr] at h3; cases h3
                | ok xs' r8 =>
                  rw [hr] at h3
                  have h3 : Res.ok (xd :: xs') r8 = .ok xs r9 := h3
                  cases h3
                  refine ⟨F6, P4, Lk, r5, E6, ?_⟩
                  rw [hf]
                  intro yv F7 H7 x7 E7
                  have E8 := unp4 _ _ _ _ _ _ _ (x6.trans x7) E7
                  obtain ⟨L8, e8, s8⟩ := E8
                  obtain ⟨a, ws8, ea, hH, lw, s9⟩ := Stt.appL (s8.perm (List.Perm.swap _ _ _))
                  cases ea
                  refine ⟨ws8, hH, ?_, F7, _, acc ++ [xd], xs', x3.trans (x4.trans (x6.trans x7)), ?_, hr, ?_⟩
                  · rw [lw]
                    rw [← hall] at hz
                    simp at hz
                    omega
                  · have s9 : Stt C F7 P Lk ([(.c oe, .ref Da, .lst (acc ++ [xd]))] ++ L8) (upd H7 Da (.lst (ws8 ++ [yv]))) := s9
                    have E9 := EnvX.wipe hv ⟨L8, e8, s9⟩
                    rw [ws] at E9
                    exact E9
                  · rw [← hall]; simp
      · have e : i = items.length := by omega
        subst e
        rw [List.drop_length] at h3
        cases h3
        rw [List.append_nil] at hall
        subst hall
        refine .inl ⟨Y.stop F3 P Lk _ H3 x3 S3, q1 _ F3 H3 (x1.trans x3) ?_⟩
        exact EnvX.rest hv E1 x3 E3
theorem de_lc {it : SI} {t : Tg} {ts : ST} {f : SE} {oe : O} {scope : Scope} {own : List (Str × Nat)} {vs : List Nat} (hc : X.calm = true) (hN : X.N.Nodup) (hi : PI X tg iter (tDI C W G it)) (ok : BlkOk X.N X.env.scope scope own) (hvs : own.map (·.2) = vs) (hv : (vs.all fun i => decide (G[i]? = some .z)) = true) (ht : t.slots = vs)
    (hg : ∀ (s : Shared) (H : Hp) (C1 : Addr) (cl : List (Str × Addr)) (fp : List Addr), PG (X.blk s H scope (compEnvC scope cl C1 X.env) fp) tg (tDG C G t))
    (htt : ∀ (s : Shared) (H : Hp) (C1 : Addr) (cl : List (Str × Addr)) (fp : List Addr), PTs (X.blk s H scope (compEnvC scope cl C1 X.env) fp) ifs (tDTs C G ts))
    (he : ∀ (s : Shared) (H : Hp) (C1 : Addr) (cl : List (Str × Addr)) (fp : List Addr), PE (X.blk s H scope (compEnvC scope cl C1 X.env) fp) elt (tD C W0 G f oe)) (hs : ∀ x, foldedSetIterable iter X.env x = pure x := by intro _; rfl) :
    PE X (.ListComp elt [⟨tg, iter, ifs, 0⟩] scope pos) (tD C W G (eLc it vs t ts f) (.c oe)) := by
  subst hvs
  exact PE_weak (pe_lc hc hN hi ok hg htt he hs) fun σ H Q q => lc_hyp (fun i hi => by simpa using List.all_eq_true.mp hv i hi) ht q
theorem d_setLc {R : Rt} {i : Nat} {y : Str} {py : Pos} {it : SI} {t : Tg} {ts : ST} {f : SE} {oe : O} {scope : Scope} {own : List (Str × Nat)} {vs : List Nat} {spos : Pos} (hc : X.calm = true) (hN : X.N.Nodup) (hy : X.N[i]? = some y) (hyl : X.env.scope.names.lookup y = some .local)
    (hsw : swapsWith (.ListComp elt [⟨tg, iter, ifs, 0⟩] scope pos) (some (.Name y py)) spos.line X.env = pure true)
    (hi : PI X tg iter (tDI C W G it)) (ok : BlkOk X.N X.env.scope scope own) (hvs : own.map (·.2) = vs) (hv : (vs.all fun i => decide (G[i]? = some .z)) = true) (ht : t.slots = vs)
    (hg : ∀ (s : Shared) (H : Hp) (C1 : Addr) (cl : List (Str × Addr)) (fp : List Addr), PG (X.blk s H scope (compEnvC scope cl C1 X.env) fp) tg (tDG C G t))
    (htt : ∀ (s : Shared) (H : Hp) (C1 : Addr) (cl : List (Str × Addr)) (fp : List Addr), PTs (X.blk s H scope (compEnvC scope cl C1 X.env) fp) ifs (tDTs C G ts))
    (he : ∀ (s : Shared) (H : Hp) (C1 : Addr) (cl : List (Str × Addr)) (fp : List Addr), PE (X.blk s H scope (compEnvC scope cl C1 X.env) fp) elt (tD C W0 G f oe)) (hp : R.pm.contains i = false) (hG : i < G.length) (hs : ∀ x, foldedSetIterable iter X.env x = pure x := by intro _; rfl) :
    PS X (.Assign [.Name y py] (.ListComp elt [⟨tg, iter, ifs, 0⟩] scope pos) spos) (tDS C W R G (sAsg i (eLc it vs t ts f)) (G.set i (.c oe))) := by
  subst hvs
  refine PS_weak (ps_setLc hc hN hy hyl hsw hi ok hg htt he hs) fun D σ H q => ?_
  refine lc_hyp (fun i hi => by simpa using List.all_eq_true.mp hv i hi) ht ?_
  obtain ⟨F, P, Lk, r, E, q⟩ := q
  refine ⟨F, P, Lk, r, E, (RF.fl q).mono fun d r1 q1 v F1 H1 x1 E1 => ?_⟩
  have hl := E1.len
  exact q1 _ F1 H1 x1 (Keep.set (by simpa using hp)) (E1.put (by omega))
/-- tests of a clause -/
def tYesD : ST := fun r => .ok true r
theorem dts_nil : PTs X [] (tDTs C G tYesD) := ⟨fun pins s σ H Q I h => by
  obtain ⟨F, P, Lk, r, E, q⟩ := h
  exact pts_nil.run pins s σ H Q I (q F H (Ext.refl F) E)⟩
theorem dts_one {c : Expr} {t : ST} (h : PT X c (tDT C W0 G t)) : PTs X [c] (tDTs C G t) := pts_one h
end
end DL
set_option Elab.async false
set_option linter.all false
set_option autoImplicit false
set_option maxHeartbeats 1000000
/-! the data layer, part 8: what writes owned things -/
namespace DL
open PySem PySem.Spec PyProof.Rows L2
variable {C : Cfg}

/-! ### methods of an owned local -/
def rMe (C : Cfg) (oi oo : O) (os : List O) (g : D → List D → Option (D × D)) : V → List V → Hp → VK → Prop := fun x vs H Q => ∃ F P Lk L d ds d' dr La, EnvR os (ds.map some) (vs.map some) La ∧ Stt C F P Lk ((oi, x, d) :: (La ++ L)) H ∧ g d ds = some (dr, d') ∧
  ∀ w F' H', Ext F F' → Stt C F' P Lk ((oo, w, dr) :: (oi, x, d') :: L) H' → Q w H'
def isLst : D → Bool
  | .lst _ => true
  | _ => false
def isDct : D → Bool
  | .dct _ _ => true
  | _ => false
def eMeth (isT : D → Bool) (i : Nat) (g : D → List D → Option (D × D)) (k : SA) : SE := fun r => match r[i]? with
  | some (some d) => if isT d = true then (k r).bind fun ds r1 => match r1[i]? with
      | some (some d2) => match g d2 ds with
        | some (dr, d') => .ok dr (r1.set i (some d'))
        | none => .stk
      | _ => .stk
    else .stk
  | _ => .stk
section
variable {X : Cx} {W : WX} {G : List O} {e : Expr} {es : List Expr} {F P H : Hp} {Lk : Lock} {r : DL.Env} {σ : L2.St}
theorem own_tyL {v : V} {d : D} {o : O} {T : List Cell} (h : EnvX C ((.c o, v, d) :: T) F P Lk G r σ H) (ty : isLst d = true) : tyV X.K "list" v H := by
  obtain ⟨L, e, s⟩ := h
  cases d with
  | lst ds =>
    obtain ⟨a, vs, rfl, h1, _⟩ := Stt.openL (L := T ++ L) s
    exact .inl ⟨rfl, vs, SqL.of h1⟩
  | _ => cases ty
theorem own_tyD {v : V} {d : D} {o : O} {T : List Cell} (h : EnvX C ((.c o, v, d) :: T) F P Lk G r σ H) (ty : isDct d = true) : tyV X.K "dict" v H := by
  obtain ⟨L, e, s⟩ := h
  cases d with
  | dct t kvs =>
    cases t with
    | false =>
      obtain ⟨a, kvs, ds, rfl, h1, _⟩ := Stt.openK (L := T ++ L) s
      exact .inr (.inr (.inl ⟨rfl, .inl ⟨kvs, h1⟩⟩))
    | true =>
      obtain ⟨a, kvs, ds, rfl, h1, _⟩ := Stt.openT (L := T ++ L) s
      exact .inr (.inr (.inl ⟨rfl, .inr ⟨kvs, h1⟩⟩))
  | _ => cases ty
def tyOk (T : String) (isT : D → Bool) : Prop := (T = "list" ∧ isT = isLst) ∨ (T = "dict" ∧ isT = isDct)
theorem own_ty {T : String} {isT : D → Bool} {v : V} {d : D} {o : O} {T' : List Cell} (k : tyOk T isT) (h : EnvX C ((.c o, v, d) :: T') F P Lk G r σ H) (ty : isT d = true) : tyV X.K T v H := by
  rcases k with ⟨rfl, rfl⟩ | ⟨rfl, rfl⟩
  · exact own_tyL h ty
  · exact own_tyD h ty
theorem meth_hyp {i : Nat} {oi oo : O} {T : String} {isT : D → Bool} {os : List O} {mv : List (Option Nat)} {k : SA} {g : D → List D → Option (D × D)} {t : TA} (hk : tyOk T isT) (hG : G[i]? = some (.c oi)) (ka : ∀ σ H Q, tDM C W G k mv os σ H Q → t σ H Q)
    {σ : L2.St} {H : Hp} {Q : VK} (q : tD C W G (eMeth isT i g k) oo σ H Q) : tVar i σ H fun x H1 => tyV X.K T x H1 ∧ t σ H1 fun xs H2 => rMe C (.c oi) oo os g x xs H2 Q := by
  obtain ⟨F, P, Lk, r, E, q⟩ := q
  unfold eMeth at q
  split at q
  · rename_i d hd
    split at q
    · rename_i ht
      obtain ⟨v, h1, E1⟩ := E.take hd hG
      refine ⟨v, h1, own_ty hk E1 ht, ka _ _ _ ⟨F, P, Lk, r, E, (RD.bind q).mono fun ds r1 q1 vs F1 H1 La x1 R1 E2 m => ?_⟩⟩
      split at q1
      · rename_i d2 hd2
        split at q1
        · rename_i dr d' hg
          obtain ⟨v', h1', E3⟩ := E2.take hd2 hG
          rw [h1] at h1'
          cases h1'
          obtain ⟨L, e, s⟩ := E3
          refine ⟨F1, P, Lk, L, d2, ds, d', dr, La, R1, s, hg, fun w F' H' x' s' => q1 w F' H' (x1.trans x') ?_⟩
          have z1 : EnvX C [(.c oi, v, d'), (oo, w, dr)] F' P Lk G (r1.set i none) σ H' := EnvX.perm (T := [(oo, w, dr), (.c oi, v, d')]) ⟨L, e, s'⟩ (List.Perm.swap _ _ _)
          have z := z1.back (by rw [List.getElem?_set_self (List.getElem?_eq_some_iff.mp hd2).1]) hG h1
          rw [List.set_set] at z
          exact z
        · exact q1.elim
      · exact q1.elim
    · exact q.elim
  · exact q.elim
theorem de_meth {i : Nat} {x : Str} {p apos cpos : Pos} {name : Str} {T id : String} {oi oo : O} {os : List O} {mv : List (Option Nat)} {isT : D → Bool} {g : D → List D → Option (D × D)} {k : SA} (hk : tyOk T isT) (pa : PlainAttrs T) (slot : Slot T name id) (hty : typeOf (.builtin id) = pure (.type "method_descriptor")) (hm : MtR X id (rMe C (.c oi) oo os g))
    (hG : G[i]? = some (.c oi)) (hN : X.N[i]? = some x) (hv : Vis X.env.scope x) (ha : PA X (e :: es) (tDM C W G k mv os)) (hd : (x == ("__debug__" : Str)) = false := by decide) (hcd : (x == ("__classdict__" : Str)) = false := by decide)
    (hbase : attributeBase (.Name x p) name X.env (eval (.Name x p) X.env) = eval (.Name x p) X.env := by rfl)
    (hfew : ((backTo cpos (starEach (e :: es) X.env)).all (fun x => !x.1) && (backToKw cpos (keywordEach [] X.env)).all (fun x => x.1.isSome)
      && decide ((e :: es).length + ([] : List Keyword).length + (if ([] : List Keyword).isEmpty then 0 else 1) < 30)) = true := by rfl)
    (hline : (apos.endLine == cpos.line) = true := by rfl) (hs : starEach (e :: es) X.env = (false, eval e X.env) :: starEach es X.env := by rfl) (hplain : (backTo cpos (starEach es X.env)).any (·.1) = false := by rfl) :
    PE X (.Call (.Attribute (.Name x p) name apos) (e :: es) [] cpos) (tD C W G (eMeth isT i g k) oo) :=
  PE_weak (pe_bm pa slot hty hm (pe_var hN hv hd hcd) ha hbase hfew hline hs hplain) fun σ H Q q => meth_hyp hk hG (fun _ _ _ h => h) q
theorem de_meth0 {i : Nat} {x : Str} {p apos cpos : Pos} {name : Str} {T id : String} {oi oo : O} {isT : D → Bool} {g : D → List D → Option (D × D)} (hk : tyOk T isT) (pa : PlainAttrs T) (slot : Slot T name id) (hty : typeOf (.builtin id) = pure (.type "method_descriptor")) (hm : MtR X id (rMe C (.c oi) oo [] g))
    (hG : G[i]? = some (.c oi)) (hN : X.N[i]? = some x) (hv : Vis X.env.scope x) (hd : (x == ("__debug__" : Str)) = false := by decide) (hcd : (x == ("__classdict__" : Str)) = false := by decide)
    (hbase : attributeBase (.Name x p) name X.env (eval (.Name x p) X.env) = eval (.Name x p) X.env := by rfl) (hline : (apos.endLine == cpos.line) = true := by rfl) :
    PE X (.Call (.Attribute (.Name x p) name apos) [] [] cpos) (tD C W G (eMeth isT i g aNil) oo) := by
  refine PE_weak (pe_bm0 pa slot hty hm (pe_var hN hv hd hcd) hbase hline) fun σ H Q q => ?_
  have := meth_hyp (X := X) (t := fun σ H Q => Q [] H) (mv := []) (os := []) hk hG (fun σ H Q h => by
    obtain ⟨F, P, Lk, r, E, h⟩ := h
    exact h [] F H [] (Ext.refl F) .nil E (fun j i h => by simp at h)) q
  exact this
end
/-! list methods -/
def gAppend : D → List D → Option (D × D)
  | .lst xs, [e] => if xs.length < sizeLine then some (.non, .lst (xs ++ [e])) else none
  | _, _ => none
def gPop : D → List D → Option (D × D)
  | .lst xs, [] => match xs.getLast? with
    | some e => some (e, .lst xs.dropLast)
    | none => none
  | _, _ => none
def gPopAt : D → List D → Option (D × D)
  | .lst xs, [.int i] => match ixN xs.length i with
    | some j => match xs[j]? with
      | some e => some (e, .lst (xs.eraseIdx j))
      | none => none
    | none => none
  | _, _ => none
def gReverse : D → List D → Option (D × D)
  | .lst xs, [] => some (.non, .lst xs.reverse)
  | _, _ => none
def gClear : D → List D → Option (D × D)
  | .lst _, [] => some (.non, .lst [])
  | _, _ => none
def gInsert : D → List D → Option (D × D)
  | .lst xs, [.int i, e] => if xs.length < sizeLine ∧ 0 ≤ i ∧ i < 2 ^ 63 then some (.non, .lst (xs.take i.toNat ++ [e] ++ xs.drop i.toNat)) else none
  | _, _ => none
section
variable {X : Cx} {o : O}
theorem EnvR.none_nil {ds : List D} {vs : List V} {La : List Cell} (h : EnvR [] (ds.map some) (vs.map some) La) : ds = [] ∧ vs = [] ∧ La = [] := by
  cases ds with
  | nil => cases vs with
    | nil => cases h; exact ⟨rfl, rfl, rfl⟩
    | cons _ _ => cases h
  | cons _ _ => cases h
theorem EnvR.one {ds : List D} {vs : List V} {La : List Cell} (h : EnvR [o] (ds.map some) (vs.map some) La) : ∃ d v, ds = [d] ∧ vs = [v] ∧ La = [(o, v, d)] := by
  cases ds with
  | nil => cases h
  | cons d ds =>
    cases vs with
    | nil => cases h
    | cons v vs =>
      cases h with
      | «have» h =>
        obtain ⟨rfl, rfl, rfl⟩ := h.none_nil
        exact ⟨d, v, rfl, rfl, rfl⟩
theorem EnvR.two {o' : O} {ds : List D} {vs : List V} {La : List Cell} (h : EnvR [o, o'] (ds.map some) (vs.map some) La) : ∃ d v d' v', ds = [d, d'] ∧ vs = [v, v'] ∧ La = [(o, v, d), (o', v', d')] := by
  cases ds with
  | nil => cases h
  | cons d ds =>
    cases vs with
    | nil => cases h
    | cons v vs =>
      cases h with
      | «have» h =>
        obtain ⟨d', v', rfl, rfl, rfl⟩ := h.one
        exact ⟨d, v, d', v', rfl, rfl, rfl⟩
theorem me_append : MtR X "list.append" (rMe C (.c o) .z [o] gAppend) := fun pins s σ H x xs v us Q I rx rxs h => by
  obtain ⟨F, P, Lk, L, d, ds, d', dr, La, R, S, g, k⟩ := h
  obtain ⟨e, y, rfl, rfl, rfl⟩ := R.one
  cases d with
  | lst zs =>
    simp only [gAppend] at g
    split at g
    · rename_i hz
      cases g
      obtain ⟨a, vs, rfl, h1, l, S2⟩ := Stt.appL (L := L) (S.perm (List.Perm.swap _ _ _))
      exact mt_append pins s σ H _ _ v us Q I rx rxs ⟨a, vs, y, rfl, rfl, h1, by omega, k _ F _ (Ext.refl F) (S2.zcons .non)⟩
    · cases g
  | _ => cases g
theorem me_reverse : MtR X "list.reverse" (rMe C (.c o) .z [] gReverse) := fun pins s σ H x xs v us Q I rx rxs h => by
  obtain ⟨F, P, Lk, L, d, ds, d', dr, La, R, S, g, k⟩ := h
  obtain ⟨rfl, rfl, rfl⟩ := R.none_nil
  cases d with
  | lst zs =>
    cases g
    obtain ⟨a, vs, rfl, h1, l, S2⟩ := Stt.openL (L := L) S
    refine mt_reverse pins s σ H _ _ v us Q I rx rxs ⟨a, vs, rfl, rfl, h1, k _ F _ (Ext.refl F) (Stt.zcons .non (SttH.closeL (S2.perm (List.Perm.append_right L ?_)) (by simp [l])))⟩
    unfold cellsOf
    rw [List.zip_eq_zipWith, List.zip_eq_zipWith, ← List.reverse_zipWith l]
    exact ((List.reverse_perm _).map _).symm
  | _ => cases g
theorem me_clear : MtR X "list.clear" (rMe C (.c o) .z [] gClear) := fun pins s σ H x xs v us Q I rx rxs h => by
  obtain ⟨F, P, Lk, L, d, ds, d', dr, La, R, S, g, k⟩ := h
  obtain ⟨rfl, rfl, rfl⟩ := R.none_nil
  cases d with
  | lst zs =>
    cases g
    obtain ⟨a, vs, rfl, h1, l, S2⟩ := Stt.openL (L := L) S
    exact mt_clear pins s σ H _ _ v us Q I rx rxs ⟨a, vs, rfl, rfl, h1, k _ F _ (Ext.refl F) (Stt.zcons .non (SttH.closeL (vs := []) (ds := []) (o := o) S2.drop rfl))⟩
  | _ => cases g
theorem cells_take {vs : List V} {ds : List D} {j : Nat} {v : V} {d : D} (l : vs.length = ds.length) (hv : vs[j]? = some v) (hd : ds[j]? = some d) : (cellsOf o vs ds).Perm ((o, v, d) :: cellsOf o (vs.eraseIdx j) (ds.eraseIdx j)) := by
  induction vs generalizing ds j with
  | nil => simp at hv
  | cons w vs ih =>
    cases ds with
    | nil => simp at l
    | cons e ds =>
      cases j with
      | zero =>
        simp at hv hd
        subst hv hd
        exact .refl _
      | succ j =>
        have z := ih (ds := ds) (j := j) (by simpa using l) (by simpa using hv) (by simpa using hd)
        exact (z.cons _).trans (List.Perm.swap _ _ _)
theorem me_popAt : MtR X "list.pop" (rMe C (.c o) o [.z] gPopAt) := fun pins s σ H x xs v us Q I rx rxs h => by
  obtain ⟨F, P, Lk, L, d, ds, d', dr, La, R, S, g, k⟩ := h
  obtain ⟨e, y, rfl, rfl, rfl⟩ := R.one
  have Re : Rep C F y e := S.rep_mem (List.mem_cons_of_mem _ List.mem_cons_self)
  cases d with
  | lst zs =>
    cases e with
    | int i =>
      cases rep_int Re
      simp only [gPopAt] at g
      split at g
      · rename_i j hj
        split at g
        · rename_i e' he
          cases g
          obtain ⟨a, vs, rfl, h1, l, S2⟩ := Stt.openL S
          have hl : j < vs.length := by rw [l]; exact (List.getElem?_eq_some_iff.mp he).1
          have hv := List.getElem?_eq_getElem hl
          obtain ⟨h3, h4, h5, h6⟩ := ixN_seq hj
          have S3 : SttH C F P Lk [a] (cellsOf o vs zs ++ ((.z, .int i, .int i) :: L)) H := S2
          have S4 := S3.perm (List.perm_middle) |>.tail
          have S5 := S4.perm ((cells_take (o := o) l hv he).append_right L)
          have S6 := S5.perm (M := cellsOf o (vs.eraseIdx j) (zs.eraseIdx j) ++ ((o, vs[j], dr) :: L)) List.perm_middle.symm
          have S7 := S6.closeL (by rw [List.length_eraseIdx, List.length_eraseIdx, l])
          have hz := (I.lstM h1).1
          have h63 : sizeLine < 2 ^ 63 := by decide
          exact mt_popAt pins s σ H _ _ v us Q I rx rxs ⟨a, vs, i, j, vs[j], rfl, rfl, h1, by omega, by omega, by rw [l]; exact h3, hv, k _ F _ (Ext.refl F) (S7.perm (List.Perm.swap _ _ _))⟩
        · cases g
      · cases g
    | _ => cases g
  | _ => cases e <;> cases g
theorem me_pop : MtR X "list.pop" (rMe C (.c o) o [] gPop) := fun pins s σ H x xs v us Q I rx rxs h => by
  obtain ⟨F, P, Lk, L, d, ds, d', dr, La, R, S, g, k⟩ := h
  obtain ⟨rfl, rfl, rfl⟩ := R.none_nil
  cases d with
  | lst zs =>
    simp only [gPop] at g
    split at g
    · rename_i e' he
      cases g
      obtain ⟨a, vs, rfl, h1, l, S2⟩ := Stt.openL (L := L) S
      have hn : zs ≠ [] := fun z => by rw [z] at he; cases he
      have he2 : zs[zs.length - 1]? = some dr := by rw [← List.getLast?_eq_getElem?]; exact he
      have hl : zs.length - 1 < vs.length := by rw [l]; exact (List.getElem?_eq_some_iff.mp he2).1
      have hv := List.getElem?_eq_getElem hl
      have S5 := S2.perm ((cells_take (o := o) l hv he2).append_right L)
      have e1 : zs.eraseIdx (zs.length - 1) = zs.dropLast := List.eraseIdx_length_sub_one
      have e2 : vs.eraseIdx (zs.length - 1) = vs.dropLast := by rw [← l]; exact List.eraseIdx_length_sub_one
      rw [e1, e2] at S5
      have S6 := S5.perm (M := cellsOf o vs.dropLast zs.dropLast ++ ((o, vs[zs.length - 1], dr) :: L)) List.perm_middle.symm
      have S7 := S6.closeL (by rw [List.length_dropLast, List.length_dropLast, l])
      exact mt_pop pins s σ H _ _ v us Q I rx rxs ⟨a, vs, vs[zs.length - 1], rfl, rfl, h1, by rw [l]; exact hv, k _ F _ (Ext.refl F) (S7.perm (List.Perm.swap _ _ _))⟩
    · cases g
  | _ => cases g
theorem me_insert : MtR X "list.insert" (rMe C (.c o) .z [.z, o] gInsert) := fun pins s σ H x xs v us Q I rx rxs h => by
  obtain ⟨F, P, Lk, L, d, ds, d', dr, La, R, S, g, k⟩ := h
  obtain ⟨e, y, e', y', rfl, rfl, rfl⟩ := R.two
  have Re : Rep C F y e := S.rep_mem (List.mem_cons_of_mem _ List.mem_cons_self)
  cases d with
  | lst zs =>
    cases e with
    | int i =>
      cases rep_int Re
      simp only [gInsert] at g
      split at g
      · rename_i hz
        cases g
        obtain ⟨a, vs, rfl, h1, l, S2⟩ := Stt.openL S
        have S3 : SttH C F P Lk [a] (cellsOf o vs zs ++ ((.z, .int i, .int i) :: (o, y', e') :: L)) H := S2
        have S4 := S3.perm (List.perm_middle) |>.tail
        refine mt_insert pins s σ H _ _ v us Q I rx rxs ⟨a, vs, i, y', rfl, rfl, h1, by omega, hz.2.1, hz.2.2, k _ F _ (Ext.refl F) (Stt.zcons .non (SttH.closeL (S4.perm ?_) (by simp [l])))⟩
        have e3 : cellsOf o vs zs = cellsOf o (vs.take i.toNat) (zs.take i.toNat) ++ cellsOf o (vs.drop i.toNat) (zs.drop i.toNat) := by
          rw [← cellsOf_append (by simp [l]), List.take_append_drop, List.take_append_drop]
        rw [cellsOf_append (by simp [l]), cellsOf_append (by simp [l]), e3]
        have e4 : cellsOf o [y'] [e'] = [(o, y', e')] := rfl
        rw [e4, List.append_assoc, List.append_assoc, List.append_assoc]
        refine List.Perm.append_left _ ?_
        exact List.perm_middle
      · cases g
    | _ => cases g
  | _ => cases e <;> cases g
end

/-! ### dicts: putting -/
theorem put_rel {κ : Type} [DecidableEq κ] {F : Hp} (f : κ → D) (hf : ∀ a b, keyB (f a) (f b) = decide (a = b)) {kvs : List (κ × V)} {ds : List D} (r : RepL C F (kvs.map (·.2)) ds) {v : V} {d : D} (rv : Rep C F v d) (k : κ) :
    ∃ ds', RepL C F ((putK kvs k v).map (·.2)) ds' ∧ ((putK kvs k v).map fun p => f p.1).zip ds' = putD ((kvs.map fun p => f p.1).zip ds) (f k) d := by
  have hany : ∀ (kvs : List (κ × V)) (ds : List D), RepL C F (kvs.map (·.2)) ds → (((kvs.map fun p => f p.1).zip ds).any fun p => keyB p.1 (f k)) = kvs.any fun kv => decide (kv.1 = k) := by
    intro kvs
    induction kvs with
    | nil => intro ds r; rfl
    | cons p kvs ih =>
      intro ds r
      cases r with
      | cons a b => simp only [List.map_cons, List.zip_cons_cons, List.any_cons, hf, ih _ b]
  have hmap : ∀ (kvs : List (κ × V)) (ds : List D), RepL C F (kvs.map (·.2)) ds → ∃ ds', RepL C F ((kvs.map fun kv => if kv.1 = k then (kv.1, v) else kv).map (·.2)) ds' ∧
      ((kvs.map fun kv => if kv.1 = k then (kv.1, v) else kv).map fun p => f p.1).zip ds' = ((kvs.map fun p => f p.1).zip ds).map fun p => if keyB p.1 (f k) = true then (p.1, d) else p := by
    intro kvs
    induction kvs with
    | nil => intro ds r; exact ⟨[], .nil, rfl⟩
    | cons p kvs ih =>
      intro ds r
      cases r with
      | @cons _ e _ ds a b =>
        obtain ⟨ds', r', e'⟩ := ih _ b
        by_cases q : p.1 = k
        · refine ⟨d :: ds', ?_, ?_⟩
          · simp only [List.map_cons, if_pos q]
            exact .cons rv r'
          · simp only [List.map_cons, if_pos q, List.zip_cons_cons, hf, decide_eq_true q, if_true, e']
        · refine ⟨e :: ds', ?_, ?_⟩
          · simp only [List.map_cons, if_neg q]
            exact .cons a r'
          · simp only [List.map_cons, if_neg q, List.zip_cons_cons, hf, decide_eq_false q, e']
            simp
  unfold putK putD
  rw [hany _ _ r]
  split
  · exact hmap _ _ r
  · refine ⟨ds ++ [d], ?_, ?_⟩
    · rw [List.map_append]; exact r.append (.cons rv .nil)
    · rw [List.map_append, List.zip_append (by simpa using r.length)]
      rfl
theorem SttH.unz {F P H : Hp} {Lk : Lock} {as : List Addr} {L : List Cell} {vs : List V} {ds : List D} (h : SttH C F P Lk as (cellsOf .z vs ds ++ L) H) (l : vs.length = ds.length) : RepL C F vs ds ∧ SttH C F P Lk as L H := by
  refine ⟨?_, h.drop⟩
  obtain ⟨fp, o, n, d⟩ := h.ow
  obtain ⟨f1, f2, rfl, o1, o2⟩ := o.split
  exact OwnL.repL (F := F) (fun v d f _ p => p.1) (OwnL.iff.mpr ⟨l, o1⟩)
/-- a store into an owned list or dict of frozen things -/
def rSetO (C : Cfg) : TSet := fun o i v H Q => ∃ F P Lk L d di de d', Stt C F P Lk ((.c .z, o, d) :: L) H ∧ Rep C F i di ∧ Rep C F v de ∧ setIx d di de = some d' ∧ ∀ H', Stt C F P Lk ((.c .z, o, d') :: L) H' → Q H'
section
variable {X : Cx} {W : WX} {G : List O} {e : Expr} {es : List Expr} {pos : Pos}
theorem RepL.setO {F : Hp} {vs : List V} {ds : List D} {v : V} {d : D} (h : RepL C F vs ds) (r : Rep C F v d) (n : Nat) : RepL C F (vs.set n v) (ds.set n d) := h.set r n
theorem set_O (hu : X.A.units + 1 < cLine) : PSet X (rSetO C) := by
  intro pins s σ H o i v ov iv u Q I ro ri rv h
  obtain ⟨F, P, Lk, L, d, di, de, d', S, Ri, Rv, g, k⟩ := h
  cases d with
  | lst zs =>
    cases di with
    | int j =>
      cases rep_int Ri
      simp only [setIx] at g
      cases hj : ixN zs.length j with
      | none => rw [hj] at g; cases g
      | some n =>
        rw [hj] at g
        cases g
        obtain ⟨a, vs, rfl, h1, l, S2⟩ := Stt.openL S
        obtain ⟨r, S3⟩ := S2.unz l
        exact set_list pins s σ H _ _ v ov iv u Q I ro ri rv ⟨a, vs, j, n, rfl, rfl, h1, by rw [l]; exact hj, k _ (SttH.closeL (S3.zcell (r.setO Rv n)) (by simp [l]))⟩
    | _ => cases g
  | dct t kds =>
    cases t with
    | false =>
      have g : (if kds.length < sizeLine then (toKey di).map fun _ => D.dct false (putD kds di de) else none) = some d' := g
      split at g
      · rename_i hz
        cases hk : toKey di with
        | none => rw [hk] at g; cases g
        | some ky =>
          rw [hk] at g
          cases g
          have ek := toKey_some hk
          subst ek
          obtain ⟨a, kvs, ds, rfl, h1, l, rfl, S2⟩ := Stt.openK S
          obtain ⟨r, S3⟩ := S2.unz (by simpa using l)
          obtain ⟨ds', r', e'⟩ := put_rel keyD keyB_key r Rv ky
          have iv : i = kV ky := by cases ky <;> (cases Ri; rfl)
          subst iv
          refine set_dict hu pins s σ H _ _ v ov _ u Q I ro ri rv ⟨a, _, rfl, DPut.k h1 (by simpa [l] using hz), k _ ?_⟩
          rw [← e']
          exact SttH.closeK (S3.zcell r') (by simpa using r'.length)
      · cases g
    | true =>
      cases di with
      | tup ks =>
        have g : (if kds.length < sizeLine then (toKeys ks).map fun _ => D.dct true (putD kds (.tup ks) de) else none) = some d' := g
        split at g
        · rename_i hz
          cases hk : toKeys ks with
          | none => rw [hk] at g; cases g
          | some ky =>
            rw [hk] at g
            cases g
            have ek := toKeys_some hk
            subst ek
            obtain ⟨a, kvs, ds, rfl, h1, l, rfl, hb, S2⟩ := Stt.openT S
            obtain ⟨r, S3⟩ := S2.unz (by simpa using l)
            obtain ⟨ds', r', e'⟩ := put_rel tupD keyB_tup r Rv ky
            cases Ri with
            | @tup b ws _ ht rw' =>
              have ew := RepL.keys S rw'
              subst ew
              refine set_dict hu pins s σ H _ _ v ov _ u Q I ro ri rv ⟨a, _, rfl, DPut.t h1 (S.tup ht) (by simpa [l] using hz), k _ ?_⟩
              have e'' : ((putK kvs ky v).map fun p => tupD p.1).zip ds' = putD ((kvs.map fun p => tupD p.1).zip ds) (.tup (ky.map keyD)) de := e'
              rw [← e'']
              refine SttH.closeT (S3.zcell r') (by simpa using r'.length) fun p hp => ?_
              unfold putK at hp
              split at hp
              · obtain ⟨q, hq, e3⟩ := List.mem_map.mp hp
                by_cases h3 : q.1 = ky
                · rw [if_pos h3] at e3; subst e3; exact hb q hq
                · rw [if_neg h3] at e3; subst e3; exact hb q hq
              · rcases List.mem_append.mp hp with hp | hp
                · exact hb p hp
                · have : p = (ky, v) := by simpa using hp
                  subst this
                  exact ⟨b, ht⟩
        · cases g
      | _ => cases g
  | _ => cases g
/-- x[i] = .., x an owned local -/
theorem dg_sub {i : Nat} {x : Str} {p : Pos} {f : SE} (hu : X.A.units + 1 < cLine) (hG : G[i]? = some (.c .z)) (hN : X.N[i]? = some x) (hv : Vis X.env.scope x) (hi : PE X e (tD C W0 G f .z)) (hd : (x == ("__debug__" : Str)) = false := by decide) (hcd : (x == ("__classdict__" : Str)) = false := by decide)
    (ha : ∀ v, assign (.Subscript (.Name x p) e pos) X.env v = (do
      let ov ← holding [v] (eval (.Name x p) X.env)
      let iv ← holding [v, ov] (eval e X.env)
      standAt pos
      holding [v, ov, iv] (setItem ov iv v)
      release [v, ov, iv] []) := by intro _; rfl) : PG X (.Subscript (.Name x p) e pos) (tDG C G (.sb i f)) := by
  refine PG_weak (pg_sub (pe_var hN hv hd hcd) hi (set_O (C := C) hu) ha) fun v σ H Q q => ?_
  obtain ⟨F, P, Lk, r, d, r', E, R, hp, k⟩ := q
  simp only [Tg.put] at hp
  split at hp
  · rename_i d0 h0
    obtain ⟨w, hw, _⟩ := E.take h0 hG
    split at hp
    · rename_i ix r1 hf
      split at hp
      · rename_i c hc
        split at hp
        · rename_i c' hs
          cases hp
          refine ⟨w, hw, F, P, Lk, r, E, ?_⟩
          rw [hf]
          intro iv F1 H1 x1 E1
          obtain ⟨Ri, E1⟩ := E1.rep
          obtain ⟨w', hw', E2⟩ := E1.take hc hG
          rw [hw] at hw'
          cases hw'
          obtain ⟨L, e0, S0⟩ := E2
          have S0 : Stt C F1 P Lk ((.c .z, w, c) :: L) H1 := S0
          refine ⟨F1, P, Lk, L, c, ix, d, c', S0, Ri, R.mono x1, hs, fun H' S' => k σ ⟨rfl, fun _ _ => rfl⟩ F1 H' x1 ?_⟩
          have z := EnvX.back (T := []) (r := r1.set i none) (d := c') (o := .c .z) (v := w) ⟨L, e0, S'⟩ (by rw [List.getElem?_set_self (List.getElem?_eq_some_iff.mp hc).1]) hG hw
          rw [List.set_set] at z
          exact z
        · cases hp
      · cases hp
    · cases hp
  · cases hp
end
end DL
namespace DL
open PySem PySem.Spec PyProof.Rows L2
variable {C : Cfg}
/-! ### new owned lists; assignments -/
def sAsgT (t : Tg) (f : SE) : SS := fun r => (f r).fl fun d r1 => match t.put d r1 with
  | some r2 => .nx r2
  | none => .stk
section
variable {X : Cx} {W : WX} {R : Rt} {G : List O} {e tg : Expr} {es : List Expr} {pos : Pos} {o : O}
theorem de_lstO {k : SA} (h : PA X es (tDA C W G k)) : PE X (.List es pos) (tD C W G (eA mkLst k) (.c .z)) := by
  refine PE_weak (pe_lst h) fun σ H Q q => ?_
  obtain ⟨F, P, Lk, r, E, q⟩ := q
  refine ⟨F, P, Lk, r, E, (RD.bind q).mono fun ds r1 q1 xs F1 H1 x1 R1 E1 => ?_⟩
  obtain ⟨dz, e3, q3⟩ := RD_opt q1
  unfold mkLst at e3
  split at e3
  · rename_i hz
    cases e3
    refine ⟨by rw [R1.length]; exact hz, fun p hp => ?_⟩
    obtain ⟨L, E1, S1⟩ := E1
    exact q3 _ _ _ x1 ⟨L, E1, SttH.closeL ((Stt.hole S1 hp).zcell R1) R1.length⟩
  · cases e3
theorem de_nilO : PE X (.List [] pos) (tD C W G (eC (.lst [])) (.c o)) := by
  refine PE_weak (pe_lst pa_nil) fun σ H Q q => ?_
  obtain ⟨F, P, Lk, r, E, q⟩ := q
  refine ⟨Nat.zero_le _, fun p hp => ?_⟩
  obtain ⟨L, E1, S1⟩ := E
  exact q _ _ _ (Ext.refl F) ⟨L, E1, S1.newE hp⟩
theorem EnvR.cellsOf {o : O} : ∀ {ds : List D} {vs : List V} {La : List Cell}, EnvR (ds.map fun _ => o) (ds.map some) (vs.map some) La → vs.length = ds.length ∧ La = DL.cellsOf o vs ds
  | [], vs, La, h => by
    cases vs with
    | nil => cases h; exact ⟨rfl, rfl⟩
    | cons _ _ => cases h
  | d :: ds, vs, La, h => by
    cases vs with
    | nil => cases h
    | cons v vs =>
      cases h with
      | «have» h =>
        obtain ⟨l, e⟩ := EnvR.cellsOf h
        exact ⟨by simp [l], by rw [e]; rfl⟩
/-- a list of owned things -/
theorem de_lstOO {k : SA} {mv : List (Option Nat)} {os : List O} (h : PA X es (tDM C W G k mv os)) (ho : os = os.map fun _ => o) : PE X (.List es pos) (tD C W G (eA mkLst k) (.c o)) := by
  refine PE_weak (pe_lst h) fun σ H Q q => ?_
  obtain ⟨F, P, Lk, r, E, q⟩ := q
  refine ⟨F, P, Lk, r, E, (RD.bind q).mono fun ds r1 q1 xs F1 H1 La x1 R1 E1 m => ?_⟩
  obtain ⟨dz, e3, q3⟩ := RD_opt q1
  unfold mkLst at e3
  split at e3
  · rename_i hz
    cases e3
    have hl := R1.len
    have eo : os = ds.map fun _ => o := by
      rw [ho]
      apply List.ext_getElem
      · simpa using hl.1
      · intro i h1 h2; simp
    rw [eo] at R1
    obtain ⟨l, rfl⟩ := R1.cellsOf
    refine ⟨by rw [l]; exact hz, fun p hp => ?_⟩
    obtain ⟨L, E1, S1⟩ := E1
    exact q3 _ _ _ x1 ⟨L, E1, Stt.newL S1 l hp⟩
  · cases e3
theorem d_asg {t : Tg} {f : SE} (he : PE X e (tD C W G f .z)) (hg : PG X tg (tDG C G t)) (hd : (t.slots.all fun i => !R.pm.contains i) = true)
    (hs : swapsWithSole [tg] e pos.line X.env = pure false := by rfl) (hw : swappedStores [tg] e X.env = pure none := by rfl)
    (h1 : (assignEach [tg] X.env).map (·.2) = [assign tg X.env] := by rfl) : PS X (.Assign [tg] e pos) (tDS C W R G (sAsgT t f) G) := by
  refine PS_weak (ps_asg he hg hs hw h1) fun D σ H q => ?_
  obtain ⟨F, P, Lk, r, E, q⟩ := q
  refine ⟨F, P, Lk, r, E, (RF.fl q).mono fun d r1 q1 v F1 H1 x1 E1 => ?_⟩
  obtain ⟨R1, E1⟩ := E1.rep
  cases hp : t.put d r1 with
  | none => rw [hp] at q1; exact q1.elim
  | some r2 =>
    rw [hp] at q1
    exact ⟨F1, P, Lk, r1, d, r2, E1, R1, hp, fun σ' o' F2 H2 x2 E2 => q1 σ' F2 H2 (x1.trans x2) (o'.keep hd) E2⟩
/-- a, b = x, y with plain local names -/
def sPar (i j : Nat) (k : SA) : SS := fun r => (k r).fl fun ds r1 => match ds with
  | [x, y] => .nx ((r1.set i (some x)).set j (some y))
  | _ => .stk
theorem d_par {i j : Nat} {x y : Str} {a b : Expr} {k : SA} {oi oj : O} {mv : List (Option Nat)} {px py pt : Pos} {kt k2 pt2} (hc : X.calm = true) (hN : X.N.Nodup) (hi : X.N[i]? = some x) (hj : X.N[j]? = some y) (hij : i ≠ j)
    (hx : X.env.scope.names.lookup x = some .local) (hy : X.env.scope.names.lookup y = some .local) (ha : PA X [a, b] (tDM C W G k mv [oi, oj])) (hp : R.pm.contains i = false) (hp' : R.pm.contains j = false) (hl : i < G.length) (hl' : j < G.length)
    (hw : swappedStores [.Tuple [.Name x px, .Name y py] kt pt] (.Tuple [a, b] k2 pt2) X.env = pure (some [x, y]))
    (hs : swapsWithSole [.Tuple [.Name x px, .Name y py] kt pt] (.Tuple [a, b] k2 pt2) pos.line X.env = pure false := by rfl) :
    PS X (.Assign [.Tuple [.Name x px, .Name y py] kt pt] (.Tuple [a, b] k2 pt2) pos) (tDS C W R G (sPar i j k) ((G.set i oi).set j oj)) := by
  refine PS_weak (ps_par hc hN hi hj hij hx hy ha hw hs) fun D σ H q => ?_
  obtain ⟨F, P, Lk, r, E, q⟩ := q
  refine ⟨F, P, Lk, r, E, (RF.fl q).mono fun ds r1 q1 vs F1 H1 La x1 R1 E1 m => ?_⟩
  obtain ⟨d, v, d', v', rfl, rfl, rfl⟩ := R1.two
  refine ⟨v, v', rfl, q1 _ F1 H1 x1 ((Keep.set (by simpa using hp)).trans (Keep.set (by simpa using hp'))) ?_⟩
  have l := E1.len
  obtain ⟨L, e, s⟩ := E1
  obtain ⟨L1, T1, a1, p1⟩ := e.put (i := i) (by omega) oi v d
  obtain ⟨L2, T2, a2, p2⟩ := a1.put (i := j) (by simp; omega) oj v' d'
  refine ⟨L2, a2, Stt.drop (M := T1 ++ T2) (s.perm ?_)⟩
  have z1 : (((oi, v, d) :: (oj, v', d') :: L)).Perm ((oj, v', d') :: (oi, v, d) :: L) := List.Perm.swap _ _ _
  have z2 := z1.trans (p1.cons (oj, v', d'))
  have z3 : ((oj, v', d') :: (T1 ++ L1)).Perm (T1 ++ ((oj, v', d') :: L1)) := List.perm_middle.symm
  have z4 := (z2.trans z3).trans (p2.append_left T1)
  simpa [List.append_assoc] using z4
/-- a, b = x, y by a tuple in between: names -/
def Tg.putO : List Nat → List D → DL.Env → Option DL.Env
  | [], [], r => some r
  | i :: is, d :: ds, r => if i < r.length then Tg.putO is ds (r.set i (some d)) else none
  | _, _, _ => none
def setsG : List Nat → List O → List O → List O
  | i :: is, o :: os, G => setsG is os (G.set i o)
  | _, _, G => G
def sTup (is : List Nat) (k : SA) : SS := fun r => (k r).fl fun ds r1 => if ds.length ≤ sizeLine then match Tg.putO is ds r1 with
  | some r2 => .nx r2
  | none => .stk
  else .stk
def tNames (is : List Nat) : TGs := fun vs σ H Q => vs.length = is.length ∧ Q ((is.zip vs).foldl (fun σ p => σ.set p.1 (some p.2)) σ) H
theorem pgs_names {i : Nat} {is : List Nat} {x : Str} (hN : X.N.Nodup) (hi : X.N[i]? = some x) (hx : Loc X.env.scope x) (h : PGs X es (tNames is)) (hf : X.fn x = true ∨ X.env.scope.names.lookup x = some .local := by first | exact .inl rfl | exact .inr rfl | assumption)
    (hs : (assignEach (.Name x pos :: es) X.env).map (·.2) = assign (.Name x pos) X.env :: (assignEach es X.env).map (·.2) := by rfl) : PGs X (.Name x pos :: es) (tNames (i :: is)) := by
  refine PGs_weak (pgs_cons (pg_name hN hi hx hf) h hs) fun vs σ H Q q => ?_
  obtain ⟨l, q⟩ := q
  cases vs with
  | nil => simp at l
  | cons v vs => exact ⟨v, vs, rfl, by simpa using l, q⟩
theorem pgs_names0 : PGs X [] (tNames []) := by
  refine PGs_weak pgs_nil fun vs σ H Q q => ?_
  obtain ⟨l, q⟩ := q
  cases vs with
  | nil => exact ⟨rfl, q⟩
  | cons v vs => simp at l
theorem putO_ok {F P H : Hp} {Lk : Lock} : ∀ {is : List Nat} {os : List O} {ds : List D} {vs : List V} {La : List Cell} {G : List O} {r r' : DL.Env} {σ : L2.St}, Tg.putO is ds r = some r' → EnvR os (ds.map some) (vs.map some) La → EnvX C La F P Lk G r σ H →
    EnvX C [] F P Lk (setsG is os G) r' ((is.zip vs).foldl (fun σ p => σ.set p.1 (some p.2)) σ) H
  | [], os, [], vs, La, G, r, r', σ, hp, e, E => by
    cases hp
    cases vs with
    | nil => cases e; exact E
    | cons _ _ => cases e
  | i :: is, os, d :: ds, vs, La, G, r, r', σ, hp, e, E => by
    simp only [Tg.putO] at hp
    split at hp
    · rename_i hl
      cases vs with
      | nil => cases e
      | cons v vs =>
        cases e with
        | @«have» o _ _ os _ _ L e =>
          refine putO_ok (is := is) (os := os) (ds := ds) (vs := vs) (La := L) (G := G.set i o) hp e ?_
          obtain ⟨L0, e0, s0⟩ := E
          obtain ⟨L', T, a, p⟩ := e0.put hl o v d
          refine ⟨L', a, Stt.drop (M := T) (s0.perm ?_)⟩
          have z1 : (((o, v, d) :: L) ++ L0).Perm (L ++ ((o, v, d) :: L0)) := List.perm_middle.symm
          have z2 := z1.trans (p.append_left L)
          refine z2.trans ?_
          rw [← List.append_assoc, ← List.append_assoc]
          exact List.perm_append_comm.append_right L'
    · cases hp
  | [], os, _ :: _, vs, La, G, r, r', σ, hp, e, E => by cases hp
  | _ :: _, os, [], vs, La, G, r, r', σ, hp, e, E => by cases hp
theorem d_tup {is : List Nat} {os : List O} {mv : List (Option Nat)} {k : SA} {tgs : List Expr} {kt k2 : Nat} {pt p2 : Pos} {n : Nat} (hc : X.calm = true) (ha : PA X es (tDM C W G k mv os)) (hg : PGs X tgs (tNames is)) (hd : (is.all fun i => !R.pm.contains i) = true) (hl : is.length = n)
    (hs : swapsWithSole [.Tuple tgs kt pt] (.Tuple es k2 p2) pos.line X.env = pure false := by rfl) (hw : swappedStores [.Tuple tgs kt pt] (.Tuple es k2 p2) X.env = pure none := by rfl)
    (h1 : (assignEach [.Tuple tgs kt pt] X.env).map (·.2) = [assign (.Tuple tgs kt pt) X.env] := by rfl) (hn : (assignEach tgs X.env).length = n := by rfl) (hst : (assignEach tgs X.env).findIdx? (·.1) = none := by rfl) :
    PS X (.Assign [.Tuple tgs kt pt] (.Tuple es k2 p2) pos) (tDS C W R G (sTup is k) (setsG is os G)) := by
  refine PS_weak (ps_asg (pe_tup ha) (pg_tup hc hg hn hst) hs hw h1) fun D σ H q => ?_
  obtain ⟨F, P, Lk, r, E, q⟩ := q
  refine ⟨F, P, Lk, r, E, (RF.fl q).mono fun ds r1 q1 vs F1 H1 La x1 R1 E1 m => ?_⟩
  have len := R1.len
  split at q1
  · rename_i hz
    have lv : vs.length = ds.length := by
      have := len.2
      simpa using this
    refine ⟨by rw [lv]; exact hz, fun p hp => ?_⟩
    cases hq : Tg.putO is ds r1 with
    | none => rw [hq] at q1; exact q1.elim
    | some r2 =>
      rw [hq] at q1
      have li : ∀ (is : List Nat) (ds : List DL.D) (r r2 : DL.Env), Tg.putO is ds r = some r2 → ds.length = is.length := by
        intro is
        induction is with
        | nil => intro ds r r2 h; cases ds <;> simp [Tg.putO] at h ⊢
        | cons i is ih =>
          intro ds r r2 h
          cases ds with
          | nil => simp [Tg.putO] at h
          | cons d ds =>
            simp only [Tg.putO] at h
            split at h
            · simp [ih _ _ _ h]
            · cases h
      have hi := li _ _ _ _ hq
      refine ⟨p, vs, rfl, SqT.of upd_same, by omega, by omega, ?_⟩
      refine q1 _ F1 _ x1 (fun i hi => ?_) (putO_ok hq R1 ?_)
      · have key : ∀ (is : List Nat) (vs : List V) (σ : L2.St), (is.all fun i => !R.pm.contains i) = true → ((is.zip vs).foldl (fun σ p => σ.set p.1 (some p.2)) σ)[i]? = σ[i]? := by
          intro is
          induction is with
          | nil => intro vs σ _; rfl
          | cons j is ih =>
            intro vs σ h
            cases vs with
            | nil => rfl
            | cons v vs =>
              simp only [List.all_cons, Bool.and_eq_true] at h
              simp only [List.zip_cons_cons, List.foldl_cons]
              rw [ih vs _ h.2]
              rw [List.getElem?_set_ne]
              rintro rfl
              rw [List.contains_iff_mem.mpr hi] at h
              exact absurd h.1 (by decide)
        exact key is vs σ hd
      · obtain ⟨L0, e0, s0⟩ := E1
        exact ⟨L0, e0, s0.grow (Ext.new hp)⟩
  · exact q1.elim
theorem call_list_D (hK : X.K = C.K) : CallR X (.type "list") (rON C (g1 listD) (.c .z)) :=
  cr1 call_list_of fun F P Lk L H x dx dz Q S R e q => by
    unfold listD at e
    split at e
    · cases e
      cases R with
      | lst h r => exact ⟨_, _, rfl, .inl (.inl (S.rdL h)), fun p hp => q _ F _ (Ext.refl F) (SttH.closeL ((Stt.hole S hp).zcell r) r.length)⟩
    · cases e
      cases R with
      | tup h r => exact ⟨_, _, rfl, .inr (SqT.of (S.tup h)), fun p hp => q _ F _ (Ext.refl F) (SttH.closeL ((Stt.hole S hp).zcell r) r.length)⟩
    · cases e
      cases R with
      | ktup h r => exact ⟨_, _, rfl, .inr (by rw [hK]; exact sqT_k h), fun p hp => q _ F _ (Ext.refl F) (SttH.closeL ((Stt.hole S hp).zcell r) r.length)⟩
    · cases e
/-- x += e, ints -/
def sAugI (i : Nat) (g : Int → Int → Int) (f : SE) : SS := fun r => match r[i]? with
  | some (some (.int a)) => (f r).fl fun d r1 => match d with
    | .int b => .nx (r1.set i (some (.int (g a b))))
    | _ => .stk
  | _ => .stk
theorem d_augI {i : Nat} {x : Str} {f : SE} {op : Operator} {g : Int → Int → Int} {pos' : Pos} (hN : X.N.Nodup) (hi : X.N[i]? = some x) (hx : Loc X.env.scope x) (hG : G[i]? = some .z) (he : PE X e (tD C W G f .z)) (ho : PIp X op (ipI g)) (hp : R.pm.contains i = false) (hf : X.fn x = true ∨ X.env.scope.names.lookup x = some .local := by first | exact .inl rfl | exact .inr rfl | assumption) :
    PS X (.AugAssign (.Name x pos') op e pos) (tDS C W R G (sAugI i g f) G) := by
  refine PS_weak (ps_aug hN hi hx he ho hf) fun D σ H q => ?_
  obtain ⟨F, P, Lk, r, E, q⟩ := q
  unfold sAugI at q
  split at q
  · rename_i a ha
    obtain ⟨v, h1, R1⟩ := E.slotZ ha hG
    cases R1
    refine ⟨_, h1, F, P, Lk, r, E, (RF.fl q).mono fun d r1 q1 w F1 H1 x1 E1 => ?_⟩
    obtain ⟨R2, E1⟩ := E1.rep
    cases R2 with
    | int b =>
      refine ⟨a, b, rfl, rfl, q1 _ F1 H1 x1 (Keep.set (by simpa using hp)) ?_⟩
      have hl := E1.len
      have hl' : i < r1.length := by
        have := (List.getElem?_eq_some_iff.mp hG).1
        omega
      have z := (E1.drop.zcons (.int (g a b))).put hl'
      rw [set_z hG] at z
      exact z
    | _ => exact q1.elim
  · exact q.elim
end
end DL
set_option Elab.async false
set_option linter.all false
set_option autoImplicit false
set_option maxRecDepth 100000
set_option maxHeartbeats 1000000
/-! the data layer, part 9: enumerate, zip -/
namespace DL
open PySem PySem.Spec PyProof.Rows L2
variable {C : Cfg}

/-! ### enumerate over a list or a tuple, from any number -/
def SqB : Bool → PySem.W.Frag → Hp → Addr → List V → Prop
  | true => SqL
  | false => SqT
def IsIt : Bool → Heap → Addr → Addr → Nat → Prop
  | true => Heap.IsListIter
  | false => Heap.IsTupleIter
def SeqAt : Bool → Heap → Addr → Array Value → Prop
  | true => Heap.IsList
  | false => Heap.IsTuple
def itObjOf (b : Bool) (a : Addr) : Obj := { cls := .type (if b = true then "list_iterator" else "tuple_iterator"), data := .fields #[.ref a, .int 0 0] }
section
variable {X : Cx} {pins : List (Addr × Obj)} {σ : L2.St} {H : Hp} {s : Shared} {a it : Addr} {xs ys : List V} {b : Bool}
theorem seqB (I : Inv X pins σ H s) (h : SqB b X.K H a xs) : ∃ its : List Value, Vals xs its ∧ SeqAt b s.heap a its.toArray ∧ xs.length ≤ sizeLine := by
  cases b with
  | true => obtain ⟨its, r, p, z⟩ := I.list h; exact ⟨its, r, p.isList, z⟩
  | false => obtain ⟨its, r, p, z⟩ := I.tuple h; exact ⟨its, r, show s.heap.IsTuple a its.toArray from p, z⟩
theorem seqB_inj (I : Inv X pins σ H s) (h : SqB b X.K H a xs) (k : SqB b X.K H a ys) : xs = ys := by
  cases b with
  | true => exact I.list_inj h k
  | false => exact I.tuple_inj h k
theorem seqB_lt {items : Array Value} {h : Heap} (q : SeqAt b h a items) : a < h.objs.size := by
  cases b with
  | true => obtain ⟨o, e, _⟩ := q; exact Heap.lt_size e
  | false => obtain ⟨o, e, _⟩ := q; exact Heap.lt_size e
theorem drawsB {prog : Program} {w : World} {A : Around} (hh : A.handled = none) (hne : a ≠ it) (items : Array Value) :
    Draws prog w A it [it, a] items.size (fun i v => items[i]? = some v) (fun i h => IsIt b h it a i ∧ SeqAt b h a items) := by
  cases b with
  | true => exact Draws.list hh it a hne items
  | false => exact Draws.tuple hh it a hne items
theorem isIt_obj {h : Heap} {i : Nat} (q : IsIt b h it a i) : ∃ o, h.get? it = some o ∧ ∀ v, o.data ≠ .cell v := by
  cases b with
  | true => obtain ⟨o, e, c, d⟩ := q; exact ⟨o, e, fun v z => by rw [d] at z; cases z⟩
  | false => obtain ⟨o, e, c, d⟩ := q; exact ⟨o, e, fun v z => by rw [d] at z; cases z⟩
theorem isIt_at {h h' : Heap} {i : Nat} (q : IsIt b h it a i) (k : ∀ o, h.get? it = some o → h'.get? it = some o) : IsIt b h' it a i := by
  cases b with
  | true => exact Heap.IsListIter.at q k
  | false => exact Heap.IsTupleIter.at q k
theorem beginsB (items : Array Value) : Begins (.ref a) (itObjOf b a) fun h => SeqAt b h a items := by
  cases b with
  | true => exact begins_list a items
  | false => exact begins_tuple a items
theorem isIt_new {h : Heap} (e : h.get? it = some (itObjOf b a)) : IsIt b h it a 0 := by
  cases b with
  | true => exact ⟨_, e, rfl, rfl⟩
  | false => exact ⟨_, e, rfl, rfl⟩
end
def IteB (K : PySem.W.Frag) (b : Bool) (k : Int) (a : Addr) : It :=
  ⟨fun i H => ∃ (xs : List V) (x : V), SqB b K H a xs ∧ xs[i]? = some x,
    fun i H v H' => ∃ T x, v = .ref T ∧ H T = none ∧ H' = upd H T (.tup [.int (k + (i : Int)), x]) ∧ ∀ xs, SqB b K H a xs → xs[i]? = some x,
    fun i H => ∃ xs : List V, SqB b K H a xs ∧ xs.length = i⟩
theorem turn_enumB {P : Program} {w : World} {K : PySem.W.Frag} {elts : List Expr} {kk : Nat} {tpos : Pos} (b : Bool) (k : Int) (a e it : Addr) :
    Turn P w K (.Tuple elts kk tpos) (IteB K b k a) [e, it] e (fun i h => (∃ old, IsEnum h e it (k + (i : Int)) old) ∧ IsIt b h it a i ∧ e ≠ it ∧ e ≠ a ∧ a ≠ it) where
  mem := by simp
  obj := fun i h st c hc => by
    obtain ⟨⟨old, he⟩, hi, _⟩ := st
    have e' : c = e ∨ c = it := by simpa using hc
    rcases e' with rfl | rfl
    · exact ⟨_, he, fun v q => nomatch q⟩
    · exact isIt_obj hi
  keep := fun i h h' ⟨⟨old, he⟩, hi, hne⟩ kp => ⟨⟨old, kp e (by simp) _ he⟩, isIt_at hi fun o q => kp it (by simp) o q, hne⟩
  item := by
    rintro X rfl rfl rfl hc i pins s σ H E I hf ⟨⟨old, he⟩, hit, hne, hea, hai⟩ ⟨xs, x, hq, hx⟩
    obtain ⟨its, rv, p, hz⟩ := seqB I hq
    obtain ⟨u, hu, ru⟩ := rv.get hx
    have hel : e < s.heap.objs.size := Heap.lt_size he
    have hil : it < s.heap.objs.size := by obtain ⟨_, q, _⟩ := isIt_obj hit; exact Heap.lt_size q
    have hin : i < its.toArray.size := by rw [List.size_toArray]; exact (List.getElem?_eq_some_iff.mp hu).1
    refine wpAny_pyNext_enum_itemC (drawsB (b := b) (prog := X.prog) (w := X.w) (A := X.A.in1) (I.ok.hd hc) hai its.toArray) he ⟨hit, p⟩ hin hne (by simp; exact ⟨hne, hea⟩) fun y h' tk hy ho hst hT hsz hk => ?_
    have hyu : y = u := by
      have z : its.toArray[i]? = some y := hy
      rw [List.getElem?_toArray, hu] at z
      exact (Option.some.inj z).symm
    subst hyu
    refine ⟨_, rfl, wpAny_letOwnedTupleGo_enum (s := { s with heap := h', toks := tk + 1 }) ho fun h'' he' sb => ?_⟩
    have hT2 : h''.get? s.heap.objs.size = some { cls := .type "tuple", data := .seq #[.int (k + (i : Int)) tk, y] } := (sb.2 _ (Nat.ne_of_gt hel)).trans hT
    have new : ObjOk X.prog X.w (upd H s.heap.objs.size (.tup [.int (k + (i : Int)), x])) h'' s.heap.objs.size (.tup [.int (k + (i : Int)), x]) :=
      ⟨by show 2 ≤ sizeLine; decide, [.int (k + (i : Int)) tk, y], .cons ⟨_, rfl⟩ (.cons ru .nil), ⟨_, hT2, rfl, _, rfl⟩⟩
    have I1 : Inv X pins σ (upd H s.heap.objs.size (.tup [.int (k + (i : Int)), x])) { s with heap := h'', toks := tk + 1 } :=
      I.turnedNew (ch := [e, it]) (fun c o hb q => (sb.2 c (fun z => hb (by simp [z]))).trans (hk c o (fun z => hb (by simp [z])) (fun z => hb (by simp [z])) q)) hf (Nat.le_refl _) new
    refine ⟨.ref s.heap.objs.size, _, I1, rfl, ⟨_, x, rfl, I.hok.fresh (Nat.le_refl _), rfl, fun ys hy => by rw [seqB_inj I hy hq]; exact hx⟩, ⟨⟨y, ?_⟩, isIt_at hst.1 fun o q => (sb.2 it (Ne.symm hne)).trans q, hne, hea, hai⟩, fun c hcm => ?_⟩
    · have e1 : k + ((i + 1 : Nat) : Int) = k + (i : Int) + 1 := by omega
      rw [e1]; exact he'
    · have hlt : c < s.heap.objs.size := by
        have e' : c = e ∨ c = it := by simpa using hcm
        rcases e' with rfl | rfl <;> assumption
      rw [upd_ne (Nat.ne_of_lt hlt)]
      exact (hf c hcm).1
  done := by
    rintro X rfl rfl rfl hc i pins s σ H E I hf ⟨⟨old, he⟩, hit, hne, hea, hai⟩ ⟨xs, hq, hx⟩
    obtain ⟨its, rv, p, hz⟩ := seqB I hq
    obtain ⟨f0, f1, f2, f3, f4, f5⟩ := hf it (by simp)
    have hl : i = its.toArray.size := by rw [List.size_toArray, ← rv.length]; exact hx.symm
    refine wpAny_pyNext_enum_endD (drawsB (b := b) (prog := X.prog) (w := X.w) (A := X.A.in1) (I.ok.hd hc) hai its.toArray) he ⟨by rw [← hl]; exact hit, p⟩ fun h' eb => ⟨rfl, I.turned (t' := s.toks) (fun c o hb q => eb c o hb q) f0 f1 f3 f4 f5⟩
  self := fun A i s Q E ⟨⟨_, he⟩, _⟩ h => wpAny_pyIter_enum he h
section
variable {prog : Program} {w : World} {A : Around} {E : Value → Shared → Prop} {s : Shared}
theorem meets_enum1 {v : Value} {o : Obj} {H : Heap → Prop} (B : Begins v o H) :
    Meets (Builtin.«enumerate.__new__» ⟨[.type "enumerate", v], []⟩) (fun _ R s => H s.heap ∧
      R (.ok (.ret (.ref (s.heap.push o).objs.size))) { s with heap := (s.heap.push o).push { cls := .type "enumerate", data := .fields #[.none, .bool false, .ref s.heap.objs.size, rawInt 0, .none, .none] } }) :=
  .of_wp fun prog w A R s h => by
    obtain ⟨hp, g, d, tk, os⟩ := s; obtain ⟨hl, h⟩ := h
    have hsub := sub_enumerate
    have q1 : ∀ {A' : Around} {E : Value → Shared → Prop} {Q : Value → Shared → Prop}, Q (.ref hp.objs.size) ⟨hp.push o, g, d, tk, os⟩ → wpAny (model prog w) A' (pyIter v) Q E ⟨hp, g, d, tk, os⟩ :=
      fun q => B.iter prog w _ _ ⟨hp, g, d, tk, os⟩ _ hl q
    wp_walk using q1
    refine wpAny_stack_any fun st => wpAny_pure ?_
    split
    · rename_i c _ _ _ _ _
      cases (c == Value.type "enumerate") <;> (wp_walk using q1; exact ⟨_, rfl, h⟩)
    · wp_walk using q1
      exact ⟨_, rfl, h⟩
theorem enum_begins1 {v : Value} {o : Obj} {H : Heap → Prop} {Q : Value → Shared → Prop} (B : Begins v o H) (h1 : H s.heap)
    (h : ∀ h', IsEnum h' (s.heap.objs.size + 1) s.heap.objs.size 0 .none → h'.get? s.heap.objs.size = some o → (∀ b o, s.heap.get? b = some o → h'.get? b = some o) → Q (.ref (s.heap.objs.size + 1)) { s with heap := h' }) :
    wpAny (model prog w) A (call (.type "enumerate") [v]) Q E s := by
  refine callType_new F.called_enumerate (by decide) (F.typeCall_enumerate_1 _) (F.newCall_enumerate_1 _) (fun obj => F.args_object_init_2 obj _) F.entry_enumerate_new (meets_enum1 B) ⟨h1, ?_⟩
  have hz : (s.heap.push o).objs.size = s.heap.objs.size + 1 := Heap.size_push ..
  show _ ∧ _
  rw [hz]
  have he := Heap.get?_push_size (s.heap.push o) (o := { cls := .type "enumerate", data := .fields #[.none, .bool false, .ref s.heap.objs.size, rawInt 0, .none, .none] }) rfl
  rw [hz] at he
  exact ⟨⟨_, he, rfl⟩, h _ he (Heap.get?_push_of_some _ (Heap.get?_push_size _ B.free)) fun b o x => Heap.get?_push_of_some _ (Heap.get?_push_of_some _ x)⟩
end
def iEnB (K : PySem.W.Frag) (k : Int) (ta : TA) : TI := fun σ H R => ta σ H fun vs H1 => ∃ a xs b, vs = [.ref a] ∧ SqB b K H1 a xs ∧ R (IteB K b k a) H1
section
variable {X : Cx} {e : Expr} {ta : TA} {p pos tpos : Pos} {elts : List Expr} {kk : Nat}
theorem enum_end {pins : List (Addr × Obj)} {σ : L2.St} {H : Hp} {s : Shared} {R : It → Hp → Prop} {b : Bool} {a : Addr} {k : Int} {h' : Heap} {its : Array Value} (I : Inv X pins σ H s) (p : SeqAt b s.heap a its) (he : IsEnum h' (s.heap.objs.size + 1) s.heap.objs.size k .none) (hi : h'.get? s.heap.objs.size = some (itObjOf b a)) (hk : ∀ b o, s.heap.get? b = some o → h'.get? b = some o)
    (q : R (IteB X.K b k a) H) : PIE X pins σ (.Tuple elts kk tpos) R (.ref (s.heap.objs.size + 1)) { s with heap := h' } := by
  have I2 : Inv X pins σ H { s with heap := h' } := I.kept (t' := s.toks) hk
  have al : a < s.heap.objs.size := seqB_lt p
  refine ⟨s.heap.objs.size + 1, [s.heap.objs.size + 1, s.heap.objs.size], _, _, H, rfl, I2, turn_enumB b k a (s.heap.objs.size + 1) s.heap.objs.size, ⟨⟨.none, by simpa using he⟩, isIt_new hi, Nat.succ_ne_self _, Nat.ne_of_gt (Nat.lt_succ_of_lt al), Nat.ne_of_lt al⟩, fun c hcm => ?_, q⟩
  have hle : s.heap.objs.size ≤ c := by
    have e' : c = s.heap.objs.size + 1 ∨ c = s.heap.objs.size := by simpa using hcm
    rcases e' with z | z
    · rw [z]; exact Nat.le_add_right _ _
    · rw [z]; exact Nat.le_refl _
  exact I.fpOk hle (I.hok.fresh hle)
theorem pi_enumB (hg : Gl X "enumerate") (hm : X.mg "enumerate" = none) (ha : PA X [e] ta) (hs : starEach [e] X.env = [(false, eval e X.env)] := by rfl) :
    PI X (.Tuple elts kk tpos) (.Call (.Name "enumerate" p) [e] [] pos) (iEnB X.K 0 ta) := by
  refine ⟨fun pins s σ H R I h => ?_⟩
  refine Call_ (ld_blt I hg hm boot_enumerate (PyProof.Rows.callWith_type1 (thn (ha.run pos pins s σ H _ I h) fun us s1 ⟨vs, H1, I1, r1, q1⟩ => ?_) hs rfl))
  obtain ⟨a, xs, b, rfl, hq, q⟩ := q1
  obtain ⟨u, rfl, ru⟩ := Vals.one r1
  cases ru
  obtain ⟨its, rv, p', hz⟩ := seqB I1 hq
  exact enum_begins1 (beginsB its.toArray) p' fun h' he hi hk => wpAny_pyIter_enum he (enum_end I1 p' he hi hk q)
theorem call_typeK {M : Model} {A : Around} {E : Value → Shared → Prop} {s : Shared} {T : String} {args : List (Bool × Sem Value)} {kws : List (Option Str × Sem Value)} {Q : Value → Shared → Prop} (h1 : args.any (·.1) = false) (h2 : kws.any (·.1.isNone) = false)
    (h : wpAny M A (evalArgs (.type T) true args kws) (fun a s₁ => wpAny M A (call (.type T) ([] ++ a.pos) a.kw) Q E s₁) E s) : wpAny M A (callWith pos (.type T) [] args kws) Q E s := by
  unfold callWith
  refine wpAny_bind (wpAny_holding (wpAny_mono h (fun a s₁ g => wpAny_bind (wpAny_standAt ?_)) fun _ _ x => x))
  simp only [h1, h2, Bool.or_false]
  refine wpAny_bind (wpAny_pure (wpAny_bind (wpAny_mono g (fun r s₂ hr => wpAny_bind (wpAny_holding (wpAny_point (wpAny_pure hr)))) fun _ _ x => x)))
theorem pi_enumK {kp kp2 : Pos} {k : Int} (hk0 : -(2 ^ 63) ≤ k) (hk1 : k < 2 ^ 63) (hg : Gl X "enumerate") (hm : X.mg "enumerate" = none) (ha : PA X [e] ta) {nm : Nat} (hs : starEach [e] X.env = [(false, eval e X.env)] := by rfl) :
    PI X (.Tuple elts kk tpos) (.Call (.Name "enumerate" p) [e] [⟨some (Str.ofString "start"), .Constant (.int k) nm kp, kp2⟩] pos) (iEnB X.K k ta) := by
  refine ⟨fun pins s σ H R I h => ?_⟩
  refine wpAny_Call_Name_kw (ld_blt I hg hm boot_enumerate ?_)
  refine call_typeK (by rw [hs]; rfl) rfl ?_
  rw [hs]
  refine PyProof.Rows.evalArgs_kwB rfl ?_
  have hA := ha.run pos pins s σ H _ I h
  rw [hs] at hA
  refine thn hA fun us s1 ⟨vs, H1, I1, r1, q1⟩ => ?_
  refine PyProof.Rows.kws_cons ?_
  refine thn (pe_int.run pins s1 σ H1 (fun x H2 => x = .int k ∧ H2 = H1) I1 ⟨rfl, rfl⟩) fun kv s2 ⟨x, H2, I2, rk, e1, e2⟩ => ?_
  subst e1 e2
  obtain ⟨t, rfl⟩ := rk
  refine PyProof.Rows.kws_nil ?_
  obtain ⟨a, xs, b, rfl, hq, q⟩ := q1
  obtain ⟨u, rfl, ru⟩ := Vals.one r1
  cases ru
  obtain ⟨its, rv, p', hz⟩ := seqB I2 hq
  show wpAny _ _ (call (.type "enumerate") [.ref a] [(Str.ofString "start", .int k t)]) _ _ s2
  exact enum_begins_start (beginsB its.toArray) p' hk0 hk1 fun h' he hi _ hk => wpAny_pyIter_enum he (enum_end I2 p' he hi hk q)
end
/-! ### as data -/
def enD (k : Int) (xs : List D) : List D := xs.mapIdx fun i x => .tup [.int (k + (i : Int)), x]
def enA (k : Int) : List D → Option (List D)
  | [.lst xs] => some (enD k xs)
  | [.tup xs] => some (enD k xs)
  | [.ktup xs] => some (enD k xs)
  | _ => none
def iEn (k : Int) (f : SA) : SI := fun r => (f r).bind fun ds r1 => opt (enA k ds) r1
def zpA : List D → Option (List D)
  | [.lst xs, .lst ys] => some ((xs.zip ys).map fun p => .tup [p.1, p.2])
  | [.tup xs, .tup ys] => some ((xs.zip ys).map fun p => .tup [p.1, p.2])
  | [.ktup xs, .ktup ys] => some ((xs.zip ys).map fun p => .tup [p.1, p.2])
  | [.ktup xs, .tup ys] => some ((xs.zip ys).map fun p => .tup [p.1, p.2])
  | [.tup xs, .ktup ys] => some ((xs.zip ys).map fun p => .tup [p.1, p.2])
  | _ => none
def iZp (f : SA) : SI := fun r => (f r).bind fun ds r1 => opt (zpA ds) r1
theorem seqD {F : Hp} {v : V} {d : D} {xs : List D} (h : d = .lst xs ∨ d = .tup xs ∨ d = .ktup xs) (r : Rep C F v d) : ∃ a vs b, v = .ref a ∧ (b = true ↔ d = .lst xs) ∧ RepL C F vs xs ∧ ∀ F2 P Lk L H, Ext F F2 → Stt C F2 P Lk L H → SqB b C.K H a vs := by
  rcases h with rfl | rfl | rfl
  · cases r with
    | lst h rr => exact ⟨_, _, true, rfl, by simp, rr, fun F2 P Lk L H e S => .inl (S.rdL (e.rd h))⟩
  · cases r with
    | tup h rr => exact ⟨_, _, false, rfl, by simp, rr, fun F2 P Lk L H e S => SqT.of (S.tup (e _ _ h))⟩
  · cases r with
    | ktup h rr => exact ⟨_, _, false, rfl, by simp, rr, fun F2 P Lk L H e S => sqT_k h⟩
theorem yld_en {F : Hp} {a : Addr} {b : Bool} {k : Int} {vs : List V} {xs : List D} (rr : RepL C F vs xs) (h : ∀ F2 P Lk L H, Ext F F2 → Stt C F2 P Lk L H → SqB b C.K H a vs) : Yld C (IteB C.K b k a) F (enD k xs) where
  go := fun i F2 P Lk L H e S hi => by
    have hi : i < xs.length := by simpa [enD] using hi
    obtain ⟨v, hv, _⟩ := rr.get (List.getElem?_eq_getElem hi)
    exact ⟨vs, v, h _ _ _ _ _ e S, hv⟩
  stop := fun F2 P Lk L H e S => ⟨vs, h _ _ _ _ _ e S, by rw [rr.length]; simp [enD]⟩
  yld := fun i F2 P Lk L H v H' e S hi y => by
    obtain ⟨T, x, rfl, hT, rfl, hx⟩ := y
    obtain ⟨d, hd, Rd⟩ := rr.get' (hx vs (h _ _ _ _ _ e S))
    obtain ⟨x2, S2⟩ := S.newZ (o := .tup [.int (k + (i : Int)), x]) hT
    exact ⟨_, .tup [.int (k + (i : Int)), d], x2, by simp [enD, hd], .tup upd_same (.cons (.int _) (.cons ((Rd.mono e).mono x2) .nil)), S2⟩
theorem enA_some {k : Int} {ds items : List D} (h : enA k ds = some items) : ∃ d xs, ds = [d] ∧ (d = .lst xs ∨ d = .tup xs ∨ d = .ktup xs) ∧ items = enD k xs := by
  unfold enA at h
  split at h
  · cases h; exact ⟨_, _, rfl, .inl rfl, rfl⟩
  · cases h; exact ⟨_, _, rfl, .inr (.inl rfl), rfl⟩
  · cases h; exact ⟨_, _, rfl, .inr (.inr rfl), rfl⟩
  · cases h
section
variable {X : Cx} {W : WX} {G : List O} {e e2 : Expr} {f : SA} {p pos tpos : Pos} {elts : List Expr} {kk : Nat}
theorem en_hyp (hK : X.K = C.K) {k : Int} {σ : L2.St} {H : Hp} {R : It → Hp → Prop} (q : tDI C W G (iEn k f) σ H R) : iEnB X.K k (tDA C W G f) σ H R := by
  obtain ⟨F, P, Lk, r, E, q⟩ := q
  refine ⟨F, P, Lk, r, E, (RD.bind q).mono fun ds r1 q1 vs F1 H1 x1 R1 E1 => ?_⟩
  obtain ⟨items, e3, q3⟩ := RD_opt q1
  obtain ⟨d, xs, rfl, hd, rfl⟩ := enA_some e3
  obtain ⟨v, rfl, Rv⟩ := repl1 R1
  obtain ⟨a, ws, b, rfl, _, rr, sq⟩ := seqD hd Rv
  obtain ⟨L, e0, S0⟩ := id E1
  rw [hK]
  exact ⟨a, ws, b, rfl, sq _ _ _ _ _ (Ext.refl _) S0, q3 _ F1 H1 x1 E1 (yld_en rr sq)⟩
theorem di_enum (hK : X.K = C.K) (hg : Gl X "enumerate") (hm : X.mg "enumerate" = none) (ha : PA X [e] (tDA C W G f)) (hs : starEach [e] X.env = [(false, eval e X.env)] := by rfl) :
    PI X (.Tuple elts kk tpos) (.Call (.Name "enumerate" p) [e] [] pos) (tDI C W G (iEn 0 f)) :=
  PI_weak (pi_enumB hg hm ha hs) fun _ _ _ q => en_hyp hK q
theorem di_enumK {kp kp2 : Pos} {k : Int} {nm : Nat} (hk0 : -(2 ^ 63) ≤ k) (hk1 : k < 2 ^ 63) (hK : X.K = C.K) (hg : Gl X "enumerate") (hm : X.mg "enumerate" = none) (ha : PA X [e] (tDA C W G f)) (hs : starEach [e] X.env = [(false, eval e X.env)] := by rfl) :
    PI X (.Tuple elts kk tpos) (.Call (.Name "enumerate" p) [e] [⟨some (Str.ofString "start"), .Constant (.int k) nm kp, kp2⟩] pos) (tDI C W G (iEn k f)) :=
  PI_weak (pi_enumK hk0 hk1 hg hm ha hs) fun _ _ _ q => en_hyp hK q
theorem yld_zp {F : Hp} {a b : Addr} {vs ws : List V} {xs ys : List D} (rx : RepL C F vs xs) (ry : RepL C F ws ys) (h : ∀ F2 P Lk L H, Ext F F2 → Stt C F2 P Lk L H → SqB true C.K H a vs ∧ SqB true C.K H b ws) : Yld C (Itz C.K a b) F ((xs.zip ys).map fun p => .tup [p.1, p.2]) where
  go := fun i F2 P Lk L H e S hi => by
    have hi : i < xs.length ∧ i < ys.length := by simp at hi; omega
    obtain ⟨v, hv, _⟩ := rx.get (List.getElem?_eq_getElem hi.1)
    obtain ⟨w, hw, _⟩ := ry.get (List.getElem?_eq_getElem hi.2)
    obtain ⟨h1, h2⟩ := h _ _ _ _ _ e S
    exact ⟨vs, ws, v, w, h1, h2, hv, hw⟩
  stop := fun F2 P Lk L H e S => by
    obtain ⟨h1, h2⟩ := h _ _ _ _ _ e S
    refine ⟨vs, ws, h1, h2, ?_⟩
    rw [rx.length, ry.length]
    simp; omega
  yld := fun i F2 P Lk L H v H' e S hi y => by
    obtain ⟨T, x, y, rfl, hT, rfl, hx, hy⟩ := y
    obtain ⟨h1, h2⟩ := h _ _ _ _ _ e S
    obtain ⟨d, hd, Rd⟩ := rx.get' (hx vs h1)
    obtain ⟨d', hd', Rd'⟩ := ry.get' (hy ws h2)
    obtain ⟨x2, S2⟩ := S.newZ (o := .tup [x, y]) hT
    have hz : (xs.zip ys)[i]? = some (d, d') := by rw [List.getElem?_zip_eq_some]; exact ⟨hd, hd'⟩
    exact ⟨_, .tup [d, d'], x2, by rw [List.getElem?_map, hz]; rfl, .tup upd_same (.cons ((Rd.mono e).mono x2) (.cons ((Rd'.mono e).mono x2) .nil)), S2⟩
theorem yld_zt {F : Hp} {a b : Addr} {vs ws : List V} {xs ys : List D} (rx : RepL C F vs xs) (ry : RepL C F ws ys) (h : ∀ F2 P Lk L H, Ext F F2 → Stt C F2 P Lk L H → SqB false C.K H a vs ∧ SqB false C.K H b ws) : Yld C (RZ.ItzT C.K a b) F ((xs.zip ys).map fun p => .tup [p.1, p.2]) where
  go := fun i F2 P Lk L H e S hi => by
    have hi : i < xs.length ∧ i < ys.length := by simp at hi; omega
    obtain ⟨v, hv, _⟩ := rx.get (List.getElem?_eq_getElem hi.1)
    obtain ⟨w, hw, _⟩ := ry.get (List.getElem?_eq_getElem hi.2)
    obtain ⟨h1, h2⟩ := h _ _ _ _ _ e S
    exact ⟨vs, ws, v, w, h1, h2, hv, hw⟩
  stop := fun F2 P Lk L H e S => by
    obtain ⟨h1, h2⟩ := h _ _ _ _ _ e S
    refine ⟨vs, ws, h1, h2, ?_⟩
    rw [rx.length, ry.length]
    simp; omega
  yld := fun i F2 P Lk L H v H' e S hi y => by
    obtain ⟨T, x, y, rfl, hT, rfl, hx, hy⟩ := y
    obtain ⟨h1, h2⟩ := h _ _ _ _ _ e S
    obtain ⟨d, hd, Rd⟩ := rx.get' (hx vs h1)
    obtain ⟨d', hd', Rd'⟩ := ry.get' (hy ws h2)
    obtain ⟨x2, S2⟩ := S.newZ (o := .tup [x, y]) hT
    have hz : (xs.zip ys)[i]? = some (d, d') := by rw [List.getElem?_zip_eq_some]; exact ⟨hd, hd'⟩
    exact ⟨_, .tup [d, d'], x2, by rw [List.getElem?_map, hz]; rfl, .tup upd_same (.cons ((Rd.mono e).mono x2) (.cons ((Rd'.mono e).mono x2) .nil)), S2⟩
theorem zpA_some {ds items : List D} (h : zpA ds = some items) : ∃ d d' xs ys, ds = [d, d'] ∧ ((d = .lst xs ∧ d' = .lst ys) ∨ ((d = .tup xs ∨ d = .ktup xs) ∧ (d' = .tup ys ∨ d' = .ktup ys))) ∧ items = (xs.zip ys).map fun p => .tup [p.1, p.2] := by
  unfold zpA at h
  split at h
  · cases h; exact ⟨_, _, _, _, rfl, .inl ⟨rfl, rfl⟩, rfl⟩
  · cases h; exact ⟨_, _, _, _, rfl, .inr ⟨.inl rfl, .inl rfl⟩, rfl⟩
  · cases h; exact ⟨_, _, _, _, rfl, .inr ⟨.inr rfl, .inr rfl⟩, rfl⟩
  · cases h; exact ⟨_, _, _, _, rfl, .inr ⟨.inr rfl, .inl rfl⟩, rfl⟩
  · cases h; exact ⟨_, _, _, _, rfl, .inr ⟨.inl rfl, .inr rfl⟩, rfl⟩
  · cases h
theorem di_zip (hK : X.K = C.K) (hg : Gl X "zip") (hm : X.mg "zip" = none) (ha : PA X [e, e2] (tDA C W G f))
    (hs : starEach [e, e2] X.env = (false, eval e X.env) :: starEach [e2] X.env := by rfl) (hpl : (backTo pos (starEach [e2] X.env)).any (·.1) = false := by rfl) :
    PI X (.Tuple elts kk tpos) (.Call (.Name "zip" p) [e, e2] [] pos) (tDI C W G (iZp f)) := by
  refine PI_weak (RZ.pi_zipA hg hm ha hs hpl) fun σ H R q => ?_
  obtain ⟨F, P, Lk, r, E, q⟩ := q
  refine ⟨F, P, Lk, r, E, (RD.bind q).mono fun ds r1 q1 vs F1 H1 x1 R1 E1 => ?_⟩
  obtain ⟨items, e3, q3⟩ := RD_opt q1
  obtain ⟨d, d', xs, ys, rfl, hd, rfl⟩ := zpA_some e3
  obtain ⟨v, w, rfl, Rv, Rw⟩ := repl2 R1
  obtain ⟨L, e0, S0⟩ := id E1
  rw [hK]
  rcases hd with ⟨h1, h2⟩ | ⟨h1, h2⟩
  · obtain ⟨a, ws, b, rfl, hb, rr, sq⟩ := seqD (.inl h1) Rv
    obtain ⟨a', ws', b', rfl, hb', rr', sq'⟩ := seqD (.inl h2) Rw
    cases hb.mpr h1
    cases hb'.mpr h2
    exact ⟨a, a', ws, ws', rfl, .inl ⟨sq _ _ _ _ _ (Ext.refl _) S0, sq' _ _ _ _ _ (Ext.refl _) S0, q3 _ F1 H1 x1 E1 (yld_zp rr rr' fun _ _ _ _ _ e S => ⟨sq _ _ _ _ _ e S, sq' _ _ _ _ _ e S⟩)⟩⟩
  · obtain ⟨a, ws, b, rfl, hb, rr, sq⟩ := seqD (.inr h1) Rv
    obtain ⟨a', ws', b', rfl, hb', rr', sq'⟩ := seqD (.inr h2) Rw
    have eb : b = false := by
      cases b with
      | false => rfl
      | true => rcases h1 with h1 | h1 <;> (have z := hb.mp rfl; rw [h1] at z; cases z)
    have eb' : b' = false := by
      cases b' with
      | false => rfl
      | true => rcases h2 with h2 | h2 <;> (have z := hb'.mp rfl; rw [h2] at z; cases z)
    subst eb eb'
    exact ⟨a, a', ws, ws', rfl, .inr ⟨sq _ _ _ _ _ (Ext.refl _) S0, sq' _ _ _ _ _ (Ext.refl _) S0, q3 _ F1 H1 x1 E1 (yld_zt rr rr' fun _ _ _ _ _ e S => ⟨sq _ _ _ _ _ e S, sq' _ _ _ _ _ e S⟩)⟩⟩
end
end DL
set_option Elab.async false
set_option linter.all false
set_option autoImplicit false
set_option maxRecDepth 100000
set_option maxHeartbeats 1000000
/-! the data layer, part 10: chains, isinstance, constants -/
namespace DL
open PySem PySem.Spec PyProof.Rows L2
variable {C : Cfg}
def eCh2 (g g' : D → D → Option D) (fa fb fc : SE) : SE := fun r => (fa r).bind fun x r1 => (fb r1).bind fun y r2 => match g x y with
  | some (.bl true) => (fc r2).bind fun z r3 => opt (g' y z) r3
  | some (.bl false) => .ok (.bl false) r2
  | _ => .stk
def eCh3 (g g' g'' : D → D → Option D) (fa fb fc fd : SE) : SE := fun r => (fa r).bind fun x r1 => (fb r1).bind fun y r2 => match g x y with
  | some (.bl true) => (fc r2).bind fun z r3 => match g' y z with
    | some (.bl true) => (fd r3).bind fun u r4 => opt (g'' z u) r4
    | some (.bl false) => .ok (.bl false) r3
    | _ => .stk
  | some (.bl false) => .ok (.bl false) r2
  | _ => .stk
section
variable {X : Cx} {W : WX} {G : List O} {a b c d e : Expr} {pos : Pos}
theorem ch_hyp {g g' : D → D → Option D} {fa fb fc : SE} {σ : L2.St} {H : Hp} {Q : VK} (q : tD C W G (eCh2 g g' fa fb fc) .z σ H Q) : tChain (rO2 C g .z) (rO2 C g' .z) (tD C W G fa .z) (tD C W G fb .z) (tD C W G fc .z) σ H Q := by
  obtain ⟨F, P, Lk, r, E, q⟩ := q
  refine ⟨F, P, Lk, r, E, (RD.bind q).mono fun dx r1 q1 x F1 H1 x1 E0 => ?_⟩
  obtain ⟨R1, E1⟩ := E0.rep
  clear E0
  refine ⟨F1, P, Lk, r1, E1, (RD.bind (q1.ext x1 (Ext.refl P))).mono fun dy r2 q2 y F2 H2 x2 E2 => ?_⟩
  obtain ⟨R2, L, e2, S2⟩ := E2.rep
  have S2 : Stt C F2 P Lk L H2 := S2
  have go : ∀ (k : Bool), g dx dy = some (.bl k) → _ := fun k hk => (⟨F2, P, Lk, L, dx, dy, .bl k, S2, R1.mono x2, R2, hk, fun w F' H' x' S' => by
    cases S'.rep
    have E3 : EnvX C [] F' P Lk G r2 σ H' := ⟨L, e2, S'.tail⟩
    refine ⟨k, rfl, ?_⟩
    have q3 := q2.ext (x2.trans x') (Ext.refl P)
    rw [hk] at q3
    cases k with
    | true =>
      rw [if_pos rfl]
      refine ⟨F', P, Lk, r2, E3, (RD.bind (q3 : RD C W F' P Lk σ ((fc r2).bind fun z r3 => opt (g' dy z) r3) _)).mono fun dz r3 q4 z F4 H4 x4 E4 => ?_⟩
      obtain ⟨d5, e5, q5⟩ := RD_opt q4
      obtain ⟨R4, L4, e4, S4⟩ := E4.rep
      exact ⟨F4, P, Lk, L4, dy, dz, d5, S4, (R2.mono x').mono x4, R4, e5, fun w' F6 H6 x6 S6 => q5 w' F6 H6 ((x1.trans x2).trans (x'.trans (x4.trans x6))) ⟨L4, e4, S6⟩⟩
    | false =>
      rw [if_neg Bool.false_ne_true]
      exact q3 _ F' H' ((x1.trans x2).trans x') (E3.zcons (.bl false))⟩ : rO2 C g .z x y H2 fun z H3 => ∃ k, z = .bl k ∧ (if k = true then tD C W G fc .z σ H3 fun w' H4 => rO2 C g' .z y w' H4 Q else Q (.bl false) H3))
  cases hg : g dx dy with
  | none => rw [hg] at q2; exact q2.elim
  | some dz =>
    cases dz with
    | bl k => exact go k hg
    | _ => rw [hg] at q2; exact q2.elim
theorem de_ch2 {op op' : CmpOp} {g g' : D → D → Option D} {fa fb fc : SE} (ho : OpR X (compareOp op) (rO2 C g .z)) (ho' : OpR X (compareOp op') (rO2 C g' .z)) (ha : PE X a (tD C W G fa .z)) (hb : PE X b (tD C W G fb .z)) (hc : PE X c (tD C W G fc .z))
    (hm : lastMarks [op, op'] [b, c] = false := by with_unfolding_all rfl) : PE X (.Compare a [op, op'] [b, c] pos) (tD C W G (eCh2 g g' fa fb fc) .z) :=
  PE_weak (pe_chain ho ho' ha hb hc hm) fun _ _ _ q => ch_hyp q
theorem dt_ch2 {op op' : CmpOp} {g g' : D → D → Option D} {fa fb fc : SE} (ho : OpR X (compareOp op) (rO2 C g .z)) (ho' : OpR X (compareOp op') (rO2 C g' .z)) (ha : PE X a (tD C W G fa .z)) (hb : PE X b (tD C W G fb .z)) (hc : PE X c (tD C W G fc .z))
    (hm : lastMarks [op, op'] [b, c] = false := by with_unfolding_all rfl) : PT X (.Compare a [op, op'] [b, c] pos) (tDT C W G (boolT (eCh2 g g' fa fb fc))) := by
  refine PT_weak (pt_chain ho ho' ha hb hc hm) fun σ H Q q => ?_
  refine ch_hyp (Q := fun x H' => ∃ k, x = .bl k ∧ Q k H') ?_
  obtain ⟨F, P, Lk, r, E, q⟩ := q
  refine ⟨F, P, Lk, r, E, (RD.bind q).mono fun d r1 q1 x F1 H1 x1 E0 => ?_⟩
  obtain ⟨k, e3, q3⟩ := RD_opt q1
  obtain ⟨R1, E1⟩ := E0.rep
  clear E0
  cases R1 with
  | bl b => cases e3; exact ⟨_, rfl, q3 F1 H1 x1 E1⟩
  | _ => cases e3
def tChain3 (r r' r'' : R2) (ta tb tc td : TE) : TE := fun σ H Q => ta σ H fun x H1 => tb σ H1 fun y H2 => r x y H2 fun z H3 => ∃ k, z = .bl k ∧
  (if k = true then tc σ H3 fun w' H4 => r' y w' H4 fun z' H5 => ∃ k', z' = .bl k' ∧ (if k' = true then td σ H5 fun u H6 => r'' w' u H6 Q else Q (.bl false) H5) else Q (.bl false) H3)
theorem pe_ch3 {op op' op'' : CmpOp} {r r' r'' : R2} {ta tb tc td : TE} (ho : OpR X (compareOp op) r) (ho' : OpR X (compareOp op') r') (ho'' : OpR X (compareOp op'') r'') (ha : PE X a ta) (hb : PE X b tb) (hc : PE X c tc) (hd : PE X d td)
    (hm : lastMarks [op, op', op''] [b, c, d] = false := by with_unfolding_all rfl) : PE X (.Compare a [op, op', op''] [b, c, d] pos) (tChain3 r r' r'' ta tb tc td) := by
  refine ⟨fun pins s σ H Q I h => ?_⟩
  refine Compare_chain (thn (ha.run pins s σ H _ I h) fun v s1 ⟨x, H1, I1, r1, q1⟩ => chain_link (thn (hb.run pins s1 σ H1 _ I1 q1) fun u s2 ⟨y, H2, I2, r2, q2⟩ => thn (ho pins s2 σ H2 x y v u _ I2 r1 r2 q2) fun d s3 ⟨z, H3, I3, r3, k, e, q3⟩ => ?_)) hm
  subst e
  cases r3
  refine wpAny_truthy_bool ?_
  cases k with
  | false => exact ite_ff ⟨.bl false, H3, I3, rfl, q3⟩
  | true =>
    refine ite_tt (chain_link (thn (hc.run pins s3 σ H3 _ I3 q3) fun w' s4 ⟨z', H4, I4, r4, q4⟩ => thn (ho' pins s4 σ H4 y z' u w' _ I4 r2 r4 q4) fun d' s5 ⟨z5, H5, I5, r5, k', e', q5⟩ => ?_))
    subst e'
    cases r5
    refine wpAny_truthy_bool ?_
    cases k' with
    | false => exact ite_ff ⟨.bl false, H5, I5, rfl, q5⟩
    | true => exact ite_tt (chain_last (thn (hd.run pins s5 σ H5 _ I5 q5) fun u' s6 ⟨z6, H6, I6, r6, q6⟩ => ho'' pins s6 σ H6 z' z6 w' u' Q I6 r4 r6 q6))
theorem de_ch3 {op op' op'' : CmpOp} {g g' g'' : D → D → Option D} {fa fb fc fd : SE} (ho : OpR X (compareOp op) (rO2 C g .z)) (ho' : OpR X (compareOp op') (rO2 C g' .z)) (ho'' : OpR X (compareOp op'') (rO2 C g'' .z)) (ha : PE X a (tD C W G fa .z)) (hb : PE X b (tD C W G fb .z)) (hc : PE X c (tD C W G fc .z)) (hd : PE X d (tD C W G fd .z))
    (hm : lastMarks [op, op', op''] [b, c, d] = false := by with_unfolding_all rfl) : PE X (.Compare a [op, op', op''] [b, c, d] pos) (tD C W G (eCh3 g g' g'' fa fb fc fd) .z) := by
  refine PE_weak (pe_ch3 ho ho' ho'' ha hb hc hd hm) fun σ H Q q => ?_
  obtain ⟨F, P, Lk, r, E, q⟩ := q
  refine ⟨F, P, Lk, r, E, (RD.bind q).mono fun dx r1 q1 x F1 H1 x1 E0 => ?_⟩
  obtain ⟨R1, E1⟩ := E0.rep
  clear E0
  refine ⟨F1, P, Lk, r1, E1, (RD.bind (q1.ext x1 (Ext.refl P))).mono fun dy r2 q2 y F2 H2 x2 E2 => ?_⟩
  obtain ⟨R2, L, e2, S2⟩ := E2.rep
  have S2 : Stt C F2 P Lk L H2 := S2
  have hg : ∃ k, g dx dy = some (.bl k) := by
    cases hg : g dx dy with
    | none => rw [hg] at q2; exact q2.elim
    | some dz => cases dz with
      | bl k => exact ⟨k, rfl⟩
      | _ => rw [hg] at q2; exact q2.elim
  obtain ⟨k, hk⟩ := hg
  rw [hk] at q2
  refine ⟨F2, P, Lk, L, dx, dy, .bl k, S2, R1.mono x2, R2, hk, fun w F3 H3 x3 S3 => ?_⟩
  cases S3.rep
  have E3 : EnvX C [] F3 P Lk G r2 σ H3 := ⟨L, e2, S3.tail⟩
  refine ⟨k, rfl, ?_⟩
  cases k with
  | false =>
    rw [if_neg Bool.false_ne_true]
    exact q2 _ F3 H3 ((x1.trans x2).trans x3) (E3.zcons (.bl false))
  | true =>
    rw [if_pos rfl]
    refine ⟨F3, P, Lk, r2, E3, (RD.bind ((show RD C W F1 P Lk σ ((fc r2).bind fun z r3 => match g' dy z with
      | some (.bl true) => (fd r3).bind fun u r4 => opt (g'' z u) r4
      | some (.bl false) => .ok (.bl false) r3
      | _ => .stk) _ from q2).ext (x2.trans x3) (Ext.refl P))).mono fun dz r3 q4 z F4 H4 x4 E4 => ?_⟩
    obtain ⟨R4, L4, e4, S4⟩ := E4.rep
    have S4 : Stt C F4 P Lk L4 H4 := S4
    have hg : ∃ k, g' dy dz = some (.bl k) := by
      cases hg : g' dy dz with
      | none => rw [hg] at q4; exact q4.elim
      | some dz => cases dz with
        | bl k => exact ⟨k, rfl⟩
        | _ => rw [hg] at q4; exact q4.elim
    obtain ⟨k', hk'⟩ := hg
    rw [hk'] at q4
    refine ⟨F4, P, Lk, L4, dy, dz, .bl k', S4, (R2.mono x3).mono x4, R4, hk', fun w5 F5 H5 x5 S5 => ?_⟩
    cases S5.rep
    have E5 : EnvX C [] F5 P Lk G r3 σ H5 := ⟨L4, e4, S5.tail⟩
    refine ⟨k', rfl, ?_⟩
    have xx := (x1.trans x2).trans (x3.trans (x4.trans x5))
    cases k' with
    | false =>
      rw [if_neg Bool.false_ne_true]
      exact q4 _ F5 H5 xx (E5.zcons (.bl false))
    | true =>
      rw [if_pos rfl]
      refine ⟨F5, P, Lk, r3, E5, (RD.bind ((show RD C W F3 P Lk σ ((fd r3).bind fun u r4 => opt (g'' dz u) r4) _ from q4).ext (x4.trans x5) (Ext.refl P))).mono fun du r4 q6 z6 F6 H6 x6 E6 => ?_⟩
      obtain ⟨d7, e7, q7⟩ := RD_opt q6
      obtain ⟨R6, L6, e6, S6⟩ := E6.rep
      exact ⟨F6, P, Lk, L6, dz, du, d7, S6, (R4.mono x5).mono x6, R6, e7, fun w' F8 H8 x8 S8 => q7 w' F8 H8 (xx.trans (x6.trans x8)) ⟨L6, e6, S8⟩⟩
end

/-! ### kinds -/
def tyD : D → Option String
  | .non => some "NoneType"
  | .bl _ => some "bool"
  | .int _ => some "int"
  | .str _ => some "str"
  | .lst _ => some "list"
  | .tup _ => some "tuple"
  | .ktup _ => some "tuple"
  | _ => none
theorem tyD_X {F P H : Hp} {Lk : Lock} {L : List Cell} {v : V} {d : D} {t : String} (S : Stt C F P Lk L H) (R : Rep C F v d) (h : tyD d = some t) : TyX C.K H v (.type t) := by
  cases R with
  | non => cases h; exact .base .non
  | bl b => cases h; exact .base (.bl b)
  | int i => cases h; exact .base (.int i)
  | str x => cases h; exact .base (.str x)
  | lst hh r =>
    cases h
    rcases S.rdL hh with q | ⟨o, q⟩
    · exact .base (.lst q)
    · exact .base (.frz q)
  | tup hh r => cases h; exact .base (.tup (S.tup hh))
  | ktup hh r =>
    cases h
    rcases sqT_k (H := H) hh with (q | ⟨o, q⟩) | ⟨o, _, _, hk, hc, _⟩
    · exact .base (.tup q)
    · exact .fTuple q
    · exact .kTuple hk hc
  | _ => cases h
def isiD (t : String) (d : D) : Option D := (tyD d).bind fun a => (kitB a t).map .bl
def isiTD (ts : List String) (d : D) : Option D := (tyD d).bind fun a => if (ts.map (kitB a)).all (·.isSome) = true then some (.bl (ts.any fun t => kitB a t == some true)) else none
def eIsi (t : String) (f : SE) : SE := e1 (isiD t) f
def eIsiT (ts : List String) (f : SE) : SE := e1 (isiTD ts) f
theorem kitAnyB {K : PySem.W.Frag} {a : String} : ∀ {ts : List String}, (ts.map (kitB a)).all (·.isSome) = true → PySem.W.kitAny K (.type a) (ts.map Value.type) = some (ts.any fun t => kitB a t == some true)
  | [], _ => rfl
  | t :: ts, h => by
    simp only [List.map_cons, List.all_cons, Bool.and_eq_true] at h
    obtain ⟨b, hb⟩ := Option.isSome_iff_exists.mp h.1
    refine kitAny_cons (b := b) (kit_ty hb) (fun e => ?_) (fun e => ?_)
    · subst e
      rw [kitAnyB h.2]
      simp [hb]
    · subst e
      simp [hb]
section
variable {X : Cx} {W : WX} {G : List O} {e e1 e2 : Expr} {es : List Expr} {f : SE} {pos p p1 : Pos}
/-- isinstance(x, T) -/
theorem de_isi {t : String} {x : Str} (hK : X.K = C.K) (hg : Gl X "isinstance") (hm : X.mg "isinstance" = none) (hv : bootBuiltins "isinstance" = some (.builtin "isinstance")) (hgt : Gl X x) (hmt : X.mg x = none) (hvt : bootBuiltins x = some (.type t)) (ha : PE X e (tD C W G f .z))
    (hnt : x ≠ "__name__" := by decide) (hdt : (x == ("__debug__" : Str)) = false := by decide)
    (hs1 : starEach [.Name x p1] X.env = (false, eval (.Name x p1) X.env) :: starEach [] X.env := by rfl)
    (he : starEach [e, .Name x p1] X.env = (false, eval e X.env) :: starEach [.Name x p1] X.env := by rfl) (hpl : (backTo pos (starEach [.Name x p1] X.env)).any (·.1) = false := by rfl) :
    PE X (.Call (.Name "isinstance" p) [e, .Name x p1] [] pos) (tD C W G (eIsi t f) .z) := by
  refine PE_weak (pe_callB call_isi hg hm hv (pa_cons ha (pa_cons (pe_bltn (v := .ty t) hgt hmt hvt rfl hnt hdt) pa_nil hs1) he) (by decide) (by decide) he hpl) fun σ H Q q => ?_
  obtain ⟨F, P, Lk, r, E, q⟩ := q
  refine ⟨F, P, Lk, r, E, (RD.bind q).mono fun d r1 q1 v F1 H1 x1 E1 => ?_⟩
  obtain ⟨R1, L, e0, S⟩ := E1.rep
  obtain ⟨dz, e3, q3⟩ := RD_opt q1
  unfold isiD at e3
  cases ht : tyD d with
  | none => rw [ht] at e3; cases e3
  | some ty =>
    rw [ht] at e3
    have e3 : (kitB ty t).map D.bl = some dz := e3
    cases hb : kitB ty t with
    | none => rw [hb] at e3; cases e3
    | some b =>
      rw [hb] at e3
      cases e3
      exact ⟨v, .ty t, .type ty, .type t, b, rfl, .ty t, hK ▸ tyD_X S R1 ht, kit_ty hb, q3 _ F1 H1 x1 ⟨L, e0, S.zcons (.bl b)⟩⟩
/-- the types' names -/
structure TyN (X : Cx) (e : Expr) (t : String) : Prop where
  pe : PE X e (tC (.ty t))
theorem tyN {x : Str} {t : String} (hgt : Gl X x) (hmt : X.mg x = none) (hvt : bootBuiltins x = some (.type t)) (hnt : x ≠ "__name__" := by decide) (hdt : (x == ("__debug__" : Str)) = false := by decide) : TyN X (.Name x p1) t := ⟨pe_bltn hgt hmt hvt rfl hnt hdt⟩
theorem de_isi2 {t t' : String} {k : Nat} {tp : Pos} (hK : X.K = C.K) (hg : Gl X "isinstance") (hm : X.mg "isinstance" = none) (hv : bootBuiltins "isinstance" = some (.builtin "isinstance")) (h1 : TyN X e1 t) (h2 : TyN X e2 t') (ha : PE X e (tD C W G f .z))
    (hs2 : starEach [e2] X.env = (false, eval e2 X.env) :: starEach [] X.env := by rfl) (hs1 : starEach [e1, e2] X.env = (false, eval e1 X.env) :: starEach [e2] X.env := by rfl)
    (hs : starEach [.Tuple [e1, e2] k tp] X.env = (false, eval (.Tuple [e1, e2] k tp) X.env) :: starEach [] X.env := by rfl)
    (he : starEach [e, .Tuple [e1, e2] k tp] X.env = (false, eval e X.env) :: starEach [.Tuple [e1, e2] k tp] X.env := by rfl) (hpl : (backTo pos (starEach [.Tuple [e1, e2] k tp] X.env)).any (·.1) = false := by rfl) :
    PE X (.Call (.Name "isinstance" p) [e, .Tuple [e1, e2] k tp] [] pos) (tD C W G (eIsiT [t, t'] f) .z) := by
  refine PE_weak (pe_callB call_isiT hg hm hv (pa_cons ha (pa_cons (pe_tup (pa_cons h1.pe (pa_cons h2.pe pa_nil hs2) hs1)) pa_nil hs) he) (by decide) (by decide) he hpl) fun σ H Q q => ?_
  obtain ⟨F, P, Lk, r, E, q⟩ := q
  refine ⟨F, P, Lk, r, E, (RD.bind q).mono fun d r1 q1 v F1 H1 x1 E1 => ?_⟩
  obtain ⟨R1, L, e0, S⟩ := E1.rep
  obtain ⟨dz, e3, q3⟩ := RD_opt q1
  unfold isiTD at e3
  cases ht : tyD d with
  | none => rw [ht] at e3; cases e3
  | some ty =>
    rw [ht] at e3
    have e3 : (if ([t, t'].map (kitB ty)).all (·.isSome) = true then some (D.bl ([t, t'].any fun t => kitB ty t == some true)) else none) = some dz := e3
    split at e3
    · rename_i hh
      cases e3
      refine ⟨by show 2 ≤ sizeLine; decide, fun l hl => ?_⟩
      have S2 := S.grow (Ext.new (o := .tup [.ty t, .ty t']) hl)
      exact ⟨v, l, [.ty t, .ty t'], .type ty, [.type t, .type t'], _, rfl, upd_same, .cons (.ty t) (.cons (.ty t') .nil), hK ▸ tyD_X S2 R1 ht, kitAnyB (ts := [t, t']) hh, q3 _ F1 _ x1 ⟨L, e0, S2.zcons (.bl _)⟩⟩
    · cases e3
/-- a module's constant -/
theorem de_glob {x : Str} {v : V} {u : Value} {d : D} (hg : Gl X x) (hm : X.mg x = some u) (r : RelV v u) (hr : ∀ F, Rep C F v d) (hd : (x == ("__debug__" : Str)) = false := by decide) : PE X (.Name x pos) (tD C W G (eC d) .z) :=
  de_c (pe_glob hg hm r hd) hr
end
end DL
set_option Elab.async false
set_option linter.all false
set_option autoImplicit false
set_option maxRecDepth 100000
set_option maxHeartbeats 1000000
/-! the data layer, part 11: instances of own classes -/
namespace DL
open PySem PySem.Spec PyProof.Rows L2
variable {C : Cfg}

/-! ### a promise at frozen values -/
def mirOk (mir : List D → Out) (ds : List D) (r : DL.Env) : Res D := match mir ds with
  | .ok d _ => .ok d r
  | .exc c fs => .exc c fs
  | .stk => .stk
theorem zEnv {F : Hp} : ∀ {ds : List D} {vs : List V}, RepL C F vs ds → ∀ {P H : Hp} {Lk : Lock} {L : List Cell}, Stt C F P Lk L H → ∃ L', EnvR (ds.map fun _ => O.z) (ds.map some) (vs.map some) L' ∧ Stt C F P Lk (L' ++ L) H
  | [], vs, r, _, _, _, L, S => by cases r; exact ⟨[], .nil, S⟩
  | d :: ds, vs, r, _, _, _, L, S => by
    cases r with
    | cons a b =>
      obtain ⟨L', e, s⟩ := zEnv b S
      exact ⟨_, .have e, s.zcons a⟩
theorem spZ {S : Sig} {mir : List D → Out} {W : WX} {E : XK} {G : List O} {F P H : Hp} {Lk : Lock} {r : DL.Env} {σ : L2.St} {vs : List V} {ds : List D} {Q : VK} (hW : ∀ c d σ H, W c d σ H → E c d H) (E0 : EnvX C [] F P Lk G r σ H) (R : RepL C F vs ds) (hz : S.Gi = ds.map fun _ => O.z)
    (q : RD C W F P Lk σ (mirOk mir ds r) fun d r' => ∀ v F' H', Ext F F' → EnvX C [(S.o, v, d)] F' P Lk G r' σ H' → Q v H') : spD C S mir vs H Q E := by
  obtain ⟨Le, e0, s0⟩ := E0
  have s0 : Stt C F P Lk (Le ++ []) H := by rw [List.append_nil]; exact s0
  obtain ⟨P', s1, eP, unp⟩ := s0.park
  obtain ⟨L', e1, s2⟩ := zEnv R s1
  refine ⟨by rw [hz, List.length_map, R.length], F, P', Lk, ds, L', by rw [hz]; exact e1, by simpa using s2, ?_⟩
  unfold mirOk at q
  cases hm : mir ds with
  | stk => rw [hm] at q; exact q.elim
  | exc c fs =>
    rw [hm] at q
    exact fun cls dct F' H' x' s' xo => hW _ _ σ _ (q cls dct F' H' x' (s'.subP eP) xo)
  | ok d ds' =>
    rw [hm] at q
    rintro v F' H' x' ⟨L2, e2, s3⟩
    refine q v F' H' x' ⟨Le, e0, ?_⟩
    have s4 : Stt C F' P' Lk ([(S.o, v, d)] ++ L2) H' := s3
    have s5 := unp F' H' Lk _ x' s4
    have s6 : Stt C F' P Lk (L2 ++ ([(S.o, v, d)] ++ Le)) H' := s5.perm (by
      have p1 : (Le ++ ([(S.o, v, d)] ++ L2)).Perm (([(S.o, v, d)] ++ L2) ++ Le) := List.perm_append_comm
      have p2 : ([(S.o, v, d)] ++ L2).Perm (L2 ++ [(S.o, v, d)]) := List.perm_append_comm
      have p3 := p1.trans (p2.append_right Le)
      rwa [List.append_assoc] at p3)
    exact s6.drop

/-! ### owned instances -/
theorem SttH.closeI {F P H : Hp} {Lk : Lock} {a Ca dx : Addr} {L : List Cell} {c : Str} {fs : List (Str × V)} {ds : List D} (h : SttH C F P Lk [a] L H) (hc : C.cl c = some Ca) (r : RepL C F (fs.map (·.2)) ds) : Stt C F P Lk ((.i, .ref a, .ins c ((fs.map (·.1)).zip ds)) :: L) (upd H a (.ins Ca dx fs)) := by
  have h := h.upd_ok (q := .ins Ca dx fs)
  obtain ⟨fp, ow, n, d⟩ := h.ow
  exact ⟨h.le, h.pe, h.dj, h.ld, [a] ++ fp, ⟨[a], fp, rfl, ⟨a, c, Ca, dx, fs, ds, rfl, rfl, upd_same, hc, rfl, r⟩, ow⟩, n, d⟩
theorem Stt.openI {F P H : Hp} {Lk : Lock} {v : V} {d : D} {L : List Cell} (h : Stt C F P Lk ((.i, v, d) :: L) H) : ∃ a c Ca dx fs ds, v = .ref a ∧ H a = some (.ins Ca dx fs) ∧ C.cl c = some Ca ∧ d = .ins c ((fs.map (·.1)).zip ds) ∧ RepL C F (fs.map (·.2)) ds ∧ SttH C F P Lk [a] L H := by
  obtain ⟨fp, ⟨f1, f2, rfl, p, r⟩, n, dd⟩ := h.ow
  obtain ⟨a, c, Ca, dx, fs, ds, rfl, rfl, h1, h2, h3, h4⟩ := p
  exact ⟨a, c, Ca, dx, fs, ds, rfl, h1, h2, h3, h4, h.le, h.pe, h.dj, h.ld, f2, r, n, dd⟩
def lkF (f : Str) : List (Str × D) → Option D
  | [] => none
  | p :: fs => if f == p.1 then some p.2 else lkF f fs
def putFD (f : Str) (d : D) : List (Str × D) → List (Str × D)
  | [] => [(f, d)]
  | p :: fs => if p.1 = f then (p.1, d) :: fs else p :: putFD f d fs
theorem lkF_rel {F : Hp} {f : Str} : ∀ {fs : List (Str × V)} {ds : List D}, RepL C F (fs.map (·.2)) ds → (∀ d, lkF f ((fs.map (·.1)).zip ds) = some d → ∃ v, fs.lookup f = some v ∧ Rep C F v d) ∧ (lkF f ((fs.map (·.1)).zip ds) = none → fs.lookup f = none)
  | [], ds, r => by cases r; exact ⟨fun d h => by simp [lkF] at h, fun _ => rfl⟩
  | p :: fs, _, .cons a r => by
    have ih := lkF_rel (f := f) r
    obtain ⟨n, v⟩ := p
    simp only [List.map_cons, List.zip_cons_cons, lkF, List.lookup_cons]
    cases hb : f == n with
    | true => exact ⟨fun d h => by cases h; exact ⟨_, rfl, a⟩, fun h => by cases h⟩
    | false => exact ih
theorem putF_rel {F : Hp} {f : Str} {v : V} {d : D} (rv : Rep C F v d) : ∀ {fs : List (Str × V)} {ds : List D}, RepL C F (fs.map (·.2)) ds → ∃ ds', RepL C F ((putF f v fs).map (·.2)) ds' ∧ ((putF f v fs).map (·.1)).zip ds' = putFD f d ((fs.map (·.1)).zip ds) := by
  intro fs
  induction fs with
  | nil => intro ds r; cases r; exact ⟨[d], .cons rv .nil, rfl⟩
  | cons p fs ih =>
    intro ds r
    cases r with
    | @cons _ e _ ds a b =>
      obtain ⟨ds', r', e'⟩ := ih b
      obtain ⟨n, w⟩ := p
      simp only [putF, putFD, List.map_cons, List.zip_cons_cons]
      by_cases hb : n = f
      · rw [if_pos hb, if_pos hb]; exact ⟨d :: ds, .cons rv b, rfl⟩
      · rw [if_neg hb, if_neg hb]; exact ⟨e :: ds', .cons a r', by simp only [List.map_cons, List.zip_cons_cons, e']⟩

section
variable {X : Cx} {W : WX} {R : Rt} {G : List O} {a b e o : Expr} {es : List Expr} {pos pos' : Pos} {cn : Str} {Ca : Addr}
/-! ### attributes -/
def fldD (cn f : Str) : D → Option D
  | .ins c fs => if c = cn then lkF f fs else none
  | _ => none
theorem de_fld {f : Str} {fe : SE} (hK : X.K = C.K) (hcl : C.cl cn = some Ca) (hc : Cls X.K Ca) (hn : NoAttr X.K Ca f) (he : PE X e (tD C W G fe .z)) (hb : attributeBase e f X.env (eval e X.env) = eval e X.env := by rfl) : PE X (.Attribute e f pos) (tD C W G (e1 (fldD cn f) fe) .z) := by
  refine PE_weak (pe_fld he hb) fun σ H Q q => ?_
  obtain ⟨F, P, Lk, r, E, q⟩ := q
  refine ⟨F, P, Lk, r, E, (RD.bind q).mono fun d r1 q1 v F1 H1 x1 E1 => ?_⟩
  obtain ⟨R1, L, e0, S⟩ := E1.rep
  obtain ⟨dz, e3, q3⟩ := RD_opt q1
  cases R1 with
  | @ins a c Ca' dx fs ds h hcl' rr =>
    simp only [fldD] at e3
    split at e3
    · rename_i hcn
      subst hcn
      rw [hcl] at hcl'
      cases hcl'
      obtain ⟨w, hw, Rw⟩ := (lkF_rel rr).1 _ e3
      exact ⟨a, Ca, dx, fs, w, rfl, S.plain h (fun _ z => nomatch z) (fun _ z => nomatch z), hc, hn, hw, q3 _ F1 H1 x1 ⟨L, e0, S.zcons Rw⟩⟩
    · cases e3
  | _ => cases e3
/-- a constant of the class -/
def conD (cn f : Str) (d : D) : D → Option D
  | .ins c fs => if c = cn then (match lkF f fs with | none => some d | some _ => none) else none
  | _ => none
/-- self.f = e in an owned instance -/
def sFldI (i : Nat) (f : Str) (fe : SE) : SS := fun r => (fe r).fl fun d r1 => match r1[i]? with
  | some (some (.ins c fs)) => if fs.length < 1000 then .nx (r1.set i (some (.ins c (putFD f d fs)))) else .stk
  | _ => .stk
theorem d_fld {i : Nat} {x f : Str} {p : Pos} {fe : SE} (hK : X.K = C.K) (hcl : ∀ c Ca, C.cl c = some Ca → Cls X.K Ca ∧ NoAttr X.K Ca f) (hG : G[i]? = some .i) (hN : X.N[i]? = some x) (hv : Vis X.env.scope x) (he : PE X e (tD C W G fe .z)) (hd : (x == ("__debug__" : Str)) = false := by decide) (hcd : (x == ("__classdict__" : Str)) = false := by decide)
    (hs : swapsWith e (some (.Attribute (.Name x p) f pos')) pos.line X.env = pure false := by rfl) : PS X (.Assign [.Attribute (.Name x p) f pos'] e pos) (tDS C W R G (sFldI i f fe) G) := by
  refine PS_weak (ps_fld (pe_var hN hv hd hcd) he hs) fun D σ H q => ?_
  obtain ⟨F, P, Lk, r, E, q⟩ := q
  refine ⟨F, P, Lk, r, E, (RF.fl q).mono fun d r1 q1 v F1 H1 x1 E1 => ?_⟩
  obtain ⟨R1, E1⟩ := E1.rep
  split at q1
  · rename_i c fs hi
    split at q1
    · rename_i hl
      obtain ⟨w, hw, E2⟩ := E1.take hi hG
      obtain ⟨L, e0, S0⟩ := E2
      obtain ⟨a, c', Ca, dx, fs', ds', rfl, h1, h2, h3, h4, S1⟩ := Stt.openI (L := [] ++ L) S0
      cases h3
      obtain ⟨hc1, hc2⟩ := hcl _ _ h2
      have hlen : fs'.length < 1000 := by
        have z := h4.length
        rw [List.length_map] at z
        simp at hl
        omega
      obtain ⟨ds2, r2, e2⟩ := putF_rel (f := f) R1 h4
      refine ⟨_, hw, a, Ca, dx, fs', rfl, h1, hc1, hc2, hlen, q1 σ F1 _ x1 Keep.refl ?_⟩
      have S2 := S1.closeI (dx := dx) h2 r2
      rw [e2] at S2
      have z := EnvX.back (T := []) (r := r1.set i none) (o := .i) ⟨L, e0, S2⟩ (by rw [List.getElem?_set_self (List.getElem?_eq_some_iff.mp hi).1]) hG hw
      rw [List.set_set] at z
      exact z
    · exact q1.elim
  · exact q1.elim
/-! ### calls of methods; making -/
def mirN (n : Nat) (mir : List D → Out) (ds : List D) (r : DL.Env) : Res D := if ds.length = n then mirOk mir ds r else .stk
theorem spN {S : Sig} {mir : List D → Out} {E : XK} {F P H : Hp} {Lk : Lock} {r : DL.Env} {σ : L2.St} {vs : List V} {ds : List D} {Q : VK} {n : Nat} (hW : W = fun c d _ H => E c d H) (E0 : EnvX C [] F P Lk G r σ H) (R : RepL C F vs ds) (hz : S.Gi = List.replicate n O.z)
    (q : RD C W F P Lk σ (mirN n mir ds r) fun d r' => ∀ v F' H', Ext F F' → EnvX C [(S.o, v, d)] F' P Lk G r' σ H' → Q v H') : spD C S mir vs H Q E := by
  unfold mirN at q
  split at q
  · rename_i hl
    exact spZ (fun c d σ H h => by rw [hW] at h; exact h) E0 R (by rw [hz, ← hl]; exact (List.map_const' ..).symm) q
  · exact q.elim
def eMethI (cn m : Str) (n : Nat) (mir : List D → Out) (fo : SE) (k : SA) : SE := fun r => (fo r).bind fun d r1 => match d with
  | .ins c fs => if c = cn then (match lkF m fs with
      | none => (k r1).bind fun ds r2 => mirN n mir (d :: ds) r2
      | some _ => .stk) else .stk
  | _ => .stk
theorem methI_hyp {m : Str} {n : Nat} {S : Sig} {mir : List D → Out} {fo : SE} {k : SA} {E : XK} {t : TA} (hcl : C.cl cn = some Ca) (hW : W = fun c d _ H => E c d H) (hz : S.Gi = List.replicate n O.z) (ka : ∀ σ H Q, tDA C W G k σ H Q → t σ H Q) {σ : L2.St} {H : Hp} {Q : VK}
    (q : tD C W G (eMethI cn m n mir fo k) S.o σ H Q) : tMeth Ca m (spD C S mir) [] E (tD C W G fo .z) t σ H Q := by
  obtain ⟨F, P, Lk, r, En, q⟩ := q
  refine ⟨F, P, Lk, r, En, (RD.bind q).mono fun d r1 q1 v F1 H1 x1 E0 => ?_⟩
  obtain ⟨R1, E1⟩ := E0.rep
  clear E0
  obtain ⟨L, e0, S0⟩ := id E1
  cases R1 with
  | @ins a c Ca' dx fs ds h hcl' rr =>
    dsimp only at q1
    split at q1
    · rename_i hcn
      subst hcn
      rw [hcl] at hcl'
      cases hcl'
      split at q1
      · rename_i hl
        refine ⟨a, dx, fs, rfl, S0.plain h (fun _ z => nomatch z) (fun _ z => nomatch z), (lkF_rel rr).2 hl, ka _ _ _ ⟨F1, P, Lk, r1, E1, (RD.bind (q1.ext x1 (Ext.refl P))).mono fun as r2 q2 vs F2 H2 x2 R2 E2 => ?_⟩⟩
        show spD C S mir (V.ref a :: (vs ++ [])) H2 Q E
        rw [List.append_nil]
        exact spN hW E2 (.cons (Rep.mono x2 (.ins h hcl rr)) R2) hz ((q2.ext x2 (Ext.refl P)).mono fun d r' q3 v F' H' x' E' => q3 v F' H' ((x1.trans x2).trans x') E')
      · exact q1.elim
    · exact q1.elim
  | _ => exact q1.elim
section
variable {n k kk : Nat} {S : Sig} {mir : List D → Out} {fo : SE} {ks : SA} {E : XK} {f : Addr} {fd : FuncData} {ps : List Str} {m x : Str} {apos p : Pos}
theorem de_methI {pl : Sem Bool} (hcl : C.cl cn = some Ca) (hW : W = fun c d _ H => E c d H) (tk : Takes X W) (hz : S.Gi = List.replicate n O.z) (ho : PE X o (tD C W G fo .z)) (c : Cls X.K Ca) (hm : Meth X.K Ca m f) (Fn : FnOk X.prog X.w X.K X.mg X.base (L2.CX X.prog X.w) k f fd ps (spD C S mir)) (hr : Room kk X.A) (hj : k ≤ kk) (hb : Binds X.K fd ps []) (ha : PA X (e :: es) (tDA C W G ks))
    (hst : starEach (e :: es) X.env = (false, eval e X.env) :: starEach es X.env := by rfl) (hpl : (backTo pos (starEach es X.env)).any (·.1) = false := by rfl)
    (ht : eval (.Call (.Attribute o m apos) (e :: es) [] pos) X.env = (do
      let ov ← eval o X.env
      standAt apos.atName
      let (f, first) ← holding [ov] (getMethod ov m pl)
      callWith pos f first (backTo pos (starEach (e :: es) X.env)) (backToKw pos (keywordEach [] X.env))) := by rfl) :
    PE X (.Call (.Attribute o m apos) (e :: es) [] pos) (tD C W G (eMethI cn m n mir fo ks) S.o) := by
  have hx := passes_call (X := X) (E := E) (W := W) tk fun c d σ H h => by rw [hW]; exact h
  exact PE_weak (pe_meth (pl := pl) ho c hm Fn (hr.mono hj) hb .nil hx ha hst hpl ht) fun σ H Q q => methI_hyp hcl hW hz (fun _ _ _ h => h) q
theorem de_methI0 {pl : Sem Bool} (hcl : C.cl cn = some Ca) (hW : W = fun c d _ H => E c d H) (tk : Takes X W) (hz : S.Gi = List.replicate n O.z) (ho : PE X o (tD C W G fo .z)) (c : Cls X.K Ca) (hm : Meth X.K Ca m f) (Fn : FnOk X.prog X.w X.K X.mg X.base (L2.CX X.prog X.w) k f fd ps (spD C S mir)) (hr : Room kk X.A) (hj : k ≤ kk) (hb : Binds X.K fd ps [])
    (ht : eval (.Call (.Attribute o m apos) [] [] pos) X.env = (do
      let ov ← eval o X.env
      standAt apos.atName
      let (f, first) ← holding [ov] (getMethod ov m pl)
      callWith pos f first (backTo pos (starEach [] X.env)) (backToKw pos (keywordEach [] X.env))) := by rfl) :
    PE X (.Call (.Attribute o m apos) [] [] pos) (tD C W G (eMethI cn m n mir fo aNil) S.o) := by
  have hx := passes_call (X := X) (E := E) (W := W) tk fun c d σ H h => by rw [hW]; exact h
  refine PE_weak (pe_meth0 (pl := pl) ho c hm Fn (hr.mono hj) hb .nil hx ht) fun σ H Q q => methI_hyp hcl hW hz (fun σ H Q h => ?_) q
  obtain ⟨F, P, Lk, r, E0, h⟩ := h
  exact h [] F H (Ext.refl F) .nil E0
/-- C(..) -/
def eMake (cn : Str) (n : Nat) (mir : List D → Out) (k : SA) : SE := fun r => (k r).bind fun ds r1 => if ds.length = n then (match mir (.ins cn [] :: ds) with
  | .ok .non (some d :: _) => .ok d r1
  | .exc c fs => .exc c fs
  | _ => .stk) else .stk
theorem make_hyp {mm : List Bool} {t : TA} (hcl : C.cl cn = some Ca) (hW : W = fun c d _ H => E c d H) (ka : ∀ σ H Q, tDA C W G ks σ H Q → t σ H Q) {σ : L2.St} {H : Hp} {Q : VK} (q : tD C W G (eMake cn n mir ks) .i σ H Q) : tMake Ca (spD C ⟨.i :: List.replicate n .z, mm, .z⟩ mir) [] E t σ H Q := by
  obtain ⟨F, P, Lk, r, En, q⟩ := q
  refine ka _ _ _ ⟨F, P, Lk, r, En, (RD.bind q).mono fun ds r1 q1 vs F1 H1 x1 R1 E1 y dx hy hdx hne => ?_⟩
  show spD C ⟨.i :: List.replicate n .z, mm, .z⟩ mir (V.ref y :: (vs ++ [])) _ _ _
  rw [List.append_nil]
  split at q1
  · rename_i hlen
    obtain ⟨Le, e0, s0⟩ := E1
    have s0 : Stt C F1 P Lk (Le ++ []) H1 := by rw [List.append_nil]; exact s0
    obtain ⟨P', s1, eP, unp⟩ := s0.park
    have hnd : (upd H1 dx (.own y)) y = none := by rw [upd_ne (Ne.symm hne)]; exact hy
    obtain ⟨L', e1, s2⟩ := zEnv R1 (s1.grow (Ext.new (o := .own y) hdx))
    have s2 : Stt C F1 P' Lk (L' ++ []) (upd H1 dx (.own y)) := s2
    have s3 := (s2.hole hnd).closeI (dx := dx) (fs := []) (ds := []) hcl .nil
    rw [List.append_nil] at s3
    refine ⟨by simp [R1.length, hlen], F1, P', Lk, .ins cn [] :: ds, (.i, .ref y, .ins cn []) :: L', ?_, s3, ?_⟩
    · have ez : List.replicate n O.z = ds.map fun _ => O.z := by rw [← hlen]; exact (List.map_const' ..).symm
      show EnvR (.i :: List.replicate n .z) _ _ _
      rw [ez]
      exact .have e1
    · split at q1
      · rename_i d rest hm
        rw [hm]
        rintro v F' H' x' ⟨L2, e2, s4⟩
        cases e2 with
        | @«have» _ _ _ _ _ _ L3 e2 =>
          cases s4.rep
          refine ⟨rfl, q1 _ F' H' (x1.trans x') ⟨Le, e0, ?_⟩⟩
          have s5 := unp F' H' Lk _ x' s4.tail
          have s6 : Stt C F' P Lk (L3 ++ ([(O.i, V.ref y, d)] ++ Le)) H' := s5.perm (by
            have p1 : (Le ++ ([(O.i, V.ref y, d)] ++ L3)).Perm (([(O.i, V.ref y, d)] ++ L3) ++ Le) := List.perm_append_comm
            have p2 : ([(O.i, V.ref y, d)] ++ L3).Perm (L3 ++ [(O.i, V.ref y, d)]) := List.perm_append_comm
            have p3 := p1.trans (p2.append_right Le)
            rwa [List.append_assoc] at p3)
          exact s6.drop
      · rename_i c fs hm
        rw [hm]
        intro cls dct F' H' x' s' xo
        have z := q1 cls dct F' H' (x1.trans x') (s'.subP eP) xo
        rw [hW] at z
        exact z
      · exact q1.elim
  · exact q1.elim
theorem de_make {mm : List Bool} (hcl : C.cl cn = some Ca) (hW : W = fun c d _ H => E c d H) (tk : Takes X W) (M : Mk X.K Ca f) (Fn : FnOk X.prog X.w X.K X.mg X.base (L2.CX X.prog X.w) k f fd ps (spD C ⟨.i :: List.replicate n .z, mm, .z⟩ mir)) (hr : Room kk X.A) (hj : k + 1 ≤ kk) (hg : Gl X x) (hm : X.mg x = some (.ref Ca)) (hb : Binds X.K fd ps [])
    (ha : PA X (e :: es) (tDA C W G ks)) (hdb : (x == ("__debug__" : Str)) = false := by decide) (he : starEach (e :: es) X.env = (false, eval e X.env) :: starEach es X.env := by rfl) (hpl : (backTo pos (starEach es X.env)).any (·.1) = false := by rfl) :
    PE X (.Call (.Name x p) (e :: es) [] pos) (tD C W G (eMake cn n mir ks) .i) := by
  have hx := passes_call (X := X) (E := E) (W := W) tk fun c d σ H h => by rw [hW]; exact h
  exact PE_weak (pe_make M Fn (hr.mono hj) hg hm hb .nil hx ha hdb he hpl) fun σ H Q q => make_hyp hcl hW (fun _ _ _ h => h) q
end
end
end DL
set_option Elab.async false
set_option linter.all false
set_option autoImplicit false
set_option maxRecDepth 100000
set_option maxHeartbeats 1000000
/-! the data layer, part 12: operators of own classes; properties; kinds of instances -/
namespace DL
open PySem PySem.Spec PyProof.Rows L2
variable {C : Cfg}
/-- a method that stands for an operator -/
structure Dun (K : PySem.W.Frag) (Ca : Addr) (n : Str) (f : Addr) : Prop where
  at_ : PySem.W.findIn K (.ref Ca) n = some (some (.ref f))
  fn : PySem.W.isFn K (.ref f) = true
section
variable {X : Cx} {W : WX} {R : Rt} {G : List O} {a b e o : Expr} {es : List Expr} {pos pos' p : Pos} {cn : Str} {Ca : Addr}
variable {n k kk : Nat} {S : Sig} {mir : List D → Out} {fo fa fb : SE} {ks : SA} {E : XK} {f : Addr} {fd : FuncData} {ps : List Str} {sp : Sp}
/-- x in c, c an instance -/
theorem op_inI {CX : CXT} (Fn : FnOk X.prog X.w X.K X.mg X.base CX k f fd ps sp) (hr : Room k X.A) (hb : Binds X.K fd ps []) (hx : Passes CX X E) (hd : Dun X.K Ca "__contains__" f) :
    OpR X (compareOp .In) (fun x y H Q => (∃ a dx fs, y = .ref a ∧ H a = some (.ins Ca dx fs)) ∧ sp [y, x] H (fun z H' => ∃ b, z = .bl b ∧ Q (.bl b) H') E) := by
  intro pins s σ H x y v u Q I rx ry ⟨⟨a, dx, fs, ey, ea⟩, h⟩
  subst ey
  cases ry
  obtain ⟨mA, J, _⟩ := ins_get I.hok ea
  obtain ⟨od, J, _⟩ := J.look
  obtain ⟨m, hF⟩ := I.fr
  refine PySem.W.in_K hF I.ok.mod.kin J hd.at_ hd.fn ?_
  refine thn (run_fn (us := [.ref a, v]) (vs := [.ref a, x]) (dvs := []) Fn hr hb .nil hx I (.cons rfl (.cons rx .nil)) h) fun w s1 ⟨z, H1, I1, r1, b, e1, q1⟩ => ?_
  subst e1
  cases r1
  exact wpAny_truthy_bool ⟨.bl b, H1, I1, rfl, q1⟩
theorem op_ninI {CX : CXT} (Fn : FnOk X.prog X.w X.K X.mg X.base CX k f fd ps sp) (hr : Room k X.A) (hb : Binds X.K fd ps []) (hx : Passes CX X E) (hd : Dun X.K Ca "__contains__" f) :
    OpR X (compareOp .NotIn) (fun x y H Q => (∃ a dx fs, y = .ref a ∧ H a = some (.ins Ca dx fs)) ∧ sp [y, x] H (fun z H' => ∃ b, z = .bl b ∧ Q (.bl (!b)) H') E) := by
  intro pins s σ H x y v u Q I rx ry ⟨⟨a, dx, fs, ey, ea⟩, h⟩
  subst ey
  cases ry
  obtain ⟨mA, J, _⟩ := ins_get I.hok ea
  obtain ⟨od, J, _⟩ := J.look
  obtain ⟨m, hF⟩ := I.fr
  refine PySem.W.notIn_K hF I.ok.mod.kin J hd.at_ hd.fn ?_
  refine thn (run_fn (us := [.ref a, v]) (vs := [.ref a, x]) (dvs := []) Fn hr hb .nil hx I (.cons rfl (.cons rx .nil)) h) fun w s1 ⟨z, H1, I1, r1, b, e1, q1⟩ => ?_
  subst e1
  cases r1
  exact wpAny_truthy_bool ⟨.bl (!b), H1, I1, rfl, q1⟩
/-- an operator's method called on an instance d with another value -/
def callI (cn : Str) (mir : List D → Out) (d x : D) (r : DL.Env) : Res D := match d with
  | .ins c _ => if c = cn then mirOk mir [d, x] r else .stk
  | _ => .stk
def eInI (neg : Bool) (cn : Str) (mir : List D → Out) (fa fb : SE) : SE := fun r => (fa r).bind fun x r1 => (fb r1).bind fun y r2 => (callI cn mir y x r2).bind fun z r3 => match z with
  | .bl b => .ok (.bl (if neg = true then !b else b)) r3
  | _ => .stk
theorem insAt {F P H : Hp} {Lk : Lock} {L : List Cell} {v : V} {c : Str} {fs : List (Str × D)} (S : Stt C F P Lk L H) (R : Rep C F v (.ins c fs)) (hcl : C.cl c = some Ca) : ∃ a dx fs, v = .ref a ∧ H a = some (.ins Ca dx fs) := by
  cases R with
  | @ins a c' Ca' dx fs ds h hcl' rr =>
    rw [hcl] at hcl'
    cases hcl'
    exact ⟨a, dx, fs, rfl, S.plain h (fun _ z => nomatch z) (fun _ z => nomatch z)⟩
theorem inI_hyp {neg : Bool} (hcl : C.cl cn = some Ca) (hW : W = fun c d _ H => E c d H) (hz : S.Gi = [.z, .z]) (ho : S.o = .z) {σ : L2.St} {H : Hp} {Q : VK} (q : tD C W G (eInI neg cn mir fa fb) .z σ H Q) :
    tOp (fun x y H Q => (∃ a dx fs, y = V.ref a ∧ H a = some (.ins Ca dx fs)) ∧ spD C S mir [y, x] H (fun z H' => ∃ b, z = .bl b ∧ Q (.bl (if neg = true then !b else b)) H') E) (tD C W G fa .z) (tD C W G fb .z) σ H Q := by
  obtain ⟨F, P, Lk, r, En, q⟩ := q
  refine ⟨F, P, Lk, r, En, (RD.bind q).mono fun dx r1 q1 x F1 H1 x1 E0 => ?_⟩
  obtain ⟨R1, E1⟩ := E0.rep
  clear E0
  refine ⟨F1, P, Lk, r1, E1, (RD.bind (q1.ext x1 (Ext.refl P))).mono fun dy r2 q2 y F2 H2 x2 E0 => ?_⟩
  obtain ⟨R2, E2⟩ := E0.rep
  clear E0
  obtain ⟨L, e0, S0⟩ := id E2
  replace q2 := (RD.bind q2).ext x2 (Ext.refl P)
  cases dy with
  | ins c fs =>
    have ec : callI cn mir (D.ins c fs) dx r2 = if c = cn then mirOk mir [D.ins c fs, dx] r2 else .stk := rfl
    rw [ec] at q2
    split at q2
    · rename_i hcn
      subst hcn
      refine ⟨insAt S0 R2 hcl, spN (n := 2) hW E2 (.cons R2 (.cons (R1.mono x2) .nil)) hz ?_⟩
      refine RD.mono (x := mirN 2 mir [D.ins c fs, dx] r2) q2 fun d r3 q3 v F3 H3 x3 E3 => ?_
      rw [ho] at E3
      obtain ⟨R3, E3⟩ := E3.rep
      cases d with
      | bl b =>
        cases R3
        exact ⟨b, rfl, q3 _ F3 H3 ((x1.trans x2).trans x3) (E3.drop.zcons (.bl _))⟩
      | _ => exact q3.elim
    · exact q2.elim
  | _ => exact q2.elim
theorem de_inI (hcl : C.cl cn = some Ca) (hW : W = fun c d _ H => E c d H) (tk : Takes X W) (hz : S.Gi = [.z, .z]) (hoo : S.o = .z) (hd : Dun X.K Ca "__contains__" f) (Fn : FnOk X.prog X.w X.K X.mg X.base (L2.CX X.prog X.w) k f fd ps (spD C S mir)) (hr : Room kk X.A) (hj : k ≤ kk) (hb : Binds X.K fd ps [])
    (ha : PE X a (tD C W G fa .z)) (hbb : PE X b (tD C W G fb .z)) (hm : behindInMarks .In b = false) : PE X (.Compare a [.In] [b] pos) (tD C W G (eInI false cn mir fa fb) .z) := by
  have hx := passes_call (X := X) (E := E) (W := W) tk fun c d σ H h => by rw [hW]; exact h
  exact PE_weak (pe_cmpR (op_inI Fn (hr.mono hj) hb hx hd) ha hbb hm) fun σ H Q q => inI_hyp (neg := false) hcl hW hz hoo q
theorem de_ninI (hcl : C.cl cn = some Ca) (hW : W = fun c d _ H => E c d H) (tk : Takes X W) (hz : S.Gi = [.z, .z]) (hoo : S.o = .z) (hd : Dun X.K Ca "__contains__" f) (Fn : FnOk X.prog X.w X.K X.mg X.base (L2.CX X.prog X.w) k f fd ps (spD C S mir)) (hr : Room kk X.A) (hj : k ≤ kk) (hb : Binds X.K fd ps [])
    (ha : PE X a (tD C W G fa .z)) (hbb : PE X b (tD C W G fb .z)) (hm : behindInMarks .NotIn b = false) : PE X (.Compare a [.NotIn] [b] pos) (tD C W G (eInI true cn mir fa fb) .z) := by
  have hx := passes_call (X := X) (E := E) (W := W) tk fun c d σ H h => by rw [hW]; exact h
  exact PE_weak (pe_cmpR (op_ninI Fn (hr.mono hj) hb hx hd) ha hbb hm) fun σ H Q q => inI_hyp (neg := true) hcl hW hz hoo q
/-- the test forms -/
theorem bool_hyp {f : SE} {σ : L2.St} {H : Hp} {Q : Bool → Hp → Prop} (q : tDT C W G (boolT f) σ H Q) : tD C W G f .z σ H fun x H' => ∃ k, x = .bl k ∧ Q k H' := by
  obtain ⟨F, P, Lk, r, E, q⟩ := q
  refine ⟨F, P, Lk, r, E, (RD.bind q).mono fun d r1 q1 x F1 H1 x1 E0 => ?_⟩
  obtain ⟨k, e3, q3⟩ := RD_opt q1
  obtain ⟨R1, E1⟩ := E0.rep
  clear E0
  cases R1 with
  | bl b => cases e3; exact ⟨_, rfl, q3 F1 H1 x1 E1⟩
  | _ => cases e3
theorem dt_inI (hcl : C.cl cn = some Ca) (hW : W = fun c d _ H => E c d H) (tk : Takes X W) (hz : S.Gi = [.z, .z]) (hoo : S.o = .z) (hd : Dun X.K Ca "__contains__" f) (Fn : FnOk X.prog X.w X.K X.mg X.base (L2.CX X.prog X.w) k f fd ps (spD C S mir)) (hr : Room kk X.A) (hj : k ≤ kk) (hb : Binds X.K fd ps [])
    (ha : PE X a (tD C W G fa .z)) (hbb : PE X b (tD C W G fb .z)) (hm : behindInMarks .In b = false) : PT X (.Compare a [.In] [b] pos) (tDT C W G (boolT (eInI false cn mir fa fb))) := by
  have hx := passes_call (X := X) (E := E) (W := W) tk fun c d σ H h => by rw [hW]; exact h
  exact PT_weak (pt_cmpR (op_inI Fn (hr.mono hj) hb hx hd) ha hbb hm) fun σ H Q q => inI_hyp (neg := false) hcl hW hz hoo (bool_hyp q)
theorem dt_ninI (hcl : C.cl cn = some Ca) (hW : W = fun c d _ H => E c d H) (tk : Takes X W) (hz : S.Gi = [.z, .z]) (hoo : S.o = .z) (hd : Dun X.K Ca "__contains__" f) (Fn : FnOk X.prog X.w X.K X.mg X.base (L2.CX X.prog X.w) k f fd ps (spD C S mir)) (hr : Room kk X.A) (hj : k ≤ kk) (hb : Binds X.K fd ps [])
    (ha : PE X a (tD C W G fa .z)) (hbb : PE X b (tD C W G fb .z)) (hm : behindInMarks .NotIn b = false) : PT X (.Compare a [.NotIn] [b] pos) (tDT C W G (boolT (eInI true cn mir fa fb))) := by
  have hx := passes_call (X := X) (E := E) (W := W) tk fun c d σ H h => by rw [hW]; exact h
  exact PT_weak (pt_cmpR (op_ninI Fn (hr.mono hj) hb hx hd) ha hbb hm) fun σ H Q q => inI_hyp (neg := true) hcl hW hz hoo (bool_hyp q)

/-! len(o) -/
theorem call_lenI {CX : CXT} (Fn : FnOk X.prog X.w X.K X.mg X.base CX k f fd ps sp) (hr : Room (k + 1) X.A) (hb : Binds X.K fd ps []) (hx : Passes CX X E) (hd : Dun X.K Ca "__len__" f) :
    CallR X (.builtin "len") (fun xs H Q => ∃ a dx fs, xs = [.ref a] ∧ H a = some (.ins Ca dx fs) ∧ sp [.ref a] H (fun z H' => ∃ i : Int, z = .int i ∧ 0 ≤ i ∧ i < 2 ^ 63 ∧ Q (.int i) H') E) := by
  intro pins s σ H xs us Q I r ⟨a, dx, fs, ex, ea, h⟩
  subst ex
  obtain rfl := Vals.ref1 r
  obtain ⟨mA, J, _⟩ := ins_get I.hok ea
  obtain ⟨od, J, _⟩ := J.look
  obtain ⟨m, hF⟩ := I.fr
  refine PySem.W.len_K hF I.ok.mod.kin J hd.at_ hd.fn ?_
  have hl : ([Value.ref a] ++ []).length = ps.length := by
    rw [← Fn.len _ _ _ _ h]; rfl
  refine wpAny_call (codeAny_mono (Fn.run X.A.in1 X.stack s H ⟨[.ref a], []⟩ [.ref a] [.ref a] _ E hr.in1 I.env0.in1 (hb _ [.ref a] I.kIn hl) (.cons rfl .nil) h) fun r s' hq => ?_)
  cases r with
  | error er => exact hx pins σ H s er s' I hq
  | ok fl =>
    cases fl with
    | ret u =>
      obtain ⟨z, H', I', rz, i, ez, h0, h1, q⟩ := I.after hq
      subst ez
      obtain ⟨t, rfl⟩ := rz
      exact ⟨⟨h0, h1⟩, .int i, H', I'.tok _, ⟨_, rfl⟩, q⟩
    | next => exact False.elim hq
    | brk => exact False.elim hq
    | cont => exact False.elim hq
def eLenI (cn : Str) (mir : List D → Out) (fo : SE) : SE := fun r => (fo r).bind fun d r1 => match d with
  | .ins c _ => if c = cn then (mirOk mir [d] r1).bind fun z r2 => match z with
      | .int i => if 0 ≤ i ∧ i < 2 ^ 63 then .ok (.int i) r2 else .stk
      | _ => .stk else .stk
  | _ => .stk
theorem de_lenI (hcl : C.cl cn = some Ca) (hW : W = fun c d _ H => E c d H) (tk : Takes X W) (hz : S.Gi = [.z]) (hoo : S.o = .z) (hd : Dun X.K Ca "__len__" f) (Fn : FnOk X.prog X.w X.K X.mg X.base (L2.CX X.prog X.w) k f fd ps (spD C S mir)) (hr : Room kk X.A) (hj : k + 1 ≤ kk) (hb : Binds X.K fd ps [])
    (hg : Gl X "len") (hm : X.mg "len" = none) (ha : PE X a (tD C W G fa .z)) (he : starEach [a] X.env = (false, eval a X.env) :: starEach [] X.env := by rfl) (hpl : (backTo pos (starEach [] X.env)).any (·.1) = false := by rfl) :
    PE X (.Call (.Name "len" p) [a] [] pos) (tD C W G (eLenI cn mir fa) .z) := by
  have hx := passes_call (X := X) (E := E) (W := W) tk fun c d σ H h => by rw [hW]; exact h
  refine PE_weak (pe_callB (call_lenI Fn (hr.mono hj) hb hx hd) hg hm PySem.boot_len (pa_cons ha pa_nil he) (by decide) (by decide) he hpl) fun σ H Q q => ?_
  obtain ⟨F, P, Lk, r, En, q⟩ := q
  refine ⟨F, P, Lk, r, En, (RD.bind q).mono fun d r1 q1 v F1 H1 x1 E0 => ?_⟩
  obtain ⟨R1, E1⟩ := E0.rep
  clear E0
  obtain ⟨L, e0, S0⟩ := id E1
  cases d with
  | ins c fs =>
    dsimp only at q1
    split at q1
    · rename_i hcn
      subst hcn
      obtain ⟨a', dx, fs', rfl, ha'⟩ := insAt S0 R1 hcl
      refine ⟨a', dx, fs', rfl, ha', spN (n := 1) hW E1 (.cons R1 .nil) hz ?_⟩
      refine RD.mono (x := mirN 1 mir [D.ins c fs] r1) ((RD.bind q1).ext x1 (Ext.refl P)) fun d r3 q3 v F3 H3 x3 E3 => ?_
      rw [hoo] at E3
      obtain ⟨R3, E3⟩ := E3.rep
      cases d with
      | int i =>
        cases R3
        have q3 : RD C W F P Lk σ (if 0 ≤ i ∧ i < 2 ^ 63 then Res.ok (D.int i) r3 else .stk) _ := q3
        split at q3
        · rename_i hi
          exact ⟨i, rfl, hi.1, hi.2, q3 _ F3 H3 (x1.trans x3) (E3.drop.zcons (.int _))⟩
        · exact q3.elim
      | _ => exact q3.elim
    · exact q1.elim
  | _ => exact q1.elim
end
end DL
namespace DL
open PySem PySem.Spec PyProof.Rows L2
variable {C : Cfg}
section
variable {X : Cx} {W : WX} {R : Rt} {G : List O} {a b e o : Expr} {es : List Expr} {pos pos' p : Pos} {cn : Str} {Ca pa : Addr}
variable {n k kk : Nat} {S : Sig} {mir : List D → Out} {fo fa fb : SE} {ks : SA} {E : XK} {f : Addr} {fd : FuncData} {ps : List Str} {sp : Sp}
/-! properties -/
def eProp (cn : Str) (mir : List D → Out) (fo : SE) : SE := fun r => (fo r).bind fun d r1 => match d with
  | .ins c _ => if c = cn then (match mir [d] with
      | .ok z _ => .ok z r1
      | _ => .stk) else .stk
  | _ => .stk
theorem de_prop {m : Str} (hcl : C.cl cn = some Ca) (hz : S.Gi = [.z]) (ho : PE X o (tD C W G fo .z)) (c : Cls X.K Ca) (hp : PropOf X.K Ca m pa f) (Fn : FnOk X.prog X.w X.K X.mg X.base (L2.CX X.prog X.w) k f fd ps (spD C S mir)) (hr : Room kk X.A) (hj : k + 1 ≤ kk) (hb : Binds X.K fd ps []) (tk : Takes X.nox (fun _ _ _ _ => False))
    (hab : attributeBase o m X.env (eval o X.env) = eval o X.env := by rfl) : PE X (.Attribute o m pos) (tD C W G (eProp cn mir fo) S.o) := by
  have hx := passes_call (X := X.nox) (E := fun _ _ _ => False) (W := fun _ _ _ _ => False) tk fun c d σ H h => h
  refine PE_weak (pe_prop ho c hp Fn (hr.mono hj) hb .nil hx hab) fun σ H Q q => ?_
  obtain ⟨F, P, Lk, r, En, q⟩ := q
  refine ⟨F, P, Lk, r, En, (RD.bind q).mono fun d r1 q1 v F1 H1 x1 E0 => ?_⟩
  obtain ⟨R1, E1⟩ := E0.rep
  clear E0
  obtain ⟨L, e0, S0⟩ := id E1
  cases d with
  | ins c fs =>
    dsimp only at q1
    split at q1
    · rename_i hcn
      subst hcn
      obtain ⟨a', dx, fs', rfl, ha'⟩ := insAt S0 R1 hcl
      refine ⟨a', dx, fs', rfl, ha', spN (W := fun _ _ _ _ => False) (σ := σ) (n := 1) (vs := [V.ref a']) rfl E1 (.cons R1 .nil) hz ?_⟩
      unfold mirN mirOk
      rw [if_pos (show [D.ins c fs].length = 1 from rfl)]
      cases hm : mir [D.ins c fs] with
      | ok z zs =>
        rw [hm] at q1
        exact fun v F3 H3 x3 E3 => q1 v F3 H3 (x1.trans x3) E3
      | exc c fs => rw [hm] at q1; exact q1.elim
      | stk => rw [hm] at q1; exact q1.elim
    · exact q1.elim
  | _ => exact q1.elim
/-! two-place operators -/
theorem type_looks {M : Model} {h : Heap} {y : Addr} {ob : Obj} {t : Value} (ho : h.get? y = some ob) (hc : ob.cls = t) : PySem.W.Looks M h (typeOf (.ref y)) t := (PySem.W.Looks.ld ho).andThen (by rw [hc]; exact .now)
theorem tyD_looks {M : Model} {pins : List (Addr × Obj)} {σ : L2.St} {H F P : Hp} {Lk : Lock} {L : List Cell} {s : Shared} {v : V} {u : Value} {d : D} {t : String} (hK : X.K = C.K) (I : Inv X pins σ H s) (rv : RelV v u) (S0 : Stt C F P Lk L H) (R0 : Rep C F v d) (h : tyD d = some t) : PySem.W.Looks M s.heap (typeOf u) (.type t) := by
  cases R0 with
  | non => cases h; cases (show u = Value.none from rv); exact PySem.W.Looks.of_pure rfl
  | bl b => cases h; cases (show u = Value.bool b from rv); exact PySem.W.Looks.of_pure rfl
  | int i => cases h; obtain ⟨t, rfl⟩ := (show ∃ t, u = Value.int i t from rv); exact PySem.W.Looks.of_pure rfl
  | str x => cases h; obtain ⟨t, rfl⟩ := (show ∃ t, u = Value.str x t from rv); exact PySem.W.Looks.of_pure rfl
  | lst hh r =>
    cases h
    cases rv
    obtain ⟨its, _, ⟨ob, n, e, c, _⟩, _⟩ := I.list (.inl (S0.rdL hh))
    exact type_looks e c
  | tup hh r =>
    cases h
    cases rv
    obtain ⟨its, _, ⟨ob, e, c, _⟩, _⟩ := I.tuple (SqT.of (S0.tup hh))
    exact type_looks e c
  | ktup hh r =>
    cases h
    cases rv
    obtain ⟨its, _, ⟨ob, e, c, _⟩, _⟩ := I.tuple (by rw [hK]; exact sqT_k hh)
    exact type_looks e c
  | _ => cases h
/-- what the class and the other value's type have of the operator's names -/
structure BinF (K : PySem.W.Frag) (Ca f : Addr) (nm T : String) : Prop where
  first : PySem.W.selfFirst K Ca = true
  at_ : PySem.W.findIn K (.ref Ca) (PySem.dunder nm) = some (some (.ref f))
  fn : PySem.W.isFn K (.ref f) = true
  rev : ∃ rc, PySem.W.findIn K (.ref Ca) (dunderR nm) = some rc ∧ (rc = none ∨ ∃ g : Addr, rc = some (.ref g))
  ot : ∃ fo, PySem.W.findIn K (.type T) (PySem.dunder nm) = some fo
  otR : ∃ ro, PySem.W.findIn K (.type T) (dunderR nm) = some ro
  sub : PySem.W.subIn K (.type T) (.ref Ca) = some false
theorem own_bin {A : Around} {Er : Value → Shared → Prop} {prog : Program} {w : World} {s : Shared} {K : PySem.W.Frag} {x L : Addr} {h₀ : Heap} {m : Str → Option Value} {ox : Obj} {od : Option Obj} {op : Operator} {u : Value} {T sym nm : String} {Q : Value → Shared → Prop} (hi : op.info = (sym, nm)) (Fr0 : PyProof.Rows.Fr h₀ L s.heap m) (X₀ : K.In h₀) (I : PySem.W.InstAt s.heap x ox Ca od) (hB : BinF K Ca f nm T) (L2 : PySem.W.Looks (model prog w) s.heap (typeOf u) (.type T))
    (h : wpAny (model prog w) A (call (.ref f) [.ref x, u]) (PySem.W.CmpBack Q) Er s) : wpAny (model prog w) A (binaryOp op (.ref x) u) Q Er s := by
  have Xk := X₀.keeps Fr0.keep
  obtain ⟨cd, rest, hcd, hm⟩ := PySem.W.ksp_first hB.first
  obtain ⟨rc, hrc, hp⟩ := hB.rev
  obtain ⟨fo, h1⟩ := hB.ot
  obtain ⟨ro, h2⟩ := hB.otR
  have one := PySem.W.ksp_try Xk I hB.at_ hB.fn h
  obtain ⟨hh, g, d, tt, os⟩ := s
  have J1 : PySem.W.Looks (model prog w) hh (typeOf (.ref x)) (.ref Ca) := I.type
  have J3 : PySem.W.Looks (model prog w) hh (fillsNumberSlot (.ref Ca) nm) true := PySem.W.fills_K Xk hcd hm hB.at_
  have J4 := PySem.W.ksp_fillsT (M := model prog w) Xk h1 h2
  have J5 : PySem.W.Looks (model prog w) hh (isSubtype (.type T) (.ref Ca)) false := PySem.W.looks_subIn Xk hB.sub
  have J6 : PySem.W.Looks (model prog w) hh (numberSlotInPython (.ref Ca) nm) true := PySem.W.ksp_inPy Xk hB.at_ hrc hp
  have J7 : PySem.W.Looks (model prog w) hh (numberSlotInPython (.type T) nm) false := PySem.W.Looks.of_pure rfl
  have J8 : PySem.W.Looks (model prog w) hh (typeLookup (.type T) (dunderR nm)) ro := PySem.W.looks_findIn Xk h2
  generalize ((fo.isSome && !isSeqSlot fo) || (ro.isSome && !isSeqSlot ro)) = right at J4
  have hne : (Value.ref Ca == Value.type T) = false := by
    cases hq : (Value.ref Ca == Value.type T) with
    | false => rfl
    | true => cases beq_iff_eq.mp hq
  simp only [binaryOp, hi]
  refine wpAny_holding (wpAny_bind ?_)
  unfold binaryOp1
  refine wpAny_bind (J1.at (wpAny_bind (L2.at (wpAny_bind (J3.at ?_)))))
  simp only [hne, Bool.false_eq_true, if_false]
  cases right <;> (ksp_lk; refine wpAny_mono one (fun r s' hr' => ?_) fun _ _ e => e; obtain ⟨v, rfl, hq⟩ := hr'; ksp_lk; exact hq)
end
end DL
namespace DL
open PySem PySem.Spec PyProof.Rows L2
variable {C : Cfg}
section
variable {X : Cx} {W : WX} {R : Rt} {G : List O} {a b e o : Expr} {es : List Expr} {pos pos' p : Pos} {cn : Str} {Ca pa : Addr}
variable {n k kk : Nat} {S : Sig} {mir : List D → Out} {fo fa fb : SE} {ks : SA} {E : XK} {f : Addr} {fd : FuncData} {ps : List Str} {sp : Sp}
theorem back_of {Q : VK} {z : V} {u : Value} {σ : L2.St} {H : Hp} {s : Shared} {pins : List (Addr × Obj)} (I : Inv X pins σ H s) (r : RelV z u) (q : Q z H) : PySem.W.CmpBack (EP X pins σ Q) u s := by
  have go : ∀ u, RelV z u → u ≠ .notImplemented → PySem.W.CmpBack (EP X pins σ Q) u s := fun u r h => by
    cases u <;> first | exact absurd rfl h | exact ⟨z, H, I, r, q⟩
  refine go u r fun e => ?_
  subst e
  cases z with
  | non => cases r
  | bl b => cases r
  | int i => obtain ⟨t, h⟩ := r; cases h
  | str i => obtain ⟨t, h⟩ := r; cases h
  | byt i => obtain ⟨t, h⟩ := r; cases h
  | flt i => obtain ⟨t, h⟩ := r; cases h
  | ref i => cases r
  | ty i => cases r
theorem op_binO {CX : CXT} {op : Operator} {T sym nm : String} (hi : op.info = (sym, nm)) (Fn : FnOk X.prog X.w X.K X.mg X.base CX k f fd ps sp) (hr : Room k X.A) (hb : Binds X.K fd ps []) (hx : Passes CX X E) (hB : BinF X.K Ca f nm T) :
    OpR X (binaryOp op) (fun x y H Q => (∃ a dx fs, x = .ref a ∧ H a = some (.ins Ca dx fs)) ∧ (∀ pins σ s u, Inv X pins σ H s → RelV y u → PySem.W.Looks (model X.prog X.w) s.heap (typeOf u) (.type T)) ∧ sp [x, y] H Q E) := by
  intro pins s σ H x y v u Q I rx ry ⟨⟨a, dx, fs, ey, ea⟩, hty, h⟩
  subst ey
  cases rx
  obtain ⟨mA, J, _⟩ := ins_get I.hok ea
  obtain ⟨od, J, _⟩ := J.look
  obtain ⟨m, hF⟩ := I.fr
  refine own_bin hi hF I.ok.mod.kin J hB (hty pins σ s u I ry) ?_
  exact thn (run_fn (us := [.ref a, u]) (vs := [.ref a, y]) (dvs := []) Fn hr hb .nil hx I (.cons rfl (.cons ry .nil)) h) fun w s1 ⟨z, H1, I1, r1, q1⟩ => back_of I1 r1 q1
def eBinI (cn T : String) (mir : List D → Out) (fa fb : SE) : SE := fun r => (fa r).bind fun x r1 => (fb r1).bind fun y r2 => if tyD y = some T then callI cn mir x y r2 else .stk
theorem de_binO {op : Operator} {cn T sym nm : String} (hi : op.info = (sym, nm)) (hK : X.K = C.K) (hcl : C.cl cn = some Ca) (hW : W = fun c d _ H => E c d H) (tk : Takes X W) (hz : S.Gi = [.z, .z]) (hB : BinF X.K Ca f nm T) (Fn : FnOk X.prog X.w X.K X.mg X.base (L2.CX X.prog X.w) k f fd ps (spD C S mir)) (hr : Room kk X.A) (hj : k ≤ kk) (hb : Binds X.K fd ps [])
    (ha : PE X a (tD C W G fa .z)) (hbb : PE X b (tD C W G fb .z)) : PE X (.BinOp a op b pos) (tD C W G (eBinI cn T mir fa fb) S.o) := by
  have hx := passes_call (X := X) (E := E) (W := W) tk fun c d σ H h => by rw [hW]; exact h
  refine PE_weak (pe_op (op_binO hi Fn (hr.mono hj) hb hx hB) ha hbb) fun σ H Q q => ?_
  obtain ⟨F, P, Lk, r, En, q⟩ := q
  refine ⟨F, P, Lk, r, En, (RD.bind q).mono fun dx r1 q1 x F1 H1 x1 E0 => ?_⟩
  obtain ⟨R1, E1⟩ := E0.rep
  clear E0
  refine ⟨F1, P, Lk, r1, E1, (RD.bind (q1.ext x1 (Ext.refl P))).mono fun dy r2 q2 y F2 H2 x2 E0 => ?_⟩
  obtain ⟨R2, E2⟩ := E0.rep
  clear E0
  obtain ⟨L, e0, S0⟩ := id E2
  split at q2
  · rename_i hT
    cases dx with
    | ins c fs =>
      have ec : callI cn mir (D.ins c fs) dy r2 = if c = cn then mirOk mir [D.ins c fs, dy] r2 else .stk := rfl
      rw [ec] at q2
      split at q2
      · rename_i hcn
        subst hcn
        refine ⟨insAt S0 (R1.mono x2) hcl, fun pins σ' s u I ru => tyD_looks hK I ru S0 R2 hT, spN (n := 2) hW E2 (.cons (R1.mono x2) (.cons R2 .nil)) hz ?_⟩
        exact RD.mono (x := mirN 2 mir [D.ins cn fs, dy] r2) (q2.ext x2 (Ext.refl P)) fun d r3 q3 v F3 H3 x3 E3 => q3 v F3 H3 ((x1.trans x2).trans x3) E3
      · exact q2.elim
    | _ => exact q2.elim
  · exact q2.elim
/-! o == y -/
def isTyN (T : String) : Bool := T == "NoneType" || T == "bool" || T == "int" || T == "str" || T == "list" || T == "tuple"
structure EqF (K : PySem.W.Frag) (Ca f : Addr) : Prop where
  at_ : PySem.W.findIn K (.ref Ca) "__eq__" = some (some (.ref f))
  fn : PySem.W.isFn K (.ref f) = true
  sub : ∀ T, isTyN T = true → PySem.W.subIn K (.type T) (.ref Ca) = some false
theorem tyD_n {d : D} {T : String} (h : tyD d = some T) : isTyN T = true := by
  cases d <;> cases h <;> rfl
theorem op_eqI {CX : CXT} (Fn : FnOk X.prog X.w X.K X.mg X.base CX k f fd ps sp) (hr : Room k X.A) (hb : Binds X.K fd ps []) (hx : Passes CX X E) (hE : EqF X.K Ca f) :
    OpR X (compareOp .Eq) (fun x y H Q => (∃ a dx fs, x = .ref a ∧ H a = some (.ins Ca dx fs)) ∧ ((∃ a dx fs, y = .ref a ∧ H a = some (.ins Ca dx fs)) ∨ ∃ T, isTyN T = true ∧ ∀ pins σ s u, Inv X pins σ H s → RelV y u → PySem.W.Looks (model X.prog X.w) s.heap (typeOf u) (.type T)) ∧ sp [x, y] H Q E) := by
  intro pins s σ H x y v u Q I rx ry ⟨⟨a, dx, fs, ey, ea⟩, hty, h⟩
  subst ey
  cases rx
  obtain ⟨mA, J, _⟩ := ins_get I.hok ea
  obtain ⟨od, J, _⟩ := J.look
  obtain ⟨m, hF⟩ := I.fr
  have fin := thn (run_fn (us := [.ref a, u]) (vs := [.ref a, y]) (dvs := []) Fn hr hb .nil hx I (.cons rfl (.cons ry .nil)) h) fun w s1 ⟨z, H1, I1, r1, q1⟩ => back_of I1 r1 q1
  show wpAny (model X.prog X.w) X.A (richCompare .Eq (.ref a) u) (EP X pins σ Q) X.xe s
  rcases hty with ⟨a', dx', fs', rfl, ea'⟩ | ⟨T, hT, hty⟩
  · cases ry
    obtain ⟨mA', J', _⟩ := ins_get I.hok ea'
    obtain ⟨od', J', _⟩ := J'.look
    exact PySem.W.cmp_K (op := .Eq) (tb := .ref Ca) hr.units0 hF I.ok.mod.kin J J'.type (by simp [PySem.W.notFirst]) hE.at_ hE.fn fin
  · exact PySem.W.cmp_K (op := .Eq) (tb := .type T) hr.units0 hF I.ok.mod.kin J (hty pins σ s u I ry) (by simp [PySem.W.notFirst, hE.sub T hT]) hE.at_ hE.fn fin
def okEq (cn : Str) (y : D) : Bool := match y with
  | .ins c _ => c == cn
  | d => (tyD d).isSome
def eEqI (cn : Str) (mir : List D → Out) (fa fb : SE) : SE := fun r => (fa r).bind fun x r1 => (fb r1).bind fun y r2 => if okEq cn y = true then callI cn mir x y r2 else .stk
theorem eqI_hyp (hK : X.K = C.K) (hcl : C.cl cn = some Ca) (hW : W = fun c d _ H => E c d H) (hz : S.Gi = [.z, .z]) {σ : L2.St} {H : Hp} {Q : VK} (q : tD C W G (eEqI cn mir fa fb) S.o σ H Q) :
    tOp (fun x y H Q => (∃ a dx fs, x = V.ref a ∧ H a = some (.ins Ca dx fs)) ∧ ((∃ a dx fs, y = V.ref a ∧ H a = some (.ins Ca dx fs)) ∨ ∃ T, isTyN T = true ∧ ∀ pins σ s u, Inv X pins σ H s → RelV y u → PySem.W.Looks (model X.prog X.w) s.heap (typeOf u) (.type T)) ∧ spD C S mir [x, y] H Q E) (tD C W G fa .z) (tD C W G fb .z) σ H Q := by
  obtain ⟨F, P, Lk, r, En, q⟩ := q
  refine ⟨F, P, Lk, r, En, (RD.bind q).mono fun dx r1 q1 x F1 H1 x1 E0 => ?_⟩
  obtain ⟨R1, E1⟩ := E0.rep
  clear E0
  refine ⟨F1, P, Lk, r1, E1, (RD.bind (q1.ext x1 (Ext.refl P))).mono fun dy r2 q2 y F2 H2 x2 E0 => ?_⟩
  obtain ⟨R2, E2⟩ := E0.rep
  clear E0
  obtain ⟨L, e0, S0⟩ := id E2
  split at q2
  · rename_i hT
    cases dx with
    | ins c fs =>
      have ec : callI cn mir (D.ins c fs) dy r2 = if c = cn then mirOk mir [D.ins c fs, dy] r2 else .stk := rfl
      rw [ec] at q2
      split at q2
      · rename_i hcn
        subst hcn
        refine ⟨insAt S0 (R1.mono x2) hcl, ?_, spN (n := 2) hW E2 (.cons (R1.mono x2) (.cons R2 .nil)) hz ?_⟩
        · have tyc : ∀ {d : D} {T : String}, tyD d = some T → Rep C F2 y d → _ := fun {d T} h Rd => (Or.inr ⟨T, tyD_n h, fun pins σ' s u I ru => tyD_looks hK I ru S0 Rd h⟩ : (∃ a dx fs, y = V.ref a ∧ H2 a = some (.ins Ca dx fs)) ∨ ∃ T, isTyN T = true ∧ ∀ pins σ s u, Inv X pins σ H2 s → RelV y u → PySem.W.Looks (model X.prog X.w) s.heap (typeOf u) (.type T))
          cases dy with
          | ins c' fs' =>
            have e : c' = c := by simpa [okEq] using hT
            subst e
            exact .inl (insAt S0 R2 hcl)
          | dct t kvs => simp [okEq, tyD] at hT
          | klst t => simp [okEq, tyD] at hT
          | opq w => simp [okEq, tyD] at hT
          | non => exact tyc rfl R2
          | bl b => exact tyc rfl R2
          | int i => exact tyc rfl R2
          | str i => exact tyc rfl R2
          | lst i => exact tyc rfl R2
          | tup i => exact tyc rfl R2
          | ktup i => exact tyc rfl R2
        · exact RD.mono (x := mirN 2 mir [D.ins c fs, dy] r2) (q2.ext x2 (Ext.refl P)) fun d r3 q3 v F3 H3 x3 E3 => q3 v F3 H3 ((x1.trans x2).trans x3) E3
      · exact q2.elim
    | _ => exact q2.elim
  · exact q2.elim
theorem de_eqI (hK : X.K = C.K) (hcl : C.cl cn = some Ca) (hW : W = fun c d _ H => E c d H) (tk : Takes X W) (hz : S.Gi = [.z, .z]) (hoo : S.o = .z) (hE : EqF X.K Ca f) (Fn : FnOk X.prog X.w X.K X.mg X.base (L2.CX X.prog X.w) k f fd ps (spD C S mir)) (hr : Room kk X.A) (hj : k ≤ kk) (hb : Binds X.K fd ps [])
    (ha : PE X a (tD C W G fa .z)) (hbb : PE X b (tD C W G fb .z)) (hm : behindInMarks .Eq b = false) : PE X (.Compare a [.Eq] [b] pos) (tD C W G (eEqI cn mir fa fb) .z) := by
  have hx := passes_call (X := X) (E := E) (W := W) tk fun c d σ H h => by rw [hW]; exact h
  exact PE_weak (pe_cmpR (op_eqI Fn (hr.mono hj) hb hx hE) ha hbb hm) fun σ H Q q => eqI_hyp hK hcl hW hz (by rw [hoo]; exact q)
theorem dt_eqI (hK : X.K = C.K) (hcl : C.cl cn = some Ca) (hW : W = fun c d _ H => E c d H) (tk : Takes X W) (hz : S.Gi = [.z, .z]) (hoo : S.o = .z) (hE : EqF X.K Ca f) (Fn : FnOk X.prog X.w X.K X.mg X.base (L2.CX X.prog X.w) k f fd ps (spD C S mir)) (hr : Room kk X.A) (hj : k ≤ kk) (hb : Binds X.K fd ps [])
    (ha : PE X a (tD C W G fa .z)) (hbb : PE X b (tD C W G fb .z)) (hm : behindInMarks .Eq b = false) : PT X (.Compare a [.Eq] [b] pos) (tDT C W G (boolT (eEqI cn mir fa fb))) := by
  have hx := passes_call (X := X) (E := E) (W := W) tk fun c d σ H h => by rw [hW]; exact h
  exact PT_weak (pt_cmpR (op_eqI Fn (hr.mono hj) hb hx hE) ha hbb hm) fun σ H Q q => eqI_hyp hK hcl hW hz (by rw [hoo]; exact bool_hyp q)
/-! isinstance(x, C) -/
structure IsiF (K : PySem.W.Frag) (Ca : Addr) : Prop where
  cl : Cls K Ca
  ha : PySem.W.findIn K (.ref Ca) "__class__" = some (some (.builtin "object.__class__"))
  hn : PySem.W.specialIn K (.builtin "object.__class__") "__get__" = some (some (.builtin "getset_descriptor.__get__"))
  htk : PySem.W.takesIn K (.builtin "object.__class__") = some true
  hm : PySem.W.mroIn K Ca (.type "object") = some true
  kit : ∀ T, isTyN T = true → PySem.W.kitOne K (.type T) (.ref Ca) = some false
def isiOD (cn : Str) : D → Option D
  | .ins c _ => if c = cn then some (.bl true) else none
  | d => (tyD d).map fun _ => .bl false
theorem de_isiO {x : Str} {p1 : Pos} (hK : X.K = C.K) (hcl : C.cl cn = some Ca) (hI : IsiF X.K Ca) (hg : Gl X "isinstance") (hm : X.mg "isinstance" = none) (hv : bootBuiltins "isinstance" = some (.builtin "isinstance")) (hgt : Gl X x) (hmt : X.mg x = some (.ref Ca)) (ha : PE X e (tD C W G fo .z))
    (hdt : (x == ("__debug__" : Str)) = false := by decide)
    (hs1 : starEach [.Name x p1] X.env = (false, eval (.Name x p1) X.env) :: starEach [] X.env := by rfl)
    (he : starEach [e, .Name x p1] X.env = (false, eval e X.env) :: starEach [.Name x p1] X.env := by rfl) (hpl : (backTo pos (starEach [.Name x p1] X.env)).any (·.1) = false := by rfl) :
    PE X (.Call (.Name "isinstance" p) [e, .Name x p1] [] pos) (tD C W G (e1 (isiOD cn) fo) .z) := by
  refine PE_weak (pe_callB call_isi hg hm hv (pa_cons ha (pa_cons (pe_glob (v := .ref Ca) hgt hmt rfl hdt) pa_nil hs1) he) (by decide) (by decide) he hpl) fun σ H Q q => ?_
  obtain ⟨F, P, Lk, r, E, q⟩ := q
  refine ⟨F, P, Lk, r, E, (RD.bind q).mono fun d r1 q1 v F1 H1 x1 E1 => ?_⟩
  obtain ⟨R1, L, e0, S⟩ := E1.rep
  obtain ⟨dz, e3, q3⟩ := RD_opt q1
  have tyc : ∀ {d : D} {T : String}, tyD d = some T → Rep C F1 v d → isiOD cn d = some (.bl false) → dz = .bl false → rIsi X.K [v, .ref Ca] H1 Q := fun {d T} h Rd _ ez => by
    subst ez
    exact ⟨v, .ref Ca, .type T, .ref Ca, false, rfl, .own Ca, hK ▸ tyD_X S Rd h, hI.kit T (tyD_n h), q3 _ F1 H1 x1 ⟨L, e0, S.zcons (.bl false)⟩⟩
  cases d with
  | ins c fs =>
    have e5 : (if c = cn then some (D.bl true) else none) = some dz := e3
    clear e3
    split at e5
    · rename_i hcn
      subst hcn
      cases e5
      obtain ⟨a', dx, fs', rfl, ha'⟩ := insAt S R1 hcl
      refine ⟨.ref a', .ref Ca, .ref Ca, .ref Ca, true, rfl, .own Ca, .base (.ins ha' hI.cl hI.ha hI.hn hI.htk hI.hm), ?_, q3 _ F1 H1 x1 ⟨L, e0, S.zcons (.bl true)⟩⟩
      unfold PySem.W.kitOne
      rw [if_pos (by simp)]
    · cases e5
  | dct t kvs => cases e3
  | klst t => cases e3
  | opq w => cases e3
  | non => exact tyc rfl R1 rfl (by cases e3; rfl)
  | bl b => exact tyc rfl R1 rfl (by cases e3; rfl)
  | int i => exact tyc rfl R1 rfl (by cases e3; rfl)
  | str i => exact tyc rfl R1 rfl (by cases e3; rfl)
  | lst i => exact tyc rfl R1 rfl (by cases e3; rfl)
  | tup i => exact tyc rfl R1 rfl (by cases e3; rfl)
  | ktup i => exact tyc rfl R1 rfl (by cases e3; rfl)
end
end DL
namespace DL
open PySem PySem.Spec PyProof.Rows L2
variable {C : Cfg}
section
variable {X : Cx} {W : WX} {G : List O} {pos p1 : Pos} {Ca : Addr}
/-- C.f, a constant of the class -/
theorem de_cval {x f : Str} {mc : Value} {v : V} {u : Value} {d : D} (hgt : Gl X x) (hmt : X.mg x = some (.ref Ca)) (r : ClX.CRead X.K Ca mc) (k : ClX.CVal X.K Ca mc f v u) (hr : ∀ F, Rep C F v d) (hd : (x == ("__debug__" : Str)) = false := by decide)
    (hb : attributeBase (.Name x p1) f X.env (eval (.Name x p1) X.env) = eval (.Name x p1) X.env := by rfl) : PE X (.Attribute (.Name x p1) f pos) (tD C W G (eC d) .z) := by
  refine PE_weak (ClX.pe_cval (pe_glob (v := .ref Ca) hgt hmt rfl hd) hb) fun σ H Q q => ?_
  obtain ⟨F, P, Lk, r0, E, q⟩ := q
  exact ⟨Ca, mc, v, u, rfl, r, k, q v F H (Ext.refl F) (E.zcons (hr F))⟩
end
end DL
set_option Elab.async false
set_option linter.all false
set_option autoImplicit false
set_option maxRecDepth 100000
set_option maxHeartbeats 1000000
/-! the data layer, part 13: dicts -/
namespace DL
open PySem PySem.Spec PyProof.Rows L2
variable {C : Cfg}
section
variable {X : Cx} {W : WX} {R : Rt} {G : List O} {e tg iter kx vx : Expr} {ifs : List Expr} {es : List Expr} {pos : Pos} {o : O}
/-! new dicts -/
theorem de_dnewK : PE X (.Dict [] [] pos) (tD C W G (eC (.dct false [])) (.c o)) := by
  refine PE_weak pe_dnewK fun σ H Q q => ?_
  obtain ⟨F, P, Lk, r, E, q⟩ := q
  intro p hp
  obtain ⟨L, E1, S1⟩ := E
  exact q _ F _ (Ext.refl F) ⟨L, E1, SttH.closeK (kvs := []) (ds := []) (o := o) (Stt.hole S1 hp) rfl⟩
theorem de_dnewT : PE X (.Dict [] [] pos) (tD C W G (eC (.dct true [])) (.c o)) := by
  refine PE_weak pe_dnewT fun σ H Q q => ?_
  obtain ⟨F, P, Lk, r, E, q⟩ := q
  intro p hp
  obtain ⟨L, E1, S1⟩ := E
  exact q _ F _ (Ext.refl F) ⟨L, E1, SttH.closeT (kvs := []) (ds := []) (o := o) (Stt.hole S1 hp) rfl fun p hp => by simp at hp⟩
/-! d.update(e), d.clear() -/
def mergeK (kvs more : List (Key × V)) : List (Key × V) := more.foldl (fun a p => putK a p.1 p.2) kvs
theorem mergeK_len : ∀ (more kvs : List (Key × V)), (mergeK kvs more).length ≤ kvs.length + more.length
  | [], kvs => Nat.le_refl _
  | p :: more, kvs => by
    have h1 := mergeK_len more (putK kvs p.1 p.2)
    have h2 := length_putK kvs p.1 p.2
    show (mergeK (putK kvs p.1 p.2) more).length ≤ _
    simp only [List.length_cons]
    omega
theorem KV_nil_of {vs : List (Key × Value)} (r : KV ([] : List (Key × V)) vs) : vs = [] := by
  have := r.length
  cases vs with
  | nil => rfl
  | cons _ _ => simp at this
theorem KV_merge : ∀ {more : List (Key × V)} {kvs : List (Key × V)} {ms vs : List (Key × Value)}, KV kvs vs → KV more ms → KV (mergeK kvs more) (merged vs ms)
  | [], kvs, ms, vs, r, m => by cases m; exact r
  | p :: more, kvs, _, vs, r, m => by
    cases m with
    | @cons _ q _ ms h t =>
      obtain ⟨h1, h2⟩ := h
      have e : stored vs q.1 q.2 = stored vs p.1 q.2 := by rw [h1]
      show KV (mergeK (putK kvs p.1 p.2) more) (merged (stored vs q.1 q.2) ms)
      rw [e]
      exact KV_merge (r.put p.1 h2) t
def rDUpd : V → List V → Hp → VK → Prop := fun x xs H Q => ∃ a b kvs more, x = .ref a ∧ xs = [.ref b] ∧ a ≠ b ∧ H a = some (.dK kvs) ∧ Rd H b (.dK more) ∧ kvs.length + more.length ≤ sizeLine ∧ Q .non (upd H a (.dK (mergeK kvs more)))
theorem mtd_update : MtR X "dict.update" rDUpd := by
  intro pins s σ H x xs v us Q I rx rxs ⟨a, b, kvs, more, ex, exs, hne, ha, hb, hz, q⟩
  subst ex exs
  cases rx
  obtain ⟨u, rfl, ru⟩ := rxs.one
  cases ru
  obtain ⟨z, hd, vs, rel, dd⟩ := dk_of I.hok ha
  obtain ⟨z', hd', ms, rel', dd'⟩ := dk_rd I.hok hb
  refine call_meetsIn PySem.F.slot_dict_update dd.typeIs PySem.F.entry_dict_update (PySem.F.args_dict_update_2 _ _) (meets_dict_update (mixKind X.prog X.w) a b hne hd') ⟨vs, ms, dd, dd', by rw [← rel.length, ← rel'.length]; exact hz, fun h' e1 e2 sb => ?_⟩
  have he : ∃ q, h'.get? a = some q := let ⟨q, _, _, hq, _⟩ := e1; ⟨q, hq⟩
  exact ⟨.non, _, d_write (t' := s.toks) I (by rw [ha]; exact True.intro) sb he (dk_new (Nat.le_trans (mergeK_len more kvs) hz) hd (KV_merge rel rel') e1), rfl, q⟩
def mergeD (kvs more : List (D × D)) : List (D × D) := more.foldl (fun a p => putD a p.1 p.2) kvs
theorem merge_rel {F : Hp} : ∀ {more : List (Key × V)} {es : List D} {kvs : List (Key × V)} {ds : List D}, RepL C F (kvs.map (·.2)) ds → RepL C F (more.map (·.2)) es →
    ∃ ds', RepL C F ((mergeK kvs more).map (·.2)) ds' ∧ ((mergeK kvs more).map fun p => keyD p.1).zip ds' = mergeD ((kvs.map fun p => keyD p.1).zip ds) ((more.map fun p => keyD p.1).zip es)
  | [], es, kvs, ds, r, m => by cases m; exact ⟨ds, r, rfl⟩
  | p :: more, _, kvs, ds, r, m => by
    cases m with
    | @cons _ e _ es a b =>
      obtain ⟨d1, r1, e1⟩ := put_rel keyD keyB_key r a p.1
      obtain ⟨d2, r2, e2⟩ := merge_rel r1 b
      refine ⟨d2, r2, ?_⟩
      have e3 : mergeK kvs (p :: more) = mergeK (putK kvs p.1 p.2) more := rfl
      rw [e3, e2, e1]
      rfl
def gUpdate : D → List D → Option (D × D)
  | .dct false kvs, [.dct false more] => if kvs.length + more.length ≤ sizeLine then some (.non, .dct false (mergeD kvs more)) else none
  | _, _ => none
theorem me_update : MtR X "dict.update" (rMe C (.c .z) .z [.z] gUpdate) := fun pins s σ H x xs v us Q I rx rxs h => by
  obtain ⟨F, P, Lk, L, d, ds, d', dr, La, Rr, S, g, k⟩ := h
  obtain ⟨e, y, rfl, rfl, rfl⟩ := Rr.one
  have Re : Rep C F y e := S.rep_mem (List.mem_cons_of_mem _ List.mem_cons_self)
  unfold gUpdate at g
  split at g
  · rename_i kds more heq
    cases heq
    split at g
    · rename_i hz
      cases g
      obtain ⟨a, kvs, ds1, rfl, h1, l, rfl, S2⟩ := Stt.openK S
      obtain ⟨r, S3⟩ := S2.unz (by simpa using l)
      cases Re with
      | @dK b ms es hb rb =>
        have S4 : SttH C F P Lk [a] L H := S3.tail
        have hne : a ≠ b := fun z => by
          subst z
          obtain ⟨fp, ow, n, dd⟩ := S4.ow
          rw [(dd a (by simp)).1] at hb
          cases hb
        have lz : ms.length = es.length := by simpa using rb.length
        obtain ⟨ds', r', e'⟩ := merge_rel r rb
        refine mtd_update pins s σ H _ _ v us Q I rx rxs ⟨a, b, kvs, ms, rfl, rfl, hne, h1, ?_, ?_, k _ F _ (Ext.refl F) (Stt.zcons .non ?_)⟩
        · have z := S4.le _ _ hb
          unfold lk at z
          cases q : Lk b with
          | none => rw [q] at z; exact .inl z
          | some ob => rw [q] at z; exact .inr ⟨ob, z⟩
        · simp at hz; omega
        · have z := SttH.closeK (S4.zcell r') (by simpa using r'.length)
          rw [e'] at z
          exact z
    · cases g
  · cases g
def gDClear : D → List D → Option (D × D)
  | .dct false _, [] => some (.non, .dct false [])
  | _, _ => none
theorem me_dclear : MtR X "dict.clear" (rMe C (.c o) .z [] gDClear) := fun pins s σ H x xs v us Q I rx rxs h => by
  obtain ⟨F, P, Lk, L, d, ds, d', dr, La, Rr, S, g, k⟩ := h
  obtain ⟨rfl, rfl, rfl⟩ := Rr.none_nil
  unfold gDClear at g
  split at g
  · cases g
    obtain ⟨a, kvs, ds1, rfl, h1, l, rfl, S2⟩ := Stt.openK (L := L) S
    exact mtd_clear pins s σ H _ _ v us Q I rx rxs ⟨a, kvs, rfl, rfl, h1, k _ F _ (Ext.refl F) (Stt.zcons .non (SttH.closeK (kvs := []) (ds := []) (o := o) S2.drop rfl))⟩
  · cases g

/-! ### {k: v for .. in ..} -/
def dcL (t : Tg) (vs : List Nat) (ts : ST) (fk f : SE) : List D → List (D × D) → DL.Env → Res (List (D × D))
  | [], acc, r => .ok acc r
  | d :: ds, acc, r => match t.put d r with
    | some r1 => bndN (ts r1) fun b r2 => if b = true then bndN (fk r2) fun k r3 => bndN (f r3) fun x r4 => if (toKey k).isSome = true ∧ acc.length < sizeLine then dcL t vs ts fk f ds (putD acc k x) (wipeE r4 vs) else .stk
      else dcL t vs ts fk f ds acc (wipeE r2 vs)
    | none => .stk
def eDc (it : SI) (vs : List Nat) (t : Tg) (ts : ST) (fk f : SE) : SE := fun r => (it r).bind fun items r1 => bndN (dcL t vs ts fk f items [] (wipeE r1 vs)) fun kds r2 => .ok (.dct false kds) (restE r1 vs r2)
theorem Stt.putK1 {F P H : Hp} {Lk : Lock} {L : List Cell} {a : Addr} {kds : List (D × D)} {y z : V} {ky : Key} {d : D} (S : Stt C F P Lk ((.c .z, .ref a, .dct false kds) :: L) H) (Rk : Rep C F y (keyD ky)) (Rv : Rep C F z d) :
    ∃ kvs, y = kV ky ∧ H a = some (.dK kvs) ∧ kvs.length = kds.length ∧ Stt C F P Lk ((.c .z, .ref a, .dct false (putD kds (keyD ky) d)) :: L) (upd H a (.dK (putK kvs ky z))) := by
  obtain ⟨a', kvs, ds1, ea, h1, l, rfl, S2⟩ := Stt.openK S
  cases ea
  obtain ⟨r, S3⟩ := S2.unz (by simpa using l)
  obtain ⟨ds', r', e'⟩ := put_rel keyD keyB_key r Rv ky
  refine ⟨kvs, by cases ky <;> (cases Rk; rfl), h1, by simp [l], ?_⟩
  rw [← e']
  exact SttH.closeK (S3.zcell r') (by simpa using r'.length)
theorem dc_hyp {it : SI} {t : Tg} {ts : ST} {fk f : SE} {vs : List Nat} (hv : ∀ i ∈ vs, G[i]? = some .z) (ht : t.slots = vs) {σ : L2.St} {H : Hp} {Q : VK} (q : tD C W G (eDc it vs t ts fk f) (.c .z) σ H Q) :
    tDc (tDI C W G it) (tDG C G t) (tDTs C G ts) (tD C W0 G fk .z) (tD C W0 G f .z) vs σ H Q := by
  obtain ⟨F, P, Lk, r, E, q⟩ := q
  refine ⟨F, P, Lk, r, E, (RD.bind q).mono fun items r1 q1 J F1 H1 x1 E1 Y Da hD => ?_⟩
  cases hl : dcL t vs ts fk f items [] (wipeE r1 vs) with
  | stk => rw [hl] at q1; exact q1.elim
  | exc c fs => rw [hl] at q1; exact q1.elim
  | ok all r9 =>
    rw [hl] at q1
    have q1 : RD C W F P Lk σ (Res.ok (D.dct false all) (restE r1 vs r9)) _ := q1
    refine ⟨fun i m H' => m = items.length - i ∧ i ≤ items.length ∧ ∃ F' r' acc, Ext F1 F' ∧ EnvX C [(.c .z, .ref Da, .dct false acc)] F' P Lk G r' (wipe σ vs) H' ∧ dcL t vs ts fk f (items.drop i) acc r' = .ok all r9,
      ⟨items.length, rfl, Nat.zero_le _, F1, _, [], Ext.refl _, ?_, by rw [List.drop_zero]; exact hl⟩, ?_⟩
    · obtain ⟨L, e, s⟩ := EnvX.wipe hv E1
      exact ⟨L, e, SttH.closeK (kvs := []) (ds := []) (o := .z) (Stt.hole s hD) rfl⟩
    · rintro i m H3 ⟨rfl, hi', F3, r3, acc, x3, E3, h3⟩
      obtain ⟨L3, e3, S3⟩ := id E3
      by_cases hlt : i < items.length
      · refine .inr ⟨Y.go i F3 P Lk _ H3 x3 S3 hlt, fun H' => ∃ F' r' acc, Ext F1 F' ∧ EnvX C [(.c .z, .ref Da, .dct false acc)] F' P Lk G r' (wipe σ vs) H' ∧ dcL t vs ts fk f (items.drop (i + 1)) acc r' = .ok all r9,
          fun H' ⟨F', r', acc', z⟩ => ⟨items.length - (i + 1), by omega, rfl, hlt, F', r', acc', z⟩, fun x H' y => ?_⟩
        obtain ⟨F4, d, x4, hd4, R4, S4⟩ := Y.yld i F3 P Lk _ H3 x H' x3 S3 hlt y
        have e1 : items.drop i = d :: items.drop (i + 1) := by
          rw [List.drop_eq_getElem_cons hlt]
          congr 1
          rw [List.getElem?_eq_getElem hlt] at hd4
          exact Option.some.inj hd4
        rw [e1] at h3
        unfold dcL at h3
        cases hput : t.put d r3 with
        | none => rw [hput] at h3; cases h3
        | some r4 =>
          rw [hput] at h3
          dsimp only at h3
          have E4 : EnvX C [(.c .z, .ref Da, .dct false acc)] F4 P Lk G r3 (wipe σ vs) H' := ⟨L3, e3, S4⟩
          obtain ⟨P4, E4', eP4, unp4⟩ := E4.park
          refine ⟨F4, P4, Lk, r3, d, r4, E4', R4, hput, fun σ5 o5 F5 H5 x5 E5 => ?_⟩
          rw [ht] at o5
          have ws := wipe_twice o5
          refine ⟨ws, ?_⟩
          cases hts : ts r4 with
          | stk => rw [hts] at h3; cases h3
          | exc c fs => rw [hts] at h3; cases h3
          | ok b r5 =>
            rw [hts] at h3
            refine ⟨F5, P4, Lk, r4, E5, ?_⟩
            rw [hts]
            intro F6 H6 x6 E6
            have x6 := x5.trans x6
            cases b with
            | false =>
              have h3 : dcL t vs ts fk f (items.drop (i + 1)) acc (wipeE r5 vs) = .ok all r9 := h3
              rw [if_neg Bool.false_ne_true]
              have E7 := EnvX.wipe hv (unp4 _ _ _ _ _ _ _ x6 E6)
              rw [ws, List.append_nil] at E7
              exact ⟨F6, _, acc, x3.trans (x4.trans x6), E7, h3⟩
            | true =>
              rw [if_pos rfl]
              have h3 : (bndN (fk r5) fun k r3 => bndN (f r3) fun x r4 => if (toKey k).isSome = true ∧ acc.length < sizeLine then dcL t vs ts fk f (items.drop (i + 1)) (putD acc k x) (wipeE r4 vs) else .stk) = .ok all r9 := h3
              cases hfk : fk r5 with
              | stk => rw [hfk] at h3; cases h3
              | exc c fs => rw [hfk] at h3; cases h3
              | ok kd r6 =>
                rw [hfk] at h3
                have h3 : (bndN (f r6) fun x r4 => if (toKey kd).isSome = true ∧ acc.length < sizeLine then dcL t vs ts fk f (items.drop (i + 1)) (putD acc kd x) (wipeE r4 vs) else .stk) = .ok all r9 := h3
                cases hf : f r6 with
                | stk => rw [hf] at h3; cases h3
                | exc c fs => rw [hf] at h3; cases h3
                | ok xd r7 =>
                  rw [hf] at h3
                  have h3 : (if (toKey kd).isSome = true ∧ acc.length < sizeLine then dcL t vs ts fk f (items.drop (i + 1)) (putD acc kd xd) (wipeE r7 vs) else .stk) = .ok all r9 := h3
                  split at h3
                  · rename_i hk
                    obtain ⟨ky, hky⟩ := Option.isSome_iff_exists.mp hk.1
                    have ek := toKey_some hky
                    subst ek
                    refine ⟨F6, P4, Lk, r5, E6, ?_⟩
                    rw [hfk]
                    intro yk F7 H7 x7 E7
                    obtain ⟨R7, E7⟩ := E7.rep
                    refine ⟨F7, P4, Lk, r6, E7, ?_⟩
                    rw [hf]
                    intro yv F8 H8 x8 E8
                    obtain ⟨R8, E8⟩ := E8.rep
                    obtain ⟨L8, e8, s8⟩ := unp4 _ _ _ _ _ _ _ (x6.trans (x7.trans x8)) E8
                    obtain ⟨kvs, ey, hH, lk, s9⟩ := Stt.putK1 s8 (R7.mono x8) R8
                    refine ⟨kvs, ky, ey, hH, by omega, F8, _, _, x3.trans (x4.trans (x6.trans (x7.trans x8))), ?_, h3⟩
                    have s9 : Stt C F8 P Lk ([(.c .z, .ref Da, .dct false (putD acc (keyD ky) xd))] ++ L8) (upd H8 Da (.dK (putK kvs ky yv))) := s9
                    have E9 := EnvX.wipe hv ⟨L8, e8, s9⟩
                    rw [ws] at E9
                    exact E9
                  · cases h3
      · have e : i = items.length := by omega
        subst e
        rw [List.drop_length] at h3
        cases h3
        refine .inl ⟨Y.stop F3 P Lk _ H3 x3 S3, q1 _ F3 H3 (x1.trans x3) ?_⟩
        exact EnvX.rest hv E1 x3 E3
theorem de_dc {it : SI} {t : Tg} {ts : ST} {fk f : SE} {scope : Scope} {own : List (Str × Nat)} {vs : List Nat} (hc : X.calm = true) (hN : X.N.Nodup) (hi : PI X tg iter (tDI C W G it)) (ok : BlkOk X.N X.env.scope scope own) (hvs : own.map (·.2) = vs) (hv : (vs.all fun i => decide (G[i]? = some .z)) = true) (ht : t.slots = vs)
    (hg : ∀ (s : Shared) (H : Hp) (C1 : Addr) (cl : List (Str × Addr)) (fp : List Addr), PG (X.blk s H scope (compEnvC scope cl C1 X.env) fp) tg (tDG C G t))
    (htt : ∀ (s : Shared) (H : Hp) (C1 : Addr) (cl : List (Str × Addr)) (fp : List Addr), PTs (X.blk s H scope (compEnvC scope cl C1 X.env) fp) ifs (tDTs C G ts))
    (hk : ∀ (s : Shared) (H : Hp) (C1 : Addr) (cl : List (Str × Addr)) (fp : List Addr), PE (X.blk s H scope (compEnvC scope cl C1 X.env) fp) kx (tD C W0 G fk .z))
    (he : ∀ (s : Shared) (H : Hp) (C1 : Addr) (cl : List (Str × Addr)) (fp : List Addr), PE (X.blk s H scope (compEnvC scope cl C1 X.env) fp) vx (tD C W0 G f .z)) (hs : ∀ x, foldedSetIterable iter X.env x = pure x := by intro _; rfl) :
    PE X (.DictComp kx vx [⟨tg, iter, ifs, 0⟩] scope pos) (tD C W G (eDc it vs t ts fk f) (.c .z)) := by
  subst hvs
  exact PE_weak (pe_dc hc hN hi ok hg htt hk he hs) fun σ H Q q => dc_hyp (fun i hi => by simpa using List.all_eq_true.mp hv i hi) ht q
end
end DL
set_option Elab.async false
set_option linter.all false
set_option autoImplicit false
set_option maxRecDepth 100000
set_option maxHeartbeats 1000000
/-! the data layer, part 14: sorted; repr of flat values; starred displays; keyword calls -/
namespace DL
open PySem PySem.Spec PyProof.Rows L2
variable {C : Cfg}
/-! ### sorting -/
def insI (x : Int) : List Int → List Int
  | [] => [x]
  | y :: ys => if x ≤ y then x :: y :: ys else y :: insI x ys
def sortI : List Int → List Int
  | [] => []
  | x :: xs => insI x (sortI xs)
theorem insI_perm (x : Int) : ∀ ys : List Int, (insI x ys).Perm (x :: ys)
  | [] => .refl _
  | y :: ys => by
    unfold insI
    split
    · exact .refl _
    · exact ((insI_perm x ys).cons y).trans (List.Perm.swap _ _ _)
theorem sortI_perm : ∀ xs : List Int, (sortI xs).Perm xs
  | [] => .refl _
  | x :: xs => (insI_perm x _).trans ((sortI_perm xs).cons x)
theorem insI_sorted (x : Int) : ∀ ys : List Int, ys.Pairwise (· ≤ ·) → (insI x ys).Pairwise (· ≤ ·)
  | [], _ => by simp [insI]
  | y :: ys, h => by
    unfold insI
    split
    · rename_i hxy
      refine List.Pairwise.cons (fun z hz => ?_) h
      rcases List.mem_cons.mp hz with rfl | hz
      · exact hxy
      · exact Int.le_trans hxy ((List.pairwise_cons.mp h).1 z hz)
    · rename_i hxy
      have h' := List.pairwise_cons.mp h
      refine List.Pairwise.cons (fun z hz => ?_) (insI_sorted x ys h'.2)
      rcases List.mem_cons.mp ((insI_perm x ys).mem_iff.mp hz) with rfl | hz
      · omega
      · exact h'.1 z hz
theorem sortI_sorted : ∀ xs : List Int, (sortI xs).Pairwise (· ≤ ·)
  | [] => .nil
  | x :: xs => insI_sorted x _ (sortI_sorted xs)
theorem sortI_uniq {xs ys : List Int} (p : ys.Perm xs) (s : ys.Pairwise (· ≤ ·)) : ys = sortI xs :=
  List.Perm.eq_of_pairwise (le := fun a b => a ≤ b) (fun a b _ _ h1 h2 => Int.le_antisymm h1 h2) s (sortI_sorted xs) (p.trans (sortI_perm xs).symm)
/-- texts: x not behind y -/
def leS (x y : Str) : Bool := !ltCps y.cps.toList x.cps.toList
theorem ltC_trans : ∀ {a b c : List Nat}, ltCps a b = true → ltCps b c = true → ltCps a c = true
  | [], _ :: _, [], _, h => by simp [ltCps] at h
  | [], _, _ :: _, _, _ => rfl
  | a :: r, b :: t, c :: u, h1, h2 => by
    simp only [ltCps, Bool.or_eq_true, Bool.and_eq_true, decide_eq_true_eq, beq_iff_eq] at *
    rcases h1 with h1 | ⟨h1, k1⟩ <;> rcases h2 with h2 | ⟨h2, k2⟩
    · left; omega
    · left; omega
    · left; omega
    · right; exact ⟨by omega, ltC_trans k1 k2⟩
  | _ :: _, [], _, h, _ => by simp [ltCps] at h
  | [], [], _, h, _ => by simp [ltCps] at h
  | _ :: _, _ :: _, [], _, h => by simp [ltCps] at h
theorem ltC_tri : ∀ a b : List Nat, ltCps a b = false → ltCps b a = false → a = b
  | [], [], _, _ => rfl
  | [], _ :: _, h, _ => by simp [ltCps] at h
  | _ :: _, [], _, h => by simp [ltCps] at h
  | a :: r, b :: t, h1, h2 => by
    simp only [ltCps, Bool.or_eq_false_iff, Bool.and_eq_false_iff, decide_eq_false_iff_not, beq_eq_false_iff_ne] at h1 h2
    have e : a = b := by omega
    subst e
    rw [ltC_tri r t (by simpa using h1.2) (by simpa using h2.2)]
theorem leS_trans {x y z : Str} (h1 : leS x y = true) (h2 : leS y z = true) : leS x z = true := by
  unfold leS at *
  simp only [Bool.not_eq_true'] at *
  cases h : ltCps z.cps.toList x.cps.toList with
  | false => rfl
  | true =>
    cases h3 : ltCps x.cps.toList y.cps.toList with
    | true => rw [ltC_trans h h3] at h2; cases h2
    | false => rw [ltC_tri _ _ h3 h1] at h; rw [h] at h2; cases h2
theorem leS_anti {x y : Str} (h1 : leS x y = true) (h2 : leS y x = true) : x = y := by
  unfold leS at *
  simp only [Bool.not_eq_true'] at *
  have := ltC_tri _ _ h2 h1
  cases x; cases y
  simp at this
  rw [this]
theorem leS_total (x y : Str) : leS x y = false → leS y x = true := by
  unfold leS
  intro h
  simp only [Bool.not_eq_false', Bool.not_eq_true'] at *
  cases h3 : ltCps x.cps.toList y.cps.toList with
  | false => rfl
  | true => have := ltC_trans h h3; have irr : ∀ a, ltCps a a = false := by
              intro a
              induction a with
              | nil => rfl
              | cons b r ih => simp [ltCps, ih]
            rw [irr] at this; cases this
def insS (x : Str) : List Str → List Str
  | [] => [x]
  | y :: ys => if leS x y = true then x :: y :: ys else y :: insS x ys
def sortS : List Str → List Str
  | [] => []
  | x :: xs => insS x (sortS xs)
theorem insS_perm (x : Str) : ∀ ys : List Str, (insS x ys).Perm (x :: ys)
  | [] => .refl _
  | y :: ys => by
    unfold insS
    split
    · exact .refl _
    · exact ((insS_perm x ys).cons y).trans (List.Perm.swap _ _ _)
theorem sortS_perm : ∀ xs : List Str, (sortS xs).Perm xs
  | [] => .refl _
  | x :: xs => (insS_perm x _).trans ((sortS_perm xs).cons x)
theorem insS_sorted (x : Str) : ∀ ys : List Str, ys.Pairwise (leS · · = true) → (insS x ys).Pairwise (leS · · = true)
  | [], _ => by simp [insS]
  | y :: ys, h => by
    unfold insS
    split
    · rename_i hxy
      refine List.Pairwise.cons (fun z hz => ?_) h
      rcases List.mem_cons.mp hz with rfl | hz
      · exact hxy
      · exact leS_trans hxy ((List.pairwise_cons.mp h).1 z hz)
    · rename_i hxy
      have h' := List.pairwise_cons.mp h
      refine List.Pairwise.cons (fun z hz => ?_) (insS_sorted x ys h'.2)
      rcases List.mem_cons.mp ((insS_perm x ys).mem_iff.mp hz) with rfl | hz
      · exact leS_total _ _ (by simpa using hxy)
      · exact h'.1 z hz
theorem sortS_sorted : ∀ xs : List Str, (sortS xs).Pairwise (leS · · = true)
  | [] => .nil
  | x :: xs => insS_sorted x _ (sortS_sorted xs)
theorem sortedS_pw : ∀ {xs : List Str}, sortedS xs = true → xs.Pairwise (leS · · = true) := by
  have go : ∀ (xs : List Str) (p : Str), risingS p xs = true → (∀ x ∈ xs, leS p x = true) ∧ xs.Pairwise (leS · · = true) := by
    intro xs
    induction xs with
    | nil => intro p _; exact ⟨fun x hx => by simp at hx, .nil⟩
    | cons x xs ih =>
      intro p h
      simp only [risingS, Bool.and_eq_true] at h
      obtain ⟨h1, h2⟩ := ih x h.2
      refine ⟨fun y hy => ?_, .cons h1 h2⟩
      rcases List.mem_cons.mp hy with rfl | hy
      · exact h.1
      · exact leS_trans h.1 (h1 y hy)
  intro xs h
  cases xs with
  | nil => exact .nil
  | cons x xs => obtain ⟨h1, h2⟩ := go xs x h; exact .cons h1 h2
theorem sortS_uniq {xs ys : List Str} (p : ys.Perm xs) (s : sortedS ys = true) : ys = sortS xs :=
  List.Perm.eq_of_pairwise (le := fun a b => leS a b = true) (fun a b _ _ h1 h2 => leS_anti h1 h2) (sortedS_pw s) (sortS_sorted xs) (p.trans (sortS_perm xs).symm)
def strsD : List D → Option (List Str)
  | [] => some []
  | .str i :: xs => (strsD xs).map (i :: ·)
  | _ => none
theorem strsD_rep {F : Hp} : ∀ {ds : List D} {vs : List V} {ns : List Str}, RepL C F vs ds → strsD ds = some ns → vs = ns.map V.str
  | [], vs, ns, r, e => by cases r; cases e; rfl
  | d :: ds, vs, ns, r, e => by
    cases d <;> simp only [strsD] at e <;> try (cases e; done)
    rename_i x
    cases q : strsD ds with
    | none => rw [q] at e; cases e
    | some b =>
      rw [q] at e
      cases e
      cases r with
      | cons a b => cases a; rw [strsD_rep b q]; rfl
theorem repL_ints {F : Hp} (ns : List Int) : RepL C F (ns.map V.int) (ns.map D.int) := by
  induction ns with
  | nil => exact .nil
  | cons n ns ih => exact .cons (.int n) ih
theorem repL_strs {F : Hp} (ns : List Str) : RepL C F (ns.map V.str) (ns.map D.str) := by
  induction ns with
  | nil => exact .nil
  | cons n ns ih => exact .cons (.str n) ih
def sortID : D → Option D
  | .lst xs => (intsD xs).map fun ns => .lst ((sortI ns).map D.int)
  | _ => none
def sortSD : D → Option D
  | .lst xs => (strsD xs).bind fun ns => if ns.length < 64 then some (.lst ((sortS ns).map D.str)) else none
  | _ => none
section
variable {X : Cx} {W : WX} {R : Rt} {G : List O} {e a o : Expr} {es : List Expr} {pos p : Pos}
theorem call_sortI_D (hK : X.K = C.K) : CallR X (.builtin "sorted") (rON C (g1 sortID) (.c .z)) :=
  cr1 cr_sortedI fun F P Lk L H x dx dz Q S R e q => by
    unfold sortID at e
    split at e
    · rename_i xs
      cases hn : intsD xs with
      | none => rw [hn] at e; cases e
      | some ns =>
        rw [hn] at e
        cases e
        cases R with
        | lst h r =>
          have ez := intsD_rep r hn
          subst ez
          refine ⟨_, ns, rfl, .inl (S.rdL h), fun ns' p hp hs hf => ?_⟩
          rw [sortI_uniq hp hs]
          exact q _ F _ (Ext.refl F) (SttH.closeL ((Stt.hole S hf).zcell (repL_ints _)) (by simp))
    · cases e
theorem call_sortS_D (hK : X.K = C.K) : CallR X (.builtin "sorted") (rON C (g1 sortSD) (.c .z)) :=
  cr1 cr_sortedS fun F P Lk L H x dx dz Q S R e q => by
    unfold sortSD at e
    split at e
    · rename_i xs
      cases hn : strsD xs with
      | none => rw [hn] at e; cases e
      | some ns =>
        rw [hn] at e
        have e : (if ns.length < 64 then some (D.lst ((sortS ns).map D.str)) else none) = some dz := e
        split at e
        · rename_i h64
          cases e
          cases R with
          | lst h r =>
            have ez := strsD_rep r hn
            subst ez
            refine ⟨_, ns, rfl, .inl (S.rdL h), h64, fun ns' p hp hs hf => ?_⟩
            rw [sortS_uniq hp hs]
            exact q _ F _ (Ext.refl F) (SttH.closeL ((Stt.hole S hf).zcell (repL_strs _)) (by simp))
        · cases e
    · cases e
/-! ### repr of a truth value -/
def reprBD : D → Option D
  | .bl b => some (.str (if b then "True" else "False"))
  | _ => none
theorem call_reprB : CallR X (.builtin "repr") (fun xs H Q => ∃ b, xs = [.bl b] ∧ Q (.str (if b then "True" else "False")) H) := by
  intro pins s σ H xs us Q I r h
  obtain ⟨b, rfl, q⟩ := h
  obtain ⟨u, rfl, rx⟩ := vals1 r
  cases rx
  exact PySem.P.repr_of_bool ⟨.str _, H, I.tok _, ⟨_, rfl⟩, q⟩
theorem call_reprB_D : CallR X (.builtin "repr") (rON C (g1 reprBD) .z) :=
  cr1 call_reprB fun F P Lk L H x dx dz Q S R e q => by
    unfold reprBD at e
    split at e
    · cases e
      cases R
      exact ⟨_, rfl, q _ F H (Ext.refl F) (S.zcons (.str _))⟩
    · cases e
/-! ### *e in a display or a call -/
def itemsD : D → Option (List D)
  | .lst xs => some xs
  | .tup xs => some xs
  | .ktup xs => some xs
  | _ => none
def aStar (f : SE) (k : SA) : SA := fun r => (f r).bind fun d r1 => match itemsD d with
  | some xs => (k r1).bind fun ds r2 => .ok (xs ++ ds) r2
  | none => .stk
theorem da_star {f : SE} {k : SA} {p : Pos} (hK : X.K = C.K) (ha : PE X e (tD C W G f .z)) (hr : PA X es (tDA C W G k)) (hs : starEach (.Starred e p :: es) X.env = (true, eval e X.env) :: starEach es X.env := by rfl) : PA X (.Starred e p :: es) (tDA C W G (aStar f k)) := by
  refine PA_weak (StX.pa_star ha hr hs) fun σ H Q q => ?_
  obtain ⟨F, P, Lk, r, E, q⟩ := q
  refine ⟨F, P, Lk, r, E, (RD.bind q).mono fun d r1 q1 v F1 H1 x1 E0 => ?_⟩
  obtain ⟨R1, E1⟩ := E0.rep
  clear E0
  obtain ⟨L, e0, S0⟩ := id E1
  have fin : ∀ (a : Addr) (vs : List V) (xs : List D), v = .ref a → (SqT X.K H1 a vs ∨ SqL X.K H1 a vs) → RepL C F1 vs xs → itemsD d = some xs → ∃ p xs, v = V.ref p ∧ (SqT X.K H1 p xs ∨ SqL X.K H1 p xs) ∧ tDA C W G k σ H1 fun ys H2 => Q (xs ++ ys) H2 := fun a vs xs e1 e2 e3 e4 => by
    rw [e4] at q1
    refine ⟨a, vs, e1, e2, F1, P, Lk, r1, E1, (RD.bind ((show RD C W F P Lk σ ((k r1).bind fun ds r2 => .ok (xs ++ ds) r2) _ from q1).ext x1 (Ext.refl P))).mono fun ds r2 q2 ys F2 H2 x2 R2 E2 => ?_⟩
    exact q2 _ F2 H2 (x1.trans x2) ((e3.mono x2).append R2) E2
  cases R1 with
  | lst h r => exact fin _ _ _ rfl (.inr (.inl (S0.rdL h))) r rfl
  | tup h r => exact fin _ _ _ rfl (.inl (SqT.of (S0.tup h))) r rfl
  | ktup h r => exact fin _ _ _ rfl (.inl (by rw [hK]; exact sqT_k h)) r rfl
  | _ => exact q1.elim
end
end DL
set_option Elab.async false
set_option linter.all false
set_option autoImplicit false
set_option maxRecDepth 100000
set_option maxHeartbeats 1000000
/-! the data layer, part 15: calls by name -/
namespace DL
open PySem PySem.Spec PyProof.Rows L2
variable {C : Cfg}
/-- positional ones first, then the parameters by their places among the keywords -/
def kwG {α : Type} (nu : Nat) (perm : List Nat) (us ws : List α) : List α := if us.length = nu ∧ ws.length = perm.length then us ++ perm.filterMap (ws[·]?) else []
theorem kwG_vals {nu : Nat} {perm : List Nat} {vs zs : List V} {us ws : List Value} (r : Vals vs us) (r2 : Vals zs ws) : Vals (kwG nu perm vs zs) (kwG nu perm us ws) := by
  unfold kwG
  rw [r.length, r2.length]
  split
  · refine r.append ?_
    have go : ∀ perm : List Nat, Vals (perm.filterMap (zs[·]?)) (perm.filterMap (ws[·]?)) := by
      intro perm
      induction perm with
      | nil => exact .nil
      | cons i perm ih =>
        cases hi : zs[i]? with
        | none =>
          have : ws[i]? = none := by
            rw [List.getElem?_eq_none_iff] at hi ⊢
            rw [← r2.length]; exact hi
          simp only [List.filterMap_cons, hi, this]
          exact ih
        | some v =>
          obtain ⟨u, hu, ru⟩ := r2.get hi
          simp only [List.filterMap_cons, hi, hu]
          exact .cons ru ih
    exact go perm
  · exact .nil
theorem kwG_rep {F : Hp} {nu : Nat} {perm : List Nat} {vs zs : List V} {us ws : List D} (r : RepL C F vs us) (r2 : RepL C F zs ws) : RepL C F (kwG nu perm vs zs) (kwG nu perm us ws) := by
  unfold kwG
  rw [r.length, r2.length]
  split
  · refine r.append ?_
    have go : ∀ perm : List Nat, RepL C F (perm.filterMap (zs[·]?)) (perm.filterMap (ws[·]?)) := by
      intro perm
      induction perm with
      | nil => exact .nil
      | cons i perm ih =>
        cases hi : zs[i]? with
        | none =>
          have : ws[i]? = none := by
            rw [List.getElem?_eq_none_iff] at hi ⊢
            rw [← r2.length]; exact hi
          simp only [List.filterMap_cons, hi, this]
          exact ih
        | some v =>
          obtain ⟨u, hu, ru⟩ := r2.get' hi
          simp only [List.filterMap_cons, hi, hu]
          exact .cons ru ih
    exact go perm
  · exact .nil
theorem kb_of {K : PySem.W.Frag} {fd : FuncData} {ps ks : List Str} {nu : Nat} {perm : List Nat} (hp : ps ≠ []) (h : ∀ (us ws : List Value), us.length = nu → ws.length = perm.length → bindArgs fd ⟨us, ks.zip ws⟩ = pure (ps.zip (kwG nu perm us ws))) : KBinds K fd ps ks (kwG nu perm) (kwG nu perm) where
  to := fun s us ws _ hl => by
    by_cases q : us.length = nu ∧ ws.length = perm.length
    · exact .of_eq (h us ws q.1 q.2)
    · unfold kwG at hl
      rw [if_neg q] at hl
      exact absurd (List.length_eq_zero_iff.mp hl.symm) hp
  rel := fun r r2 => kwG_vals r r2
def eCallK (n : Nat) (mir : List D → Out) (nu : Nat) (perm : List Nat) (k kk : SA) : SE := fun r => (k r).bind fun us r1 => (kk r1).bind fun ws r2 => mirN n mir (kwG nu perm us ws) r2
section
variable {X : Cx} {W : WX} {G : List O} {e : Expr} {es : List Expr} {kws : List Keyword} {pos p kpos : Pos} {nm : Option Str}
theorem PK_weak {t t' : TA} (h : PK X kws t) (k : ∀ σ H Q, t' σ H Q → t σ H Q) : PK X kws t' := ⟨fun pos pins s σ H Q I h' => h.run pos pins s σ H Q I (k _ _ _ h')⟩
theorem dk_nil : PK X [] (tDA C W G aNil) := by
  refine PK_weak pk_nil fun σ H Q q => ?_
  obtain ⟨F, P, Lk, r, E, q⟩ := q
  exact q [] F H (Ext.refl F) .nil E
theorem dk_cons {f : SE} {k : SA} (ha : PE X e (tD C W G f .z)) (hr : PK X kws (tDA C W G k)) : PK X (⟨nm, e, kpos⟩ :: kws) (tDA C W G (aCons f k)) := by
  refine PK_weak (pk_cons ha hr) fun σ H Q q => ?_
  obtain ⟨F, P, Lk, r, E, q⟩ := q
  refine ⟨F, P, Lk, r, E, (RD.bind q).mono fun dx r1 q1 x F1 H1 x1 E0 => ?_⟩
  obtain ⟨R1, E1⟩ := E0.rep
  clear E0
  refine ⟨F1, P, Lk, r1, E1, (RD.bind (q1.ext x1 (Ext.refl P))).mono fun dy r2 q2 y F2 H2 x2 R2 E2 => ?_⟩
  exact q2 _ F2 H2 (x1.trans x2) (.cons (R1.mono x2) R2) E2
variable {n k kk nu : Nat} {perm : List Nat} {S : Sig} {mir : List D → Out} {ka kw : SA} {E : XK} {f : Addr} {fd : FuncData} {ps ks : List Str} {x : Str}
theorem callK_hyp {t tk : TA} (hW : W = fun c d _ H => E c d H) (hz : S.Gi = List.replicate n O.z) (h1 : ∀ σ H Q, tDA C W G ka σ H Q → t σ H Q) (h2 : ∀ σ H Q, tDA C W G kw σ H Q → tk σ H Q) {σ : L2.St} {H : Hp} {Q : VK} (q : tD C W G (eCallK n mir nu perm ka kw) S.o σ H Q) :
    tCallK (spD C S mir) (kwG nu perm) E t tk σ H Q := by
  obtain ⟨F, P, Lk, r, En, q⟩ := q
  refine h1 _ _ _ ⟨F, P, Lk, r, En, (RD.bind q).mono fun us r1 q1 vs F1 H1 x1 R1 E1 => h2 _ _ _ ⟨F1, P, Lk, r1, E1, (RD.bind (q1.ext x1 (Ext.refl P))).mono fun ws r2 q2 zs F2 H2 x2 R2 E2 => ?_⟩⟩
  exact spN hW E2 (kwG_rep (R1.mono x2) R2) hz ((q2.ext x2 (Ext.refl P)).mono fun d r' q3 v F' H' x' E' => q3 v F' H' ((x1.trans x2).trans x') E')
theorem de_callK (hW : W = fun c d _ H => E c d H) (tk : Takes X W) (hz : S.Gi = List.replicate n O.z) (Fn : FnOk X.prog X.w X.K X.mg X.base (L2.CX X.prog X.w) k f fd ps (spD C S mir)) (hr : Room kk X.A) (hj : k ≤ kk) (hg : Gl X x) (hm : X.mg x = some (.ref f)) (hk : PySem.W.keepIn X.K (.ref f) = true) (hb : KBinds X.K fd ps ks (kwG nu perm) (kwG nu perm))
    (ha : PA X (e :: es) (tDA C W G ka)) (hkw : PK X kws (tDA C W G kw)) (hall : (backToKw pos (keywordEach kws X.env)).all (·.1.isSome) = true := by rfl) (hks : (backToKw pos (keywordEach kws X.env)).filterMap (·.1) = ks := by rfl)
    (hdb : (x == ("__debug__" : Str)) = false := by decide) (he : starEach (e :: es) X.env = (false, eval e X.env) :: starEach es X.env := by rfl)
    (hpl : ((backTo pos (starEach (e :: es) X.env)).any (·.1) || (backToKw pos (keywordEach kws X.env)).any (·.1.isNone)) = false := by rfl) :
    PE X (.Call (.Name x p) (e :: es) kws pos) (tD C W G (eCallK n mir nu perm ka kw) S.o) := by
  have hx := passes_call (X := X) (E := E) (W := W) tk fun c d σ H h => by rw [hW]; exact h
  exact PE_weak (pe_callK Fn (hr.mono hj) hg hm hk hb hx ha hkw hall hks hdb he hpl) fun σ H Q q => callK_hyp hW hz (fun _ _ _ h => h) (fun _ _ _ h => h) q
/-- by names alone -/
theorem pe_callK0 {CX : CXT} {sp : Sp} {g : List Value → List Value → List Value} {gV : List V → List V → List V} {tk : TA} (F : FnOk X.prog X.w X.K X.mg X.base CX k f fd ps sp) (hr : Room k X.A) (hg : Gl X x) (hm : X.mg x = some (.ref f)) (hk : PySem.W.keepIn X.K (.ref f) = true) (hb : KBinds X.K fd ps ks g gV) (hx : Passes CX X E)
    (hkw : PK X kws tk) (hall : (backToKw pos (keywordEach kws X.env)).all (·.1.isSome) = true := by rfl) (hks : (backToKw pos (keywordEach kws X.env)).filterMap (·.1) = ks := by rfl)
    (hdb : (x == ("__debug__" : Str)) = false := by decide) (hpl : ((backTo pos (starEach [] X.env)).any (·.1) || (backToKw pos (keywordEach kws X.env)).any (·.1.isNone)) = false := by rfl) :
    PE X (.Call (.Name x p) [] kws pos) (tCallK sp gV E tNil tk) := by
  refine ⟨fun pins s σ H Q I h => wpAny_Call_Name_kw (ld_glob I hg hm (PySem.W.callWith_KW0 (h₀ := X.base) I.ok.mod.kin hk hall (thn (hkw.run pos pins s σ H _ I h) fun ws s2 ⟨zs, H2, I2, rz, q2⟩ => ⟨I2.kIn, ?_⟩) hpl) hdb)⟩
  rw [hks]
  exact run_fnk (us := []) F hr hb hx I2 .nil rz q2
theorem de_callK0 (hW : W = fun c d _ H => E c d H) (tk : Takes X W) (hz : S.Gi = List.replicate n O.z) (Fn : FnOk X.prog X.w X.K X.mg X.base (L2.CX X.prog X.w) k f fd ps (spD C S mir)) (hr : Room kk X.A) (hj : k ≤ kk) (hg : Gl X x) (hm : X.mg x = some (.ref f)) (hk : PySem.W.keepIn X.K (.ref f) = true) (hb : KBinds X.K fd ps ks (kwG nu perm) (kwG nu perm))
    (hkw : PK X kws (tDA C W G kw)) (hall : (backToKw pos (keywordEach kws X.env)).all (·.1.isSome) = true := by rfl) (hks : (backToKw pos (keywordEach kws X.env)).filterMap (·.1) = ks := by rfl)
    (hdb : (x == ("__debug__" : Str)) = false := by decide) (hpl : ((backTo pos (starEach [] X.env)).any (·.1) || (backToKw pos (keywordEach kws X.env)).any (·.1.isNone)) = false := by rfl) :
    PE X (.Call (.Name x p) [] kws pos) (tD C W G (eCallK n mir nu perm aNil kw) S.o) := by
  have hx := passes_call (X := X) (E := E) (W := W) tk fun c d σ H h => by rw [hW]; exact h
  refine PE_weak (pe_callK0 Fn (hr.mono hj) hg hm hk hb hx hkw hall hks hdb hpl) fun σ H Q q => callK_hyp hW hz (fun σ H Q h => ?_) (fun _ _ _ h => h) q
  obtain ⟨F, P, Lk, r, E0, h⟩ := h
  exact h [] F H (Ext.refl F) .nil E0
end
end DL
set_option Elab.async false
set_option linter.all false
set_option autoImplicit false
set_option maxRecDepth 100000
set_option maxHeartbeats 1000000
/-! the data layer, part 16: what the printed walks lean on -/
namespace DL
open PySem PySem.Spec PyProof.Rows L2
variable {C : Cfg}
def mulI (a b : D) : Option D := match a, b with
  | .int i, .int j => if (-(2 ^ 64) < i ∧ i < 2 ^ 64) ∨ (-(2 ^ 64) < j ∧ j < 2 ^ 64) then some (.int (i * j)) else none
  | _, _ => none
theorem op_mulI {X : Cx} : OpR X (binaryOp .Mult) (rO2 C mulI .z) := op_mul_D
def negD : D → Option D
  | .int i => some (.int (-i))
  | _ => none
theorem un_negD {X : Cx} : UnR X (unaryOp .USub) (rO1 C negD .z) := by
  intro pins s σ H x v Q I rx ⟨F, P, Lk, L, dx, dz, S, hx, e, k⟩
  unfold negD at e
  split at e
  · cases e
    exact un_neg pins s σ H x v Q I rx ⟨_, rep_int hx, k _ F H (Ext.refl F) (S.zcons (.int _))⟩
  · cases e
def repLD : D → D → Option D
  | .lst xs, .int k => if -(2 ^ 63) ≤ k ∧ k < 2 ^ 63 ∧ xs.length * k.toNat ≤ sizeLine then some (.lst (List.replicate k.toNat xs).flatten) else none
  | _, _ => none
def eRep (f h : SE) : SE := e2 repLD f h
theorem RepL.reps {F : Hp} {vs : List V} {ds : List D} (r : RepL C F vs ds) : ∀ n, RepL C F (List.replicate n vs).flatten (List.replicate n ds).flatten
  | 0 => .nil
  | n + 1 => by
    rw [List.replicate_succ, List.replicate_succ, List.flatten_cons, List.flatten_cons]
    exact r.append (RepL.reps r n)
section
variable {X : Cx} {W : WX} {R : Rt} {G : List O} {a b e : Expr} {es : List Expr} {pos : Pos}
theorem de_rep {f h : SE} (ha : PE X a (tD C W G f (.c .z))) (hb : PE X b (tD C W G h .z)) : PE X (.BinOp a .Mult b pos) (tD C W G (eRep f h) (.c .z)) := by
  refine PE_weak (pe_op op_rep ha hb) fun σ H Q q => ?_
  obtain ⟨F, P, Lk, r, E, q⟩ := q
  refine ⟨F, P, Lk, r, E, (RD.bind q).mono fun dx r1 q1 x F1 H1 x1 E1 => ?_⟩
  obtain ⟨P', E1', eP, unp⟩ := E1.park
  refine ⟨F1, P', Lk, r1, E1', (RD.bind (q1.ext x1 eP)).mono fun dy r2 q2 y F2 H2 x2 E2 => ?_⟩
  obtain ⟨dz, e3, q3⟩ := RD_opt q2
  obtain ⟨R2, E2⟩ := E2.rep
  have E3 := unp F2 H2 Lk [] G r2 σ x2 E2
  obtain ⟨L, e0, S0⟩ := E3
  have S0 : Stt C F2 P Lk ((.c .z, x, dx) :: L) H2 := S0
  unfold repLD at e3
  split at e3
  · split at e3
    · rename_i hz
      cases e3
      cases R2
      obtain ⟨l, vs, rfl, h1, ln, S1⟩ := Stt.openL S0
      obtain ⟨rr, S2⟩ := S1.unz ln
      refine ⟨l, _, vs, rfl, rfl, h1, hz.1, hz.2.1, by rw [ln]; exact hz.2.2, fun p hp => ?_⟩
      have hpl : p ≠ l := fun z => by rw [z, h1] at hp; cases hp
      have S3 : Stt C F2 P Lk L H2 := by
        obtain ⟨fp, ow, n, d⟩ := S2.ow
        have sub : fp.Sublist ([l] ++ fp) := List.sublist_append_right [l] fp
        exact ⟨S2.le, S2.pe, S2.dj, S2.ld, fp, ow, n.sublist sub, fun a ha => d a (sub.subset ha)⟩
      refine q3 _ F2 _ (x1.trans x2) ⟨L, e0, SttH.closeL ((Stt.hole S3 hp).zcell (rr.reps _)) ?_⟩
      have := (rr.reps (List.length (List.replicate 0 ()))).length
      exact (rr.reps _).length
    · cases e3
  · cases e3
end
theorem hu1 {k : Nat} {A : Around} (h : Room k A) : A.units + 1 < cLine := by have := h.un; omega
theorem hu0 {k : Nat} {A : Around} (h : Room k A) : A.units < cLine := by have := h.un; omega
theorem hu64 {k : Nat} {A : Around} (h : Room k A) : A.units + 64 < cLine := by have := h.un; omega
theorem hu65 {k : Nat} {A : Around} (h : Room k A) : A.units + 65 < cLine := by have := h.un; omega
theorem takesW0 {X : Cx} : Takes X W0 := fun u s' ⟨a, B, sI, pins, σ, H, cls, d, e, I, nb, up, sky, na, os, ag, w⟩ => w.elim
def nE : XK := fun _ _ _ => False
theorem wkE {E : XK} {pm : List Nat} : WK (fun c d _ H => E c d H) pm := fun _ _ _ _ _ _ h => h
theorem wk0 {pm : List Nat} : WK W0 pm := fun _ _ _ _ _ _ h => h
theorem bt_abs : bootBuiltins "abs" = some (.builtin "abs") := by decide +kernel
theorem bt_max : bootBuiltins "max" = some (.builtin "max") := by decide +kernel
theorem bt_min : bootBuiltins "min" = some (.builtin "min") := by decide +kernel
theorem bt_all : bootBuiltins "all" = some (.builtin "all") := by decide +kernel
theorem bt_any : bootBuiltins "any" = some (.builtin "any") := by decide +kernel
theorem bt_sum : bootBuiltins "sum" = some (.builtin "sum") := by decide +kernel
theorem bt_divmod : bootBuiltins "divmod" = some (.builtin "divmod") := by decide +kernel
theorem bt_sorted : bootBuiltins "sorted" = some (.builtin "sorted") := by decide +kernel
theorem bt_repr : bootBuiltins "repr" = some (.builtin "repr") := by decide +kernel
theorem bt_isinstance : bootBuiltins "isinstance" = some (.builtin "isinstance") := by decide +kernel
theorem bt_list : bootBuiltins "list" = some (.type "list") := by decide +kernel
theorem bt_tuple : bootBuiltins "tuple" = some (.type "tuple") := by decide +kernel
theorem bt_int : bootBuiltins "int" = some (.type "int") := by decide +kernel
theorem bt_str : bootBuiltins "str" = some (.type "str") := by decide +kernel
theorem bt_bool : bootBuiltins "bool" = some (.type "bool") := by decide +kernel
theorem bt_dict : bootBuiltins "dict" = some (.type "dict") := by decide +kernel
theorem takes0n {X : Cx} : Takes X (fun _ _ _ _ => False) := takesW0
theorem sub6 {K : PySem.W.Frag} {a : Addr} (h1 : PySem.W.subIn K (.type "NoneType") (.ref a) = some false) (h2 : PySem.W.subIn K (.type "bool") (.ref a) = some false) (h3 : PySem.W.subIn K (.type "int") (.ref a) = some false) (h4 : PySem.W.subIn K (.type "str") (.ref a) = some false) (h5 : PySem.W.subIn K (.type "list") (.ref a) = some false) (h6 : PySem.W.subIn K (.type "tuple") (.ref a) = some false) :
    ∀ T, isTyN T = true → PySem.W.subIn K (.type T) (.ref a) = some false := by
  intro T h
  unfold isTyN at h
  simp only [Bool.or_eq_true, beq_iff_eq] at h
  rcases h with ((((rfl | rfl) | rfl) | rfl) | rfl) | rfl <;> assumption
theorem kit6 {K : PySem.W.Frag} {a : Addr} (h1 : PySem.W.kitOne K (.type "NoneType") (.ref a) = some false) (h2 : PySem.W.kitOne K (.type "bool") (.ref a) = some false) (h3 : PySem.W.kitOne K (.type "int") (.ref a) = some false) (h4 : PySem.W.kitOne K (.type "str") (.ref a) = some false) (h5 : PySem.W.kitOne K (.type "list") (.ref a) = some false) (h6 : PySem.W.kitOne K (.type "tuple") (.ref a) = some false) :
    ∀ T, isTyN T = true → PySem.W.kitOne K (.type T) (.ref a) = some false := by
  intro T h
  unfold isTyN at h
  simp only [Bool.or_eq_true, beq_iff_eq] at h
  rcases h with ((((rfl | rfl) | rfl) | rfl) | rfl) | rfl <;> assumption
theorem kitC {K : PySem.W.Frag} {a : Addr} {T : String} (hd : PySem.W.hasDictIn K a = true) (ht : PySem.W.typeIn K (.ref a) = some (.type "type")) (hs : PySem.W.subIn K (.type T) (.ref a) = some false) : PySem.W.kitOne K (.type T) (.ref a) = some false := by
  obtain ⟨cd, hc, _⟩ := PySem.W.any_some hd
  have e : (Value.type T == Value.ref a) = false := by
    cases hq : (Value.type T == Value.ref a) with
    | false => rfl
    | true => cases beq_iff_eq.mp hq
  unfold PySem.W.kitOne
  rw [e, if_neg Bool.false_ne_true]
  unfold PySem.W.kitCls
  dsimp only
  rw [hc, ht, if_pos (by simp), hs]
/-! ### the law's own promise -/
def spLaw (K : PySem.W.Frag) : Sp := fun vs H Q _ => ∃ (a : Addr) (ns : List Int), vs = [.ref a] ∧ SqL K H a (ns.map V.int) ∧ ns.length ≤ 63 ∧ (∀ z ∈ ns, Builtin.Int.intBits z ≤ 1048576) ∧ ∀ H', Q (.bl true) H'
/-- the script, as data -/
def isScript (d : D) (ns : List Int) : Prop := d = .lst (ns.map .int) ∨ d = .klst (ns.map .int)
theorem law_sp {K : PySem.W.Frag} (hK : C.K = K) {mir : List D → Out} (hm : ∀ d ns, isScript d ns → ns.length ≤ 63 → (∀ z ∈ ns, Builtin.Int.intBits z ≤ 1048576) → ∃ ds, mir [d] = .ok (.bl true) ds) {vs : List V} {H : Hp} {Q : VK} {E : XK} (h : spLaw K vs H Q E) : spD C ⟨[.z], [false], .z⟩ mir vs H Q E := by
  obtain ⟨a, ns, rfl, hS, hl, hb, q⟩ := h
  subst hK
  have S : Stt C H (fun _ => none) (fun _ => none) [] H := ⟨fun _ _ e => e, (fun _ _ e => by cases e), (fun _ _ e => by cases e), fun a ha => absurd rfl ha, [], rfl, List.nodup_nil, fun a ha => by simp at ha⟩
  have go : ∀ d, isScript d ns → Rep C H (.ref a) d → spD C ⟨[.z], [false], .z⟩ mir [.ref a] H Q E := fun d hd R => by
    obtain ⟨ds, e⟩ := hm d ns hd hl hb
    refine ⟨rfl, H, fun _ => none, fun _ => none, [d], [(.z, .ref a, d)], .have .nil, S.zcons R, ?_⟩
    rw [e]
    rintro v F' H' x' ⟨L', e', s'⟩
    cases s'.rep
    exact q H'
  rcases hS with (h | ⟨o, h⟩) | h
  · exact go _ (.inl rfl) (.lst (.inl h) (repL_ints ns))
  · exact go _ (.inl rfl) (.lst (.inr ⟨o, h⟩) (repL_ints ns))
  · exact go _ (.inr rfl) (.klst (.inr h) (repL_ints ns))
theorem cx_no {P : Program} {w : World} {H : Hp} {s : Shared} {e : Value} {s' : Shared} (h : L2.CX P w [] H s (fun _ _ _ => False) e s') : False := by
  obtain ⟨a, B, H', cls, d, rfl, fl, hok, ub, na, os, ag, hE⟩ := h
  exact hE
end DL
set_option Elab.async false
set_option linter.all false
set_option autoImplicit false
/-! the data layer: an owned name as an argument, used again by a later argument -/
namespace DL
open PySem PySem.Spec PyProof.Rows L2
/-- a local name that is handed over once the later arguments are worked out -/
def mLt (i : Nat) (k : SA) : SA := fun r => match r[i]? with
  | some (some _) => (k r).bind fun ds r' => match r'[i]? with
    | some (some d) => .ok (d :: ds) (r'.set i none)
    | _ => .stk
  | _ => .stk
section
variable {X : Cx} {W : WX} {C : Cfg} {G : List O} {e : Expr} {es : List Expr} {pos : Pos}
theorem dm_lt {i : Nat} {x : Str} {p : Pos} {k : SA} {mv : List (Option Nat)} {os : List O} {o : O} (hG : G[i]? = some o) (hN : X.N[i]? = some x) (hv : Vis X.env.scope x) (hr : PA X es (tDM C W G k mv os))
    (hd : (x == ("__debug__" : Str)) = false := by decide) (hcd : (x == ("__classdict__" : Str)) = false := by decide) (hs : starEach (.Name x p :: es) X.env = (false, eval (.Name x p) X.env) :: starEach es X.env := by rfl) :
    PA X (.Name x p :: es) (tDM C W G (mLt i k) (some i :: mv) (o :: os)) := by
  refine PA_weak (pa_cons (pe_var hN hv hd hcd) hr hs) fun σ H Q q => ?_
  obtain ⟨F, P, Lk, r, E, q⟩ := q
  unfold mLt at q
  split at q
  · rename_i d hd
    obtain ⟨v, h1, E1⟩ := E.take hd hG
    refine ⟨v, h1, F, P, Lk, r, E, (RD.bind q).mono fun ds r2 q2 vs F2 H2 La x2 R2 E2 mv2 => ?_⟩
    split at q2
    · rename_i d2 hd2
      obtain ⟨v2, h2, E3⟩ := E2.take hd2 hG
      have ev : v2 = v := by
        rw [h1] at h2
        exact (Option.some.inj (Option.some.inj h2)).symm
      subst ev
      refine q2 (v2 :: vs) F2 H2 ((o, v2, d2) :: La) x2 (.have R2) E3 fun j i' h => ?_
      cases j with
      | zero =>
        simp at h
        subst h
        exact ⟨v2, rfl, h1, List.getElem?_set_self (List.getElem?_eq_some_iff.mp hd2).1⟩
      | succ j =>
        obtain ⟨w, h3, h4, h5⟩ := mv2 j i' (by simpa using h)
        refine ⟨w, by simpa using h3, h4, ?_⟩
        by_cases hj : i' = i
        · subst hj
          exact List.getElem?_set_self (List.getElem?_eq_some_iff.mp hd2).1
        · rw [List.getElem?_set_ne (Ne.symm hj)]
          exact h5
    · exact q2.elim
  · exact q.elim
end
end DL
set_option Elab.async false
set_option linter.all false
set_option autoImplicit false
/-! the data layer: the printed mirrors are worked out by simp -/
namespace DL
open PySem PySem.Spec PyProof.Rows L2
/-- an equation that simp must carry as a proof -/
theorem nrfl {α : Sort _} {a b : α} (h : a = b) : a = b := h
/-- what is left of a body's end -/
def outF (ft : Bool) (m : List Bool) : Fl → Out
  | .nx r => if ft = true then .ok .non (maskE m r) else .stk
  | .rt d r => .ok d (maskE m r)
  | .exc c fs => .exc c fs
  | .stk => .stk
theorem mkF_ap (ft : Bool) (n : Nat) (m : List Bool) (f : SS) (ds : List D) : mkF ft n m f ds = outF ft m (f (ds.map some ++ List.replicate n none)) := nrfl rfl
@[simp] theorem outF_rt (ft : Bool) (m : List Bool) (d : D) (r : DL.Env) : outF ft m (.rt d r) = .ok d (maskE m r) := nrfl rfl
@[simp] theorem outF_nx (ft : Bool) (m : List Bool) (r : DL.Env) : outF ft m (.nx r) = if ft = true then .ok .non (maskE m r) else .stk := nrfl rfl
section
variable {α β : Type} {r : DL.Env} {i : Nat} {d : D} {f h : SE} {t u : ST} {k : SA} {s s' : SS}
@[simp] theorem bind_ok (a : α) (g : α → DL.Env → Res β) : (Res.ok a r).bind g = g a r := nrfl rfl
@[simp] theorem bind_stk (g : α → DL.Env → Res β) : (Res.stk : Res α).bind g = .stk := nrfl rfl
@[simp] theorem bndN_ok (a : α) (g : α → DL.Env → Res β) : bndN (Res.ok a r) g = g a r := nrfl rfl
@[simp] theorem fl_ok (a : α) (g : α → DL.Env → Fl) : (Res.ok a r).fl g = g a r := nrfl rfl
@[simp] theorem seq_nx (g : DL.Env → Fl) : (Fl.nx r).seq g = g r := nrfl rfl
@[simp] theorem seq_rt (g : DL.Env → Fl) : (Fl.rt d r).seq g = .rt d r := nrfl rfl
@[simp] theorem opt_some (a : α) : opt (some a) r = .ok a r := nrfl rfl
@[simp] theorem opt_none : opt (none : Option α) r = .stk := nrfl rfl
@[simp] theorem eVar_ap : eVar i r = match r[i]? with
  | some (some d) => .ok d r
  | _ => .stk := nrfl rfl
@[simp] theorem eMv_ap : eMv i r = match r[i]? with
  | some (some d) => .ok d (r.set i none)
  | _ => .stk := nrfl rfl
@[simp] theorem eC_ap : eC d r = .ok d r := nrfl rfl
@[simp] theorem e1_ap (g : D → Option D) : e1 g f r = (f r).bind fun x r1 => opt (g x) r1 := nrfl rfl
@[simp] theorem e2_ap (g : D → D → Option D) : e2 g f h r = (f r).bind fun x r1 => (h r1).bind fun y r2 => opt (g x y) r2 := nrfl rfl
@[simp] theorem eIf_ap : eIf t f h r = (t r).bind fun b r1 => if b = true then f r1 else h r1 := nrfl rfl
@[simp] theorem aNil_ap : aNil r = .ok [] r := nrfl rfl
@[simp] theorem aCons_ap : aCons f k r = (f r).bind fun x r1 => (k r1).bind fun xs r2 => .ok (x :: xs) r2 := nrfl rfl
@[simp] theorem eA_ap (g : List D → Option D) : eA g k r = (k r).bind fun xs r1 => opt (g xs) r1 := nrfl rfl
@[simp] theorem tE_ap : tE f r = (f r).bind fun d r1 => opt (truth d) r1 := nrfl rfl
@[simp] theorem tAnd_ap : tAnd t u r = (t r).bind fun b r1 => if b = true then u r1 else .ok false r1 := nrfl rfl
@[simp] theorem tOr_ap : tOr t u r = (t r).bind fun b r1 => if b = true then .ok true r1 else u r1 := nrfl rfl
@[simp] theorem tNot_ap : tNot t r = (t r).bind fun b r1 => .ok (!b) r1 := nrfl rfl
@[simp] theorem boolT_ap : boolT f r = (f r).bind fun d r1 => opt (boolD d) r1 := nrfl rfl
@[simp] theorem eAnd_ap : eAnd f h r = (f r).bind fun x r1 => match x with
  | .bl true => h r1
  | .bl false => .ok (.bl false) r1
  | _ => .stk := nrfl rfl
@[simp] theorem eOr_ap : eOr f h r = (f r).bind fun x r1 => match x with
  | .bl false => h r1
  | .bl true => .ok (.bl true) r1
  | _ => .stk := nrfl rfl
@[simp] theorem eNot_ap : eNot f r = (f r).bind fun x r1 => opt ((truth x).map fun b => .bl (!b)) r1 := nrfl rfl
@[simp] theorem sNx_ap : sNx r = .nx r := nrfl rfl
@[simp] theorem sSeq_ap : sSeq s s' r = (s r).seq s' := nrfl rfl
@[simp] theorem sAsg_ap : sAsg i f r = (f r).fl fun d r1 => .nx (r1.set i (some d)) := nrfl rfl
@[simp] theorem sDrop_ap : sDrop f r = (f r).fl fun _ r1 => .nx r1 := nrfl rfl
@[simp] theorem sRet_ap : sRet f r = (f r).fl fun d r1 => .rt d r1 := nrfl rfl
@[simp] theorem sIf_ap : sIf t s s' r = (t r).fl fun b r1 => if b = true then s r1 else s' r1 := nrfl rfl
@[simp] theorem eCall_ap (mir : List D → Out) (mv : List (Option Nat)) : eCall mir mv k r = (k r).bind fun ds r1 => match mir ds with
  | .ok d ds' => .ok d (wb mv ds' r1)
  | .exc c fs => .exc c fs
  | .stk => .stk := nrfl rfl
@[simp] theorem mMv_ap : mMv i k r = match r[i]? with
  | some (some d) => (k (r.set i none)).bind fun ds r' => match r'[i]? with
    | some none => .ok (d :: ds) r'
    | _ => .stk
  | _ => .stk := nrfl rfl
@[simp] theorem wb_some (mv : List (Option Nat)) (x : Option D) (xs : DL.Env) : wb (some i :: mv) (x :: xs) r = wb mv xs (r.set i x) := nrfl rfl
@[simp] theorem wb_none (mv : List (Option Nat)) (x : Option D) (xs : DL.Env) : wb (none :: mv) (x :: xs) r = wb mv xs r := nrfl rfl
@[simp] theorem wb_nil (xs : DL.Env) : wb [] xs r = r := by cases xs <;> rfl
@[simp] theorem eView_ap : eView f r = match f r with
  | .ok d _ => if flat d = true then .ok d r else .stk
  | _ => .stk := nrfl rfl
@[simp] theorem tView_ap : tView t r = match t r with
  | .ok d _ => .ok d r
  | _ => .stk := nrfl rfl
@[simp] theorem flat_int (n : Int) : flat (.int n) = true := nrfl rfl
@[simp] theorem flat_bl (n : Bool) : flat (.bl n) = true := nrfl rfl
@[simp] theorem flat_str (n : Str) : flat (.str n) = true := nrfl rfl
@[simp] theorem flat_non : flat .non = true := nrfl rfl
@[simp] theorem eMeth_ap (isT : D → Bool) (g : D → List D → Option (D × D)) : eMeth isT i g k r = match r[i]? with
  | some (some d) => if isT d = true then (k r).bind fun ds r1 => match r1[i]? with
      | some (some d2) => match g d2 ds with
        | some (dr, d') => .ok dr (r1.set i (some d'))
        | none => .stk
      | _ => .stk
    else .stk
  | _ => .stk := nrfl rfl
@[simp] theorem isLst_lst (xs : List D) : isLst (.lst xs) = true := nrfl rfl
@[simp] theorem isDct_dct (b : Bool) (xs : List (D × D)) : isDct (.dct b xs) = true := nrfl rfl
@[simp] theorem g1_one (g : D → Option D) (x : D) : g1 g [x] = g x := nrfl rfl
@[simp] theorem g2_two (g : D → D → Option D) (x y : D) : g2 g [x, y] = g x y := nrfl rfl
@[simp] theorem boolD_bl (b : Bool) : boolD (.bl b) = some b := nrfl rfl
@[simp] theorem truth_bl (b : Bool) : truth (.bl b) = some b := nrfl rfl
@[simp] theorem gB_ap (p : D → D → Option Bool) (x y : D) : gB p x y = (p x y).map .bl := nrfl rfl
@[simp] theorem iB_int (p : Int → Int → Bool) (a b : Int) : iB p (.int a) (.int b) = some (p a b) := nrfl rfl
@[simp] theorem addD_int (a b : Int) : addD (.int a) (.int b) = some (.int (a + b)) := nrfl rfl
@[simp] theorem subD_int (a b : Int) : subD (.int a) (.int b) = some (.int (a - b)) := nrfl rfl
@[simp] theorem intD_int (a : Int) : intD (.int a) = some (.int a) := nrfl rfl
@[simp] theorem absD_int (a : Int) : absD (.int a) = some (.int (if a < 0 then -a else a)) := nrfl rfl
@[simp] theorem max2D_int (a b : Int) : max2D (.int a) (.int b) = some (.int (if b > a then b else a)) := nrfl rfl
@[simp] theorem min2D_int (a b : Int) : min2D (.int a) (.int b) = some (.int (if b < a then b else a)) := nrfl rfl
@[simp] theorem sAsgT_ap (tg : Tg) : sAsgT tg f r = (f r).fl fun d r1 => match tg.put d r1 with
  | some r2 => .nx r2
  | none => .stk := nrfl rfl
@[simp] theorem put_nm : (Tg.nm i).put d r = if i < r.length then some (r.set i (some d)) else none := by simp [Tg.put]
@[simp] theorem put_tp (ts : List Tg) (ds : List D) : (Tg.tp ts).put (.tup ds) r = Tg.putL ts ds r := by simp [Tg.put]
@[simp] theorem putL_nil : Tg.putL [] [] r = some r := by simp [Tg.putL]
@[simp] theorem putL_cons (tg : Tg) (ts : List Tg) (ds : List D) : Tg.putL (tg :: ts) (d :: ds) r = match tg.put d r with
  | some r1 => Tg.putL ts ds r1
  | none => none := by cases h : tg.put d r <;> simp [Tg.putL, h]
@[simp] theorem put_sb : (Tg.sb i f).put d r = match r[i]? with
  | some (some _) => match f r with
    | .ok ix r1 => match r1[i]? with
      | some (some c) => match setIx c ix d with
        | some c' => some (r1.set i (some c'))
        | none => none
      | _ => none
    | _ => none
  | _ => none := by
  first
    | (rw [Tg.put]; done)
    | (rw [Tg.put]
       generalize r[i]? = o
       rcases o with _ | _ | v
       · rfl
       · rfl
       · cases f r with
         | ok ix r1 =>
           dsimp only
           generalize r1[i]? = p
           rcases p with _ | _ | w <;> rfl
         | exc c fs => rfl
         | stk => rfl)
@[simp] theorem mkTup_le (xs : List D) (h : xs.length ≤ sizeLine) : mkTup xs = some (.tup xs) := by simp [mkTup, h]
@[simp] theorem mkLst_le (xs : List D) (h : xs.length ≤ sizeLine) : mkLst xs = some (.lst xs) := by simp [mkLst, h]
@[simp] theorem sPar_ap (j : Nat) : sPar i j k r = (k r).fl fun ds r1 => match ds with
  | [x, y] => .nx ((r1.set i (some x)).set j (some y))
  | _ => .stk := nrfl rfl
@[simp] theorem tYesD_ap : tYesD r = .ok true r := nrfl rfl
@[simp] theorem iE_ap : iE f r = (f r).bind fun d r1 => opt (itD d) r1 := nrfl rfl
@[simp] theorem itD_lst (xs : List D) : itD (.lst xs) = some xs := nrfl rfl
@[simp] theorem itD_tup (xs : List D) : itD (.tup xs) = some xs := nrfl rfl
@[simp] theorem maskE_nil (r : DL.Env) : maskE [] r = [] := by cases r <;> rfl
@[simp] theorem maskE_t (m : List Bool) (x : Option D) : maskE (true :: m) (x :: r) = x :: maskE m r := nrfl rfl
@[simp] theorem maskE_f (m : List Bool) (x : Option D) : maskE (false :: m) (x :: r) = none :: maskE m r := nrfl rfl
@[simp] theorem repl_one : List.replicate 1 (none : Option D) = [none] := nrfl rfl
end
@[simp] theorem eIsi_ap (t : String) (f : SE) (r : DL.Env) : eIsi t f r = (f r).bind fun x r1 => opt (isiD t x) r1 := nrfl rfl
@[simp] theorem eIsiT_ap (t : List String) (f : SE) (r : DL.Env) : eIsiT t f r = (f r).bind fun x r1 => opt (isiTD t x) r1 := nrfl rfl
theorem kb_ii : kitB "int" "int" = some true := by decide +kernel
theorem kb_ib : kitB "int" "bool" = some false := by decide +kernel
theorem kb_ss : kitB "str" "str" = some true := by decide +kernel
theorem kb_tt : kitB "tuple" "tuple" = some true := by decide +kernel
theorem kb_ll : kitB "list" "list" = some true := by decide +kernel
theorem kb_lt : kitB "list" "tuple" = some false := by decide +kernel
theorem kb_tl : kitB "tuple" "list" = some false := by decide +kernel
@[simp] theorem isi_ii (n : Int) : isiD "int" (.int n) = some (.bl true) := by simp [isiD, tyD, kb_ii]
@[simp] theorem isi_ib (n : Int) : isiD "bool" (.int n) = some (.bl false) := by simp [isiD, tyD, kb_ib]
@[simp] theorem isi_ss (n : Str) : isiD "str" (.str n) = some (.bl true) := by simp [isiD, tyD, kb_ss]
@[simp] theorem isi_tt (n : List D) : isiD "tuple" (.tup n) = some (.bl true) := by simp [isiD, tyD, kb_tt]
@[simp] theorem isi_ll (n : List D) : isiD "list" (.lst n) = some (.bl true) := by simp [isiD, tyD, kb_ll]
@[simp] theorem isit_l (n : List D) : isiTD ["list", "tuple"] (.lst n) = some (.bl true) := by simp [isiTD, tyD, kb_ll, kb_lt]
@[simp] theorem isit_t (n : List D) : isiTD ["list", "tuple"] (.tup n) = some (.bl true) := by simp [isiTD, tyD, kb_tl, kb_tt]
theorem small_le {n : Nat} (h : n ≤ 1000) : n ≤ sizeLine := Nat.le_trans h (by decide)
/-! ### loops and comprehensions by what they keep -/
theorem forL_inv {t : Tg} {body : SS} : ∀ {items : List D} {r : DL.Env} (I : Nat → DL.Env → Prop), I 0 r → (∀ (i : Nat) (d : D) (r : DL.Env), items[i]? = some d → I i r → ∃ r1 r2, t.put d r = some r1 ∧ body r1 = .nx r2 ∧ I (i + 1) r2) →
    ∃ r', forL t body items r = .nx r' ∧ I items.length r'
  | [], r, I, h, _ => ⟨r, rfl, h⟩
  | d :: ds, r, I, h, k => by
    obtain ⟨r1, r2, h1, h2, h3⟩ := k 0 d r rfl h
    obtain ⟨r', h4, h5⟩ := forL_inv (items := ds) (fun i r => I (i + 1) r) h3 fun i d r hd hi => k (i + 1) d r (by simpa using hd) hi
    refine ⟨r', ?_, h5⟩
    unfold forL
    rw [h1]
    dsimp only
    rw [h2]
    exact h4
theorem lcL_inv {t : Tg} {vs : List Nat} {ts : ST} {f : SE} : ∀ {items : List D} {r : DL.Env} (I : Nat → List D → DL.Env → Prop) (acc : List D), I 0 acc r →
    (∀ (i : Nat) (d : D) (acc : List D) (r : DL.Env), items[i]? = some d → I i acc r → ∃ r1, t.put d r = some r1 ∧ ((∃ r2, ts r1 = .ok false r2 ∧ I (i + 1) acc (wipeE r2 vs)) ∨ ∃ r2 x r3, ts r1 = .ok true r2 ∧ f r2 = .ok x r3 ∧ I (i + 1) (acc ++ [x]) (wipeE r3 vs))) →
    ∃ xs r', lcL t vs ts f items r = .ok xs r' ∧ I items.length (acc ++ xs) r'
  | [], r, I, acc, h, _ => ⟨[], r, rfl, by simpa using h⟩
  | d :: ds, r, I, acc, h, k => by
    obtain ⟨r1, h1, h2⟩ := k 0 d acc r rfl h
    rcases h2 with ⟨r2, h2, h3⟩ | ⟨r2, x, r3, h2, h3, h4⟩
    · obtain ⟨xs, r', h5, h6⟩ := lcL_inv (items := ds) (fun i a r => I (i + 1) a r) acc h3 fun i d a r hd hi => k (i + 1) d a r (by simpa using hd) hi
      refine ⟨xs, r', ?_, h6⟩
      unfold lcL
      simp [h1, h2, h5]
    · obtain ⟨xs, r', h5, h6⟩ := lcL_inv (items := ds) (fun i a r => I (i + 1) a r) (acc ++ [x]) h4 fun i d a r hd hi => k (i + 1) d a r (by simpa using hd) hi
      refine ⟨x :: xs, r', ?_, by simpa using h6⟩
      unfold lcL
      simp [h1, h2, h3, h5]
/-- nothing but the block's own slots is touched -/
theorem lcL_pure {t : Tg} {vs : List Nat} {ts : ST} {f : SE} {r : DL.Env} (p : D → Bool) (g : D → D) : ∀ {items : List D}, (∀ d ∈ items, ∃ r1, t.put d r = some r1 ∧ ts r1 = .ok (p d) r1 ∧ (p d = true → f r1 = .ok (g d) r1) ∧ wipeE r1 vs = r) → lcL t vs ts f items r = .ok ((items.filter p).map g) r
  | [], _ => rfl
  | d :: ds, h => by
    obtain ⟨r1, h1, h2, h3, h4⟩ := h d List.mem_cons_self
    have ih := lcL_pure (items := ds) p g fun e he => h e (List.mem_cons_of_mem _ he)
    unfold lcL
    cases hp : p d with
    | true => simp [h1, h2, hp, h3 hp, h4, ih]
    | false => simp [h1, h2, hp, h4, ih]
@[simp] theorem wipeE_nil (r : DL.Env) : wipeE r [] = r := nrfl rfl
@[simp] theorem wipeE_cons (r : DL.Env) (v : Nat) (vs : List Nat) : wipeE r (v :: vs) = (wipeE r vs).set v none := nrfl rfl
@[simp] theorem restE_nil (r r' : DL.Env) : restE r [] r' = r' := nrfl rfl
@[simp] theorem restE_cons (r r' : DL.Env) (v : Nat) (vs : List Nat) : restE r (v :: vs) r' = restE r vs (r'.set v ((wipeE r vs)[v]?.getD none)) := nrfl rfl
theorem eLc_ap (it : SI) (vs : List Nat) (t : Tg) (ts : ST) (f : SE) (r : DL.Env) : eLc it vs t ts f r = (it r).bind fun items r1 => bndN (lcL t vs ts f items (wipeE r1 vs)) fun xs r2 => if xs.length ≤ sizeLine then .ok (.lst xs) (restE r1 vs r2) else .stk := nrfl rfl
theorem sFor_ap (it : SI) (t : Tg) (body : SS) (r : DL.Env) : sFor it t body r = (it r).fl fun items r1 => forL t body items r1 := nrfl rfl
@[simp] theorem iRg1_ap (k : SA) (r : DL.Env) : iRg1 k r = (k r).bind fun ds r1 => opt (rg1 ds) r1 := nrfl rfl
@[simp] theorem iEn_ap (n : Int) (k : SA) (r : DL.Env) : iEn n k r = (k r).bind fun ds r1 => opt (enA n ds) r1 := nrfl rfl
@[simp] theorem iZp_ap (k : SA) (r : DL.Env) : iZp k r = (k r).bind fun ds r1 => opt (zpA ds) r1 := nrfl rfl
@[simp] theorem enA_lst (n : Int) (xs : List D) : enA n [.lst xs] = some (enD n xs) := nrfl rfl
@[simp] theorem enA_tup (n : Int) (xs : List D) : enA n [.tup xs] = some (enD n xs) := nrfl rfl
theorem rg1_int {n : Int} (h : okI n = true) : rg1 [.int n] = some (rngD 0 n) := by simp [rg1, h]
theorem rng_get {n : Int} {i : Nat} {d : D} (h : (rngD 0 n)[i]? = some d) : d = .int i ∧ (i : Int) < n := by
  unfold rngD at h
  rw [List.getElem?_map, Option.map_eq_some_iff] at h
  obtain ⟨j, h1, rfl⟩ := h
  obtain ⟨hl, h1⟩ := List.getElem?_eq_some_iff.mp h1
  rw [List.getElem_range] at h1
  rw [List.length_range] at hl
  subst h1
  exact ⟨by simp, by omega⟩
theorem rng_len {n : Int} (h : 0 ≤ n) : (rngD 0 n).length = n.toNat := by simp [rngD]
/-! ### plain data: equality is equality -/
noncomputable instance : DecidableEq D := fun a b => Classical.propDecidable (a = b)
mutual
def pl : Nat → D → Bool
  | _, .non => true
  | _, .int _ => true
  | _, .str x => PyData.strOk x
  | n + 1, .lst xs => plL n xs
  | n + 1, .tup xs => plL n xs
  | _, _ => false
def plL : Nat → List D → Bool
  | _, [] => true
  | n, x :: xs => pl n x && plL n xs
end
theorem plL_all {n : Nat} : ∀ {xs : List D}, plL n xs = true ↔ ∀ x ∈ xs, pl n x = true
  | [] => by simp [plL]
  | x :: xs => by simp [plL, plL_all (xs := xs)]
mutual
theorem pl_py : ∀ {n : Nat} {d : D}, pl n d = true → ∃ p, toPy d = some p ∧ p.canLay0 = true ∧ p.depth ≤ n
  | n, .non, _ => ⟨.none, rfl, rfl, Nat.zero_le _⟩
  | n, .int i, _ => ⟨.int i, rfl, rfl, Nat.zero_le _⟩
  | n, .str x, h => ⟨.str x, rfl, by cases n <;> simpa [pl, PyData.canLay0] using h, Nat.zero_le _⟩
  | n + 1, .lst xs, h => by
    obtain ⟨ps, h1, h2, h3⟩ := plL_py (n := n) (xs := xs) (by simpa [pl] using h)
    exact ⟨.list ps, by simp [toPy, h1], by simpa [PyData.canLay0] using h2, by simp [PyData.depth]; exact h3⟩
  | n + 1, .tup xs, h => by
    obtain ⟨ps, h1, h2, h3⟩ := plL_py (n := n) (xs := xs) (by simpa [pl] using h)
    exact ⟨.tuple ps, by simp [toPy, h1], by simpa [PyData.canLay0] using h2, by simp [PyData.depth]; exact h3⟩
  | 0, .lst xs, h => by simp [pl] at h
  | 0, .tup xs, h => by simp [pl] at h
  | 0, .bl _, h => by simp [pl] at h
  | n + 1, .bl _, h => by simp [pl] at h
  | 0, .ktup _, h => by simp [pl] at h
  | n + 1, .ktup _, h => by simp [pl] at h
  | 0, .klst _, h => by simp [pl] at h
  | n + 1, .klst _, h => by simp [pl] at h
  | 0, .dct _ _, h => by simp [pl] at h
  | n + 1, .dct _ _, h => by simp [pl] at h
  | 0, .ins _ _, h => by simp [pl] at h
  | n + 1, .ins _ _, h => by simp [pl] at h
  | 0, .opq _, h => by simp [pl] at h
  | n + 1, .opq _, h => by simp [pl] at h
theorem plL_py : ∀ {n : Nat} {xs : List D}, plL n xs = true → ∃ ps, toPyL xs = some ps ∧ PyData.canLayAll0 ps = true ∧ PyData.depthAll ps ≤ n
  | n, [], _ => ⟨[], rfl, rfl, Nat.zero_le _⟩
  | n, x :: xs, h => by
    simp only [plL, Bool.and_eq_true] at h
    obtain ⟨p, h1, h2, h3⟩ := pl_py h.1
    obtain ⟨ps, h4, h5, h6⟩ := plL_py h.2
    exact ⟨p :: ps, by simp [toPyL, h1, h4], by simp [PyData.canLayAll0, h2, h5], by simp [PyData.depthAll]; omega⟩
end
theorem plL_eqv {n : Nat} (ih : ∀ (m : Nat) (a b : D) (p q : PyData), pl n a = true → pl m b = true → toPy a = some p → toPy b = some q → (PyData.eqv p q = true ↔ a = b)) :
    ∀ (m : Nat) (xs ys : List D) (ps qs : List PyData), plL n xs = true → plL m ys = true → toPyL xs = some ps → toPyL ys = some qs → (PyData.eqvAll ps qs = true ↔ xs = ys)
  | m, [], [], ps, qs, _, _, e1, e2 => by cases e1; cases e2; simp [PyData.eqvAll]
  | m, x :: xs, y :: ys, ps, qs, h1, h2, e1, e2 => by
    simp only [plL, Bool.and_eq_true] at h1 h2
    obtain ⟨p, f1, _⟩ := pl_py h1.1
    obtain ⟨q, f2, _⟩ := pl_py h2.1
    obtain ⟨ps', f3, _⟩ := plL_py h1.2
    obtain ⟨qs', f4, _⟩ := plL_py h2.2
    simp [toPyL, f1, f3] at e1
    simp [toPyL, f2, f4] at e2
    subst e1 e2
    have a := ih m x y p q h1.1 h2.1 f1 f2
    have b := plL_eqv ih m xs ys ps' qs' h1.2 h2.2 f3 f4
    simp [PyData.eqvAll, a, b]
  | m, [], y :: ys, ps, qs, h1, h2, e1, e2 => by
    simp only [plL, Bool.and_eq_true] at h2
    obtain ⟨q, f2, _⟩ := pl_py h2.1
    obtain ⟨qs', f4, _⟩ := plL_py h2.2
    simp [toPyL, f2, f4] at e2
    cases e1
    subst e2
    simp [PyData.eqvAll]
  | m, x :: xs, [], ps, qs, h1, h2, e1, e2 => by
    simp only [plL, Bool.and_eq_true] at h1
    obtain ⟨q, f2, _⟩ := pl_py h1.1
    obtain ⟨qs', f4, _⟩ := plL_py h1.2
    simp [toPyL, f2, f4] at e1
    cases e2
    subst e1
    simp [PyData.eqvAll]
theorem pl_eqv : ∀ (n m : Nat) (a b : D) (p q : PyData), pl n a = true → pl m b = true → toPy a = some p → toPy b = some q → (PyData.eqv p q = true ↔ a = b) := by
  intro n
  induction n with
  | zero =>
    intro m a b p q ha hb e1 e2
    cases a <;> simp [pl] at ha <;> cases b <;> (try (cases m <;> simp [pl] at hb; done)) <;> simp [toPy] at e1 e2 <;> subst e1
    all_goals first
      | (subst e2; simp [PyData.eqv]; done)
      | (obtain ⟨ps, h1, rfl⟩ := e2; simp [PyData.eqv]; done)
  | succ n ih =>
    have ihL := plL_eqv ih
    intro m a b p q ha hb e1 e2
    cases a <;> simp [pl] at ha <;> cases b <;> (try (cases m <;> simp [pl] at hb; done)) <;> simp [toPy] at e1 e2
    all_goals first
      | (subst e1; subst e2; simp [PyData.eqv]; done)
      | (subst e1; obtain ⟨ps, h1, rfl⟩ := e2; simp [PyData.eqv]; done)
      | (obtain ⟨ps, h1, rfl⟩ := e1; subst e2; simp [PyData.eqv]; done)
      | skip
    all_goals
      obtain ⟨ps, h1, rfl⟩ := e1
      obtain ⟨qs, h2, rfl⟩ := e2
      cases m with
      | zero => simp [pl] at hb
      | succ m =>
        simp [pl] at hb
        first
          | (simp [PyData.eqv, ihL m _ _ _ _ ha hb h1 h2]; done)
          | (simp [PyData.eqv]; done)
theorem shp_pl {d : D} (h : pl 60 d = true) : ∃ p, shp d = some p ∧ toPy d = some p := by
  obtain ⟨p, h1, h2, h3⟩ := pl_py h
  refine ⟨p, ?_, h1⟩
  unfold shp
  rw [h1]
  have : SeqAt.shaped p = true := by simp [SeqAt.shaped, h2]; omega
  simp [this]
theorem eqD_pl {a b : D} (ha : pl 60 a = true) (hb : pl 60 b = true) : eqD a b = some (decide (a = b)) := by
  obtain ⟨p, h1, h2⟩ := shp_pl ha
  obtain ⟨q, h3, h4⟩ := shp_pl hb
  have := pl_eqv 60 60 a b p q ha hb h2 h4
  simp [eqD, h1, h3]
  rw [Bool.eq_iff_iff, this]
  simp
theorem pl_mono {n : Nat} : ∀ {d : D} {m : Nat}, pl n d = true → n ≤ m → pl m d = true := by
  induction n with
  | zero => intro d m h _; cases d <;> cases m <;> simp_all [pl]
  | succ n ih =>
    intro d m h hm
    cases m with
    | zero => omega
    | succ m =>
      cases d <;> simp_all [pl]
      · rw [plL_all] at h ⊢; exact fun x hx => ih (h x hx) hm
      · rw [plL_all] at h ⊢; exact fun x hx => ih (h x hx) hm
theorem anyEq_pl {x : D} {p : PyData} (hx : pl 60 x = true) (hp : toPy x = some p) : ∀ {ys : List D} {qs : List PyData}, plL 59 ys = true → toPyL ys = some qs → anyEq p qs = decide (x ∈ ys)
  | [], qs, _, e => by cases e; simp [anyEq]
  | y :: ys, qs, h, e => by
    simp only [plL, Bool.and_eq_true] at h
    obtain ⟨q, f2, _⟩ := pl_py h.1
    obtain ⟨qs', f4, _⟩ := plL_py h.2
    simp [toPyL, f2, f4] at e
    subst e
    have ih := anyEq_pl hx hp h.2 f4
    have a := pl_eqv 59 60 y x q p h.1 hx f2 hp
    unfold anyEq at ih ⊢
    rw [List.any_cons, ih, Bool.eq_iff_iff]
    simp only [Bool.or_eq_true, a, decide_eq_true_eq, List.mem_cons]
    constructor
    · rintro (rfl | h)
      · exact .inl rfl
      · exact .inr h
    · rintro (rfl | h)
      · exact .inl rfl
      · exact .inr h
theorem inD_lst {x : D} {ys : List D} (hx : pl 60 x = true) (hy : plL 59 ys = true) : inD x (.lst ys) = some (decide (x ∈ ys)) := by
  obtain ⟨p, h1, h2⟩ := shp_pl hx
  obtain ⟨q, h3, h4⟩ := shp_pl (d := .lst ys) (by simpa [pl] using hy)
  obtain ⟨qs, f1, _⟩ := plL_py hy
  simp [toPy, f1] at h4
  subst h4
  simp [inD, h1, h3, anyEq_pl hx h2 hy f1]
theorem inD_tup {x : D} {ys : List D} (hx : pl 60 x = true) (hy : plL 59 ys = true) : inD x (.tup ys) = some (decide (x ∈ ys)) := by
  obtain ⟨p, h1, h2⟩ := shp_pl hx
  obtain ⟨q, h3, h4⟩ := shp_pl (d := .tup ys) (by simpa [pl] using hy)
  obtain ⟨qs, f1, _⟩ := plL_py hy
  simp [toPy, f1] at h4
  subst h4
  simp [inD, h1, h3, anyEq_pl hx h2 hy f1]
end DL
set_option Elab.async false
set_option linter.all false
set_option autoImplicit false
/-! the data layer: more equations for simp -/
namespace DL
open PySem PySem.Spec PyProof.Rows L2
section
variable {α β : Type} {r : DL.Env} {i : Nat} {d : D} {f h : SE} {t u : ST} {k kk : SA} {s s' : SS} {cn m : Str} {mir : List D → Out} {n : Nat}
@[simp] theorem eSl_ap (lo hi : SO) : eSl f lo hi r = (f r).bind fun x r1 => (lo r1).bind fun l r2 => (hi r2).bind fun h r3 => opt (slD x l h) r3 := nrfl rfl
@[simp] theorem oNone_ap : oNone r = .ok none r := nrfl rfl
@[simp] theorem oInt_ap : oInt f r = (f r).bind fun d r1 => match d with
  | .int i => .ok (some i) r1
  | _ => .stk := nrfl rfl
@[simp] theorem slD_lst (xs : List D) (lo hi : Option Int) : slD (.lst xs) lo hi = some (.lst (cutD xs lo hi)) := nrfl rfl
@[simp] theorem slD_tup (xs : List D) (lo hi : Option Int) : slD (.tup xs) lo hi = some (.tup (cutD xs lo hi)) := nrfl rfl
theorem cut_to {xs : List D} {n : Nat} (h : n ≤ xs.length) : cutD xs none (some (n : Int)) = xs.take n := by
  simp only [cutD, HT.sIx_nat, HT.sIx_none]
  simp
theorem cut_from {xs : List D} {n : Nat} (h : n ≤ xs.length) : cutD xs (some (n : Int)) none = xs.drop n := by
  simp only [cutD, HT.sIx_nat, HT.sIx_none]
  rw [Nat.min_eq_left h, List.take_of_length_le (by simp)]
@[simp] theorem eCh2_ap (g g' : D → D → Option D) (fa fb fc : SE) : eCh2 g g' fa fb fc r = (fa r).bind fun x r1 => (fb r1).bind fun y r2 => match g x y with
  | some (.bl true) => (fc r2).bind fun z r3 => opt (g' y z) r3
  | some (.bl false) => .ok (.bl false) r2
  | _ => .stk := nrfl rfl
@[simp] theorem eCh3_ap (g g' g'' : D → D → Option D) (fa fb fc fd : SE) : eCh3 g g' g'' fa fb fc fd r = (fa r).bind fun x r1 => (fb r1).bind fun y r2 => match g x y with
  | some (.bl true) => (fc r2).bind fun z r3 => match g' y z with
    | some (.bl true) => (fd r3).bind fun u r4 => opt (g'' z u) r4
    | some (.bl false) => .ok (.bl false) r3
    | _ => .stk
  | some (.bl false) => .ok (.bl false) r2
  | _ => .stk := nrfl rfl
@[simp] theorem eMake_ap : eMake cn n mir k r = (k r).bind fun ds r1 => if ds.length = n then (match mir (.ins cn [] :: ds) with
  | .ok .non (some d :: _) => .ok d r1
  | .exc c fs => .exc c fs
  | _ => .stk) else .stk := nrfl rfl
@[simp] theorem mirN_ap (ds : List D) : mirN n mir ds r = if ds.length = n then mirOk mir ds r else .stk := nrfl rfl
@[simp] theorem mirOk_ap (ds : List D) : mirOk mir ds r = match mir ds with
  | .ok d _ => .ok d r
  | .exc c fs => .exc c fs
  | .stk => .stk := nrfl rfl
@[simp] theorem callI_ins (fs : List (Str × D)) (x : D) : callI cn mir (.ins cn fs) x r = mirOk mir [.ins cn fs, x] r := by simp [callI]
def methX (cn m : Str) (n : Nat) (mir : List D → Out) (k : SA) (d : D) (r1 : DL.Env) : Res D := match d with
  | .ins c fs => if c = cn then (match lkF m fs with
      | none => (k r1).bind fun ds r2 => mirN n mir (d :: ds) r2
      | some _ => .stk) else .stk
  | _ => .stk
@[simp] theorem eMethI_ap : eMethI cn m n mir f k r = (f r).bind (methX cn m n mir k) := nrfl rfl
theorem methX_ins (fs : List (Str × D)) : methX cn m n mir k (.ins cn fs) r = match lkF m fs with
      | none => (k r).bind fun ds r2 => mirN n mir (.ins cn fs :: ds) r2
      | some _ => .stk := by simp [methX]
def propX (cn : Str) (mir : List D → Out) (d : D) (r1 : DL.Env) : Res D := match d with
  | .ins c _ => if c = cn then (match mir [d] with
      | .ok z _ => .ok z r1
      | _ => .stk) else .stk
  | _ => .stk
@[simp] theorem eProp_ap : eProp cn mir f r = (f r).bind (propX cn mir) := nrfl rfl
theorem propX_ins (fs : List (Str × D)) : propX cn mir (.ins cn fs) r = match mir [.ins cn fs] with
      | .ok z _ => .ok z r
      | _ => .stk := by simp [propX]
def lenR (z : D) (r2 : DL.Env) : Res D := match z with
      | .int i => if 0 ≤ i ∧ i < 2 ^ 63 then .ok (.int i) r2 else .stk
      | _ => .stk
theorem lenR_int (j : Int) : lenR (.int j) r = if 0 ≤ j ∧ j < 2 ^ 63 then .ok (.int j) r else .stk := rfl
def lenX (cn : Str) (mir : List D → Out) (d : D) (r1 : DL.Env) : Res D := match d with
  | .ins c _ => if c = cn then (mirOk mir [d] r1).bind lenR else .stk
  | _ => .stk
@[simp] theorem eLenI_ap : eLenI cn mir f r = (f r).bind (lenX cn mir) := congrFun (rfl : eLenI cn mir f = fun r => (f r).bind (lenX cn mir)) r
theorem if63 {α : Type} (a b : α) {n : Nat} (h : n ≤ 100) : (if 0 ≤ (n : Int) ∧ (n : Int) < 2 ^ 63 then a else b) = a := by
  rw [if_pos]
  have h63 : (2 : Int) ^ 63 = 9223372036854775808 := by decide +kernel
  rw [h63]
  exact ⟨by omega, by omega⟩
theorem lenX_ins {fs : List (Str × D)} {n : Nat} {ds : DL.Env} (h : mir [.ins cn fs] = .ok (.int (n : Int)) ds) (hn : n ≤ 100) : lenX cn mir (.ins cn fs) r = .ok (.int n) r := by
  have e : lenX cn mir (.ins cn fs) r = (mirOk mir [.ins cn fs] r).bind lenR := by simp [lenX]
  rw [e, mirOk_ap, h]
  dsimp only
  rw [bind_ok, lenR_int, if63 _ _ hn]
@[simp] theorem eInI_ap (neg : Bool) : eInI neg cn mir f h r = (f r).bind fun x r1 => (h r1).bind fun y r2 => (callI cn mir y x r2).bind fun z r3 => match z with
  | .bl b => .ok (.bl (if neg = true then !b else b)) r3
  | _ => .stk := nrfl rfl
@[simp] theorem eBinI_ap (cn T : String) : eBinI cn T mir f h r = (f r).bind fun x r1 => (h r1).bind fun y r2 => if tyD y = some T then callI cn mir x y r2 else .stk := nrfl rfl
@[simp] theorem eEqI_ap : eEqI cn mir f h r = (f r).bind fun x r1 => (h r1).bind fun y r2 => if okEq cn y = true then callI cn mir x y r2 else .stk := nrfl rfl
@[simp] theorem okEq_ins (fs : List (Str × D)) : okEq cn (.ins cn fs) = true := by simp [okEq]
@[simp] theorem isiOD_ins (fs : List (Str × D)) : isiOD cn (.ins cn fs) = some (.bl true) := by simp [isiOD]
@[simp] theorem tyD_tup (xs : List D) : tyD (.tup xs) = some "tuple" := nrfl rfl
@[simp] theorem tyD_lst (xs : List D) : tyD (.lst xs) = some "list" := nrfl rfl
@[simp] theorem sFldI_ap : sFldI i m f r = (f r).fl fun d r1 => match r1[i]? with
  | some (some (.ins c fs)) => if fs.length < 1000 then .nx (r1.set i (some (.ins c (putFD m d fs)))) else .stk
  | _ => .stk := nrfl rfl
@[simp] theorem fldD_ins (fs : List (Str × D)) : fldD cn m (.ins cn fs) = lkF m fs := by simp [fldD]
@[simp] theorem lkF_nil : lkF m [] = none := nrfl rfl
theorem lkF_cons (p : Str × D) (fs : List (Str × D)) : lkF m (p :: fs) = if m == p.1 then some p.2 else lkF m fs := rfl
@[simp] theorem aStar_ap : aStar f k r = (f r).bind fun d r1 => match itemsD d with
  | some xs => (k r1).bind fun ds r2 => .ok (xs ++ ds) r2
  | none => .stk := nrfl rfl
@[simp] theorem itemsD_lst (xs : List D) : itemsD (.lst xs) = some xs := nrfl rfl
@[simp] theorem itemsD_tup (xs : List D) : itemsD (.tup xs) = some xs := nrfl rfl
@[simp] theorem eCallK_ap (nu : Nat) (perm : List Nat) : eCallK n mir nu perm k kk r = (k r).bind fun us r1 => (kk r1).bind fun ws r2 => mirN n mir (kwG nu perm us ws) r2 := nrfl rfl
@[simp] theorem eRep_ap : eRep f h r = e2 repLD f h r := nrfl rfl
theorem eDc_ap (it : SI) (vs : List Nat) (t : Tg) (ts : ST) (fk f : SE) (r : DL.Env) : eDc it vs t ts fk f r = (it r).bind fun items r1 => bndN (dcL t vs ts fk f items [] (wipeE r1 vs)) fun kds r2 => .ok (.dct false kds) (restE r1 vs r2) := nrfl rfl
@[simp] theorem lenD_lst (xs : List D) : lenD (.lst xs) = some (.int xs.length) := nrfl rfl
@[simp] theorem lenD_tup (xs : List D) : lenD (.tup xs) = some (.int xs.length) := nrfl rfl
@[simp] theorem listD_lst (xs : List D) : listD (.lst xs) = some (.lst xs) := nrfl rfl
@[simp] theorem listD_tup (xs : List D) : listD (.tup xs) = some (.lst xs) := nrfl rfl
@[simp] theorem tupleD_lst (xs : List D) : tupleD (.lst xs) = some (.tup xs) := nrfl rfl
@[simp] theorem tupleD_tup (xs : List D) : tupleD (.tup xs) = some (.tup xs) := nrfl rfl
@[simp] theorem iB_le (a b : Int) : iB (fun i j => decide (i ≤ j)) (.int a) (.int b) = some (decide (a ≤ b)) := nrfl rfl
@[simp] theorem ltD_int (a b : Int) : ltD (.int a) (.int b) = some (decide (a < b)) := nrfl rfl
end
theorem pl_int (n : Nat) (i : Int) : pl n (.int i) = true := by cases n <;> rfl
theorem eqD_int (a b : Int) : eqD (.int a) (.int b) = some (decide (a = b)) := by
  rw [eqD_pl (pl_int 60 a) (pl_int 60 b)]
  simp
theorem ix_tup0 (x : D) (xs : List D) : ixD (.tup (x :: xs)) (.int 0) = some x := by simp [ixD, atI, ixN]
theorem ix_tup1 (x y : D) (xs : List D) : ixD (.tup (x :: y :: xs)) (.int 1) = some y := by
  have : (1 : Int) < (xs.length + 1 + 1 : Int) := by omega
  simp [ixD, atI, ixN, this]
theorem ix_tup2 (x y z : D) (xs : List D) : ixD (.tup (x :: y :: z :: xs)) (.int 2) = some z := by
  have : (2 : Int) < (xs.length + 1 + 1 + 1 : Int) := by omega
  simp [ixD, atI, ixN, this]
theorem ix_tup3 (x y z u : D) (xs : List D) : ixD (.tup (x :: y :: z :: u :: xs)) (.int 3) = some u := by
  have : (3 : Int) < (xs.length + 1 + 1 + 1 + 1 : Int) := by omega
  simp [ixD, atI, ixN, this]
theorem ix_lstG {xs : List D} {k : Nat} (h : k < xs.length) : ixD (.lst xs) (.int (k : Int)) = some xs[k] := by simp [ixD, atI, ixN, h]
theorem boolsD_map {α : Type} (p : α → Bool) : ∀ xs : List α, boolsD (xs.map fun x => .bl (p x)) = some (xs.map p)
  | [] => rfl
  | x :: xs => by simp [boolsD, boolsD_map p xs]
theorem intsD_map {α : Type} (p : α → Int) : ∀ xs : List α, intsD (xs.map fun x => .int (p x)) = some (xs.map p)
  | [] => rfl
  | x :: xs => by simp [intsD, intsD_map p xs]
theorem en_get {k : Int} {xs : List D} {i : Nat} {d : D} (h : (enD k xs)[i]? = some d) : ∃ x, xs[i]? = some x ∧ d = .tup [.int (k + (i : Int)), x] := by
  unfold enD at h
  rw [List.getElem?_mapIdx, Option.map_eq_some_iff] at h
  obtain ⟨x, h1, h2⟩ := h
  exact ⟨x, h1, h2.symm⟩
theorem en_len (k : Int) (xs : List D) : (enD k xs).length = xs.length := by simp [enD]
/-- a block over items that leaves no trace -/
theorem lcL_map {t : Tg} {vs : List Nat} {f : SE} {r : DL.Env} {items : List D} (g : D → D) (h : ∀ d ∈ items, ∃ r1 r2, t.put d r = some r1 ∧ f r1 = .ok (g d) r2 ∧ wipeE r2 vs = r) : lcL t vs tYesD f items r = .ok (items.map g) r := by
  induction items with
  | nil => rfl
  | cons d ds ih =>
    obtain ⟨r1, r2, h1, h2, h3⟩ := h d List.mem_cons_self
    unfold lcL
    simp [h1, h2, h3, ih fun e he => h e (List.mem_cons_of_mem _ he)]
@[simp] theorem mLt_ap {r : DL.Env} (i : Nat) (k : SA) : mLt i k r = match r[i]? with
  | some (some _) => (k r).bind fun ds r' => match r'[i]? with
    | some (some d) => .ok (d :: ds) (r'.set i none)
    | _ => .stk
  | _ => .stk := nrfl rfl
end DL
set_option Elab.async false
set_option linter.all false
set_option autoImplicit false
set_option maxRecDepth 100000
set_option maxHeartbeats 4000000
namespace K70
open PySem PySem.Spec PyProof.Rows L2 DL
/-! ### the text -/
def topS (i : Nat) : Stmt := PySem.Challenge.pw_neverdug_k70_turns_told.main.body.getD i (.Pass ⟨0, 0, 0, 0⟩)
def inC : Stmt → Nat → Stmt
  | .ClassDef _ _ _ b _ _ _ _ _ _ _, j => b.getD j (.Pass ⟨0, 0, 0, 0⟩)
  | st, _ => st
abbrev s_law_draw : Stmt := topS 46
abbrev s_law_pick : Stmt := topS 47
abbrev s_law_folk : Stmt := topS 49
abbrev s_law_fact : Stmt := topS 50
abbrev s_is_list : Stmt := topS 21
abbrev s_is_box : Stmt := topS 22
abbrev s_want_boxes : Stmt := topS 28
abbrev s_is_integer : Stmt := topS 19
abbrev s_want_days : Stmt := topS 29
abbrev s_is_known : Stmt := topS 23
abbrev s_is_ahead_told : Stmt := topS 24
abbrev s_are_days_told : Stmt := topS 25
abbrev s_is_count : Stmt := topS 20
abbrev s_is_gone_told : Stmt := topS 26
abbrev s_is_fact : Stmt := topS 27
abbrev s_want_facts : Stmt := topS 30
abbrev s_Yardu_initu : Stmt := inC (topS 31) 2
abbrev s_Yard_facts : Stmt := inC (topS 31) 6
abbrev s_want_number : Stmt := topS 33
abbrev s_Yard_days : Stmt := inC (topS 31) 4
abbrev s_Yardu_lenu : Stmt := inC (topS 31) 10
abbrev s_turns_of : Stmt := topS 42
abbrev s_turns : Stmt := topS 43
abbrev s_law_turns : Stmt := topS 52
abbrev s_Yardu_addu : Stmt := inC (topS 31) 12
abbrev s_law_mixed : Stmt := topS 48
abbrev s_law_told : Stmt := topS 51
abbrev s_is_list_of_days : Stmt := topS 36
abbrev s_Yardu_containsu : Stmt := inC (topS 31) 11
abbrev s_first_wrong_day : Stmt := topS 35
abbrev s_want_leaving : Stmt := topS 37
abbrev s_Yard_boxes : Stmt := inC (topS 31) 5
abbrev s_does_hold : Stmt := topS 39
abbrev s_spots_in : Stmt := topS 38
abbrev s_holds : Stmt := topS 40
abbrev s_Yardu_equ : Stmt := inC (topS 31) 14
abbrev s_law_right : Stmt := topS 53
abbrev s_law_pot : Stmt := topS 45
abbrev s_law : Stmt := topS 54
abbrev nm_law_draw : List Str := ["_law_pot_here", "_law_size", "_law_digit"]
theorem sc_law_draw : FnScope nm_law_draw ["_law_pot_here", "_law_size"] (defScope s_law_draw) := ⟨rfl, rfl, rfl, by decide +kernel, rfl, by decide +kernel, by decide +kernel⟩
abbrev nm_law_pick : List Str := ["_law_pot_here", "_law_some"]
theorem sc_law_pick : FnScope nm_law_pick ["_law_pot_here", "_law_some"] (defScope s_law_pick) := ⟨rfl, rfl, rfl, by decide +kernel, rfl, by decide +kernel, by decide +kernel⟩
abbrev nm_law_folk : List Str := ["_law_pot_here", "_law_size", "_law_turn", "_law_menu", "_law_found", "_law_label"]
theorem sc_law_folk : FnScope nm_law_folk ["_law_pot_here", "_law_size"] (defScope s_law_folk) := ⟨rfl, rfl, rfl, by decide +kernel, rfl, by decide +kernel, by decide +kernel⟩
abbrev nm_law_fact : List Str := ["_law_pot_here", "_law_folk_here", "_law_span", "_law_way", "_law_few", "_law_at", "_law_noon"]
theorem sc_law_fact : FnScope nm_law_fact ["_law_pot_here", "_law_folk_here", "_law_span"] (defScope s_law_fact) := ⟨rfl, rfl, rfl, by decide +kernel, rfl, by decide +kernel, by decide +kernel⟩
abbrev nm_is_list : List Str := ["value"]
theorem sc_is_list : FnScope nm_is_list ["value"] (defScope s_is_list) := ⟨rfl, rfl, rfl, by decide +kernel, rfl, by decide +kernel, by decide +kernel⟩
abbrev nm_is_box : List Str := ["value", "sign"]
theorem sc_is_box : FnScope nm_is_box ["value"] (defScope s_is_box) := ⟨rfl, rfl, rfl, by decide +kernel, rfl, by decide +kernel, by decide +kernel⟩
abbrev nm_want_boxes : List Str := ["value", "place", "box"]
theorem sc_want_boxes : FnScope nm_want_boxes ["value"] (defScope s_want_boxes) := ⟨rfl, rfl, rfl, by decide +kernel, rfl, by decide +kernel, by decide +kernel⟩
abbrev nm_is_integer : List Str := ["value"]
theorem sc_is_integer : FnScope nm_is_integer ["value"] (defScope s_is_integer) := ⟨rfl, rfl, rfl, by decide +kernel, rfl, by decide +kernel, by decide +kernel⟩
abbrev nm_want_days : List Str := ["value"]
theorem sc_want_days : FnScope nm_want_days ["value"] (defScope s_want_days) := ⟨rfl, rfl, rfl, by decide +kernel, rfl, by decide +kernel, by decide +kernel⟩
abbrev nm_is_known : List Str := ["boxes", "value"]
theorem sc_is_known : FnScope nm_is_known ["boxes", "value"] (defScope s_is_known) := ⟨rfl, rfl, rfl, by decide +kernel, rfl, by decide +kernel, by decide +kernel⟩
abbrev nm_is_ahead_told : List Str := ["boxes", "rest"]
theorem sc_is_ahead_told : FnScope nm_is_ahead_told ["boxes", "rest"] (defScope s_is_ahead_told) := ⟨rfl, rfl, rfl, by decide +kernel, rfl, by decide +kernel, by decide +kernel⟩
abbrev nm_are_days_told : List Str := ["boxes", "days", "rest"]
theorem sc_are_days_told : FnScope nm_are_days_told ["boxes", "days", "rest"] (defScope s_are_days_told) := ⟨rfl, rfl, rfl, by decide +kernel, rfl, by decide +kernel, by decide +kernel⟩
abbrev nm_is_count : List Str := ["value"]
theorem sc_is_count : FnScope nm_is_count ["value"] (defScope s_is_count) := ⟨rfl, rfl, rfl, by decide +kernel, rfl, by decide +kernel, by decide +kernel⟩
abbrev nm_is_gone_told : List Str := ["many", "days", "rest", "part"]
theorem sc_is_gone_told : FnScope nm_is_gone_told ["many", "days", "rest"] (defScope s_is_gone_told) := ⟨rfl, rfl, rfl, by decide +kernel, rfl, by decide +kernel, by decide +kernel⟩
abbrev nm_is_fact : List Str := ["boxes", "days", "value"]
theorem sc_is_fact : FnScope nm_is_fact ["boxes", "days", "value"] (defScope s_is_fact) := ⟨rfl, rfl, rfl, by decide +kernel, rfl, by decide +kernel, by decide +kernel⟩
abbrev nm_want_facts : List Str := ["boxes", "days", "value", "place", "fact"]
theorem sc_want_facts : FnScope nm_want_facts ["boxes", "days", "value"] (defScope s_want_facts) := ⟨rfl, rfl, rfl, by decide +kernel, rfl, by decide +kernel, by decide +kernel⟩
abbrev nm_Yardu_initu : List Str := ["self", "boxes", "days", "facts"]
theorem sc_Yardu_initu : FnScope nm_Yardu_initu ["self", "boxes", "days", "facts"] (defScope s_Yardu_initu) := ⟨rfl, rfl, rfl, by decide +kernel, rfl, by decide +kernel, by decide +kernel⟩
abbrev nm_Yard_facts : List Str := ["self"]
theorem sc_Yard_facts : FnScope nm_Yard_facts ["self"] (defScope s_Yard_facts) := ⟨rfl, rfl, rfl, by decide +kernel, rfl, by decide +kernel, by decide +kernel⟩
abbrev nm_want_number : List Str := ["yard", "value"]
theorem sc_want_number : FnScope nm_want_number ["yard", "value"] (defScope s_want_number) := ⟨rfl, rfl, rfl, by decide +kernel, rfl, by decide +kernel, by decide +kernel⟩
abbrev nm_Yard_days : List Str := ["self"]
theorem sc_Yard_days : FnScope nm_Yard_days ["self"] (defScope s_Yard_days) := ⟨rfl, rfl, rfl, by decide +kernel, rfl, by decide +kernel, by decide +kernel⟩
abbrev nm_Yardu_lenu : List Str := ["self"]
theorem sc_Yardu_lenu : FnScope nm_Yardu_lenu ["self"] (defScope s_Yardu_lenu) := ⟨rfl, rfl, rfl, by decide +kernel, rfl, by decide +kernel, by decide +kernel⟩
abbrev nm_turns_of : List Str := ["yard", "fact", "found", "word", "what", "first", "last", "begin", "end"]
theorem sc_turns_of : FnScope nm_turns_of ["yard", "fact"] (defScope s_turns_of) := ⟨rfl, rfl, rfl, by decide +kernel, rfl, by decide +kernel, by decide +kernel⟩
abbrev nm_turns : List Str := ["yard", "number"]
theorem sc_turns : FnScope nm_turns ["yard", "number"] (defScope s_turns) := ⟨rfl, rfl, rfl, by decide +kernel, rfl, by decide +kernel, by decide +kernel⟩
abbrev nm_law_turns : List Str := ["_law_folk_here", "_law_span", "_law_row", "_law_some", "_law_ere", "_law_end", "_law_near"]
theorem sc_law_turns : FnScope nm_law_turns ["_law_folk_here", "_law_span", "_law_row"] (defScope s_law_turns) := ⟨rfl, rfl, rfl, by decide +kernel, rfl, by decide +kernel, by decide +kernel⟩
abbrev nm_Yardu_addu : List Str := ["self", "other"]
theorem sc_Yardu_addu : FnScope nm_Yardu_addu ["self", "other"] (defScope s_Yardu_addu) := ⟨rfl, rfl, rfl, by decide +kernel, rfl, by decide +kernel, by decide +kernel⟩
abbrev nm_law_mixed : List Str := ["_law_pot_here", "_law_some", "_law_pack", "_law_turn"]
theorem sc_law_mixed : FnScope nm_law_mixed ["_law_pot_here", "_law_some"] (defScope s_law_mixed) := ⟨rfl, rfl, rfl, by decide +kernel, rfl, by decide +kernel, by decide +kernel⟩
abbrev nm_law_told : List Str := ["_law_pot_here", "_law_folk_here", "_law_span", "_law_line", "_law_when", "_law_k", "_law_label", "_law_noon"]
theorem sc_law_told : FnScope nm_law_told ["_law_pot_here", "_law_folk_here", "_law_span"] (defScope s_law_told) := ⟨rfl, rfl, rfl, by decide +kernel, rfl, by decide +kernel, by decide +kernel⟩
abbrev nm_is_list_of_days : List Str := ["yard", "value", "boxes"]
theorem sc_is_list_of_days : FnScope nm_is_list_of_days ["yard", "value"] (defScope s_is_list_of_days) := ⟨rfl, rfl, rfl, by decide +kernel, rfl, by decide +kernel, by decide +kernel⟩
abbrev nm_Yardu_containsu : List Str := ["self", "value"]
theorem sc_Yardu_containsu : FnScope nm_Yardu_containsu ["self", "value"] (defScope s_Yardu_containsu) := ⟨rfl, rfl, rfl, by decide +kernel, rfl, by decide +kernel, by decide +kernel⟩
abbrev nm_first_wrong_day : List Str := ["yard", "value", "seen", "place", "boxes", "box"]
theorem sc_first_wrong_day : FnScope nm_first_wrong_day ["yard", "value"] (defScope s_first_wrong_day) := ⟨rfl, rfl, rfl, by decide +kernel, rfl, by decide +kernel, by decide +kernel⟩
abbrev nm_want_leaving : List Str := ["yard", "value", "bad"]
theorem sc_want_leaving : FnScope nm_want_leaving ["yard", "value"] (defScope s_want_leaving) := ⟨rfl, rfl, rfl, by decide +kernel, rfl, by decide +kernel, by decide +kernel⟩
abbrev nm_Yard_boxes : List Str := ["self"]
theorem sc_Yard_boxes : FnScope nm_Yard_boxes ["self"] (defScope s_Yard_boxes) := ⟨rfl, rfl, rfl, by decide +kernel, rfl, by decide +kernel, by decide +kernel⟩
abbrev nm_does_hold : List Str := ["leaving", "spots", "fact", "boxes"]
theorem sc_does_hold : FnScope nm_does_hold ["leaving", "spots", "fact"] (defScope s_does_hold) := ⟨rfl, rfl, rfl, by decide +kernel, rfl, by decide +kernel, by decide +kernel⟩
abbrev nm_spots_in : List Str := ["leaving", "found", "day", "boxes", "place", "box"]
theorem sc_spots_in : FnScope nm_spots_in ["leaving"] (defScope s_spots_in) := ⟨rfl, rfl, rfl, by decide +kernel, rfl, by decide +kernel, by decide +kernel⟩
abbrev nm_holds : List Str := ["yard", "leaving", "fact"]
theorem sc_holds : FnScope nm_holds ["yard", "leaving", "fact"] (defScope s_holds) := ⟨rfl, rfl, rfl, by decide +kernel, rfl, by decide +kernel, by decide +kernel⟩
abbrev nm_Yardu_equ : List Str := ["self", "other"]
theorem sc_Yardu_equ : FnScope nm_Yardu_equ ["self", "other"] (defScope s_Yardu_equ) := ⟨rfl, rfl, rfl, by decide +kernel, rfl, by decide +kernel, by decide +kernel⟩
abbrev nm_law_right : List Str := ["_law_pot_here", "_law_tale", "_law_shed", "_law_folk_here", "_law_span", "_law_k", "_law_row", "_law_turn", "_law_due", "_law_told_here", "_law_line", "_law_truth", "_law_near"]
theorem sc_law_right : FnScope nm_law_right ["_law_pot_here"] (defScope s_law_right) := ⟨rfl, rfl, rfl, by decide +kernel, rfl, by decide +kernel, by decide +kernel⟩
abbrev nm_law_pot : List Str := ["_law_script", "_law_k", "_law_cell"]
theorem sc_law_pot : FnScope nm_law_pot ["_law_script", "_law_k"] (defScope s_law_pot) := ⟨rfl, rfl, rfl, by decide +kernel, rfl, by decide +kernel, by decide +kernel⟩
abbrev nm_law : List Str := ["_law_script", "_law_k"]
theorem sc_law : FnScope nm_law ["_law_script"] (defScope s_law) := ⟨rfl, rfl, rfl, by decide +kernel, rfl, by decide +kernel, by decide +kernel⟩
/-! ### what each def computes -/
def b_law_draw : SS := sSeq (sIf (boolT (e2 (gB (iB fun i j => decide (j < i))) (eView (e2 ixD (eVar 0) (eC (.int 0)))) (eC (.int 0)))) (sSeq (sAsgT (.tp [.sb 0 (eC (.int 0)), .nm 2]) (eA (g2 divmodD) (aCons (eView (e2 ixD (eVar 0) (eC (.int 0)))) (aCons (eVar 1) aNil)))) (sRet (eVar 2))) sNx) (sSeq (sAsgT (.sb 0 (eC (.int 1))) (e2 modD (eA (g1 intD) (aCons (e2 addD (e2 mulI (eView (e2 ixD (eVar 0) (eC (.int 1)))) (eC (.int 39979))) (eC (.int 20021))) aNil)) (eC (.int 2147483587)))) (sRet (e2 modD (eA (g1 intD) (aCons (e2 fdivD (e2 modD (eA (g1 intD) (aCons (e2 mulI (eView (e2 ixD (eVar 0) (eC (.int 1)))) (eView (e2 ixD (eVar 0) (eC (.int 1))))) aNil)) (eC (.int 2147483549))) (eC (.int 19))) aNil)) (eVar 1))))
def mir_law_draw : List D → Out := mkF false 1 [true, false] b_law_draw
def b_law_pick : SS := sRet (e2 ixD (eVar 1) (eCall mir_law_draw [some 0, none] (mMv 0 (aCons (eA (g1 lenD) (aCons (eVar 1) aNil)) aNil))))
def mir_law_pick : List D → Out := mkF false 0 [true, false] b_law_pick
def b_law_folk : SS := sSeq (sTup [3, 4] (aCons (eA mkLst (aCons (eC (.str "a")) (aCons (eC (.str "b")) (aCons (eC (.str "c")) (aCons (eC (.str "d")) (aCons (eC (.str "kk")) (aCons (eC (.str "zzzzzz")) (aCons (eC (.str "ab")) (aCons (eC (.str "ba")) (aCons (eC (.str "ahead")) (aCons (eC (.str "days")) (aCons (eC (.str "gone")) (aCons (eC (.str "put")) aNil))))))))))))) (aCons (eC (.lst [])) aNil))) (sSeq (sFor (iRg1 (aCons (eVar 1) aNil)) (.nm 2) (sDrop (eMeth isLst 4 gAppend (aCons (eCall mir_law_pick [some 0, none] (mMv 0 (aCons (eLc (iE (eVar 3)) [5] (.nm 5) (tView (boolT (e2 (gB ninD) (eVar 5) (eVar 4)))) (eVar 5)) aNil))) aNil)))) (sRet (eMv 4)))
def mir_law_folk : List D → Out := mkF false 4 [true, false] b_law_folk
def b_law_fact : SS := sSeq (sAsg 3 (eCall mir_law_draw [some 0, none] (mMv 0 (aCons (eC (.int 5)) aNil)))) (sSeq (sIf (tAnd (boolT (e2 (gB ltD) (eVar 3) (eC (.int 2)))) (boolT (e2 (gB (iB fun i j => decide (j < i))) (eA (g1 lenD) (aCons (eVar 1) aNil)) (eC (.int 1))))) (sSeq (sAsg 5 (eCall mir_law_draw [some 0, none] (mMv 0 (aCons (eA (g1 lenD) (aCons (eVar 1) aNil)) aNil)))) (sRet (eA mkTup (aCons (eC (.str "ahead")) (aCons (e2 ixD (eVar 1) (eVar 5)) (aCons (e2 ixD (eVar 1) (e2 modD (e2 addD (e2 addD (eVar 5) (eC (.int 1))) (eCall mir_law_draw [some 0, none] (mMv 0 (aCons (e2 subD (eA (g1 lenD) (aCons (eVar 1) aNil)) (eC (.int 1))) aNil)))) (eA (g1 lenD) (aCons (eVar 1) aNil)))) aNil)))))) sNx) (sSeq (sIf (boolT (e2 (gB ltD) (eVar 3) (eC (.int 4)))) (sSeq (sAsg 6 (e2 addD (eC (.int 1)) (eCall mir_law_draw [some 0, none] (mMv 0 (aCons (eVar 2) aNil))))) (sRet (eA mkTup (aCons (eC (.str "days")) (aCons (eCall mir_law_pick [some 0, none] (mMv 0 (aCons (eVar 1) aNil))) (aCons (eVar 6) (aCons (e2 addD (eVar 6) (eCall mir_law_draw [some 0, none] (mMv 0 (aCons (e2 addD (e2 subD (eVar 2) (eVar 6)) (eC (.int 1))) aNil)))) aNil))))))) sNx) (sSeq (sAsg 4 (eCall mir_law_draw [some 0, none] (mMv 0 (aCons (e2 addD (eA (g1 lenD) (aCons (eVar 1) aNil)) (eC (.int 1))) aNil)))) (sRet (eA mkTup (aCons (eC (.str "gone")) (aCons (e2 addD (eC (.int 1)) (eCall mir_law_draw [some 0, none] (mMv 0 (aCons (eVar 2) aNil)))) (aCons (eVar 4) (aCons (e2 addD (eVar 4) (eCall mir_law_draw [some 0, none] (mMv 0 (aCons (e2 addD (e2 subD (eA (g1 lenD) (aCons (eVar 1) aNil)) (eVar 4)) (eC (.int 1))) aNil)))) aNil)))))))))
def mir_law_fact : List D → Out := mkF false 4 [true, false, false] b_law_fact
def b_is_list : SS := sRet (eIsiT ["list", "tuple"] (eVar 0))
def mir_is_list : List D → Out := mkF false 0 [false] b_is_list
def b_is_box : SS := sSeq (sIf (tOr (tNot (tE (eIsi "str" (eVar 0)))) (tNot (boolT (eCh2 (gB (iB fun i j => decide (i ≤ j))) (gB (iB fun i j => decide (i ≤ j))) (eC (.int 1)) (eA (g1 lenD) (aCons (eVar 0) aNil)) (eC (.int 6)))))) (sRet (eC (.bl false))) sNx) (sRet (eA (g1 allD) (aCons (eLc (iE (eVar 0)) [1] (.nm 1) tYesD (e2 (gB inD) (eVar 1) (eC (.str "abcdefghijklmnopqrstuvwxyz")))) aNil)))
def mir_is_box : List D → Out := mkF false 1 [false] b_is_box
def b_want_boxes : SS := sSeq (sIf (tOr (tNot (tE (eCall mir_is_list [none] (aCons (eVar 0) aNil)))) (tNot (boolT (eCh2 (gB (iB fun i j => decide (i ≤ j))) (gB (iB fun i j => decide (i ≤ j))) (eC (.int 1)) (eA (g1 lenD) (aCons (eVar 0) aNil)) (eC (.int 10)))))) sStk sNx) (sFor (iEn 0 (aCons (eVar 0) aNil)) (.tp [.nm 1, .nm 2]) (sIf (tOr (tNot (tE (eCall mir_is_box [none] (aCons (eVar 2) aNil)))) (boolT (e2 (gB inD) (eVar 2) (eSl (eVar 0) oNone (oInt (eVar 1)))))) sStk sNx))
def mir_want_boxes : List D → Out := mkF true 2 [false] b_want_boxes
def b_is_integer : SS := sRet (eAnd (eIsi "int" (eVar 0)) (eNot (eIsi "bool" (eVar 0))))
def mir_is_integer : List D → Out := mkF false 0 [false] b_is_integer
def b_want_days : SS := sIf (tOr (tNot (tE (eCall mir_is_integer [none] (aCons (eVar 0) aNil)))) (tNot (boolT (eCh2 (gB (iB fun i j => decide (i ≤ j))) (gB (iB fun i j => decide (i ≤ j))) (eC (.int 1)) (eVar 0) (eC (.int 9)))))) sStk sNx
def mir_want_days : List D → Out := mkF true 0 [false] b_want_days
def b_is_known : SS := sRet (eAnd (eIsi "str" (eVar 1)) (e2 (gB inD) (eVar 1) (eVar 0)))
def mir_is_known : List D → Out := mkF false 0 [false, false] b_is_known
def b_is_ahead_told : SS := sRet (eAnd (e2 (gB eqD) (eA (g1 lenD) (aCons (eVar 1) aNil)) (eC (.int 2))) (eAnd (eCall mir_is_known [none, none] (aCons (eVar 0) (aCons (e2 ixD (eVar 1) (eC (.int 0))) aNil))) (eAnd (eCall mir_is_known [none, none] (aCons (eVar 0) (aCons (e2 ixD (eVar 1) (eC (.int 1))) aNil))) (e2 (gB neD) (e2 ixD (eVar 1) (eC (.int 0))) (e2 ixD (eVar 1) (eC (.int 1)))))))
def mir_is_ahead_told : List D → Out := mkF false 0 [false, false] b_is_ahead_told
def b_are_days_told : SS := sSeq (sIf (tOr (boolT (e2 (gB neD) (eA (g1 lenD) (aCons (eVar 2) aNil)) (eC (.int 3)))) (tNot (tE (eCall mir_is_known [none, none] (aCons (eVar 0) (aCons (e2 ixD (eVar 2) (eC (.int 0))) aNil)))))) (sRet (eC (.bl false))) sNx) (sRet (eAnd (eCall mir_is_integer [none] (aCons (e2 ixD (eVar 2) (eC (.int 1))) aNil)) (eAnd (eCall mir_is_integer [none] (aCons (e2 ixD (eVar 2) (eC (.int 2))) aNil)) (eCh3 (gB (iB fun i j => decide (i ≤ j))) (gB (iB fun i j => decide (i ≤ j))) (gB (iB fun i j => decide (i ≤ j))) (eC (.int 1)) (e2 ixD (eVar 2) (eC (.int 1))) (e2 ixD (eVar 2) (eC (.int 2))) (eVar 1)))))
def mir_are_days_told : List D → Out := mkF false 0 [false, false, false] b_are_days_told
def b_is_count : SS := sRet (eAnd (eCall mir_is_integer [none] (aCons (eVar 0) aNil)) (e2 (gB (iB fun i j => decide (j ≤ i))) (eVar 0) (eC (.int 0))))
def mir_is_count : List D → Out := mkF false 0 [false] b_is_count
def b_is_gone_told : SS := sSeq (sIf (tOr (boolT (e2 (gB neD) (eA (g1 lenD) (aCons (eVar 2) aNil)) (eC (.int 3)))) (tNot (tE (eA (g1 allD) (aCons (eLc (iE (eVar 2)) [3] (.nm 3) tYesD (eCall mir_is_count [none] (aCons (eVar 3) aNil))) aNil))))) (sRet (eC (.bl false))) sNx) (sRet (eAnd (eCh2 (gB (iB fun i j => decide (i ≤ j))) (gB (iB fun i j => decide (i ≤ j))) (eC (.int 1)) (e2 ixD (eVar 2) (eC (.int 0))) (eVar 1)) (eCh2 (gB (iB fun i j => decide (i ≤ j))) (gB (iB fun i j => decide (i ≤ j))) (e2 ixD (eVar 2) (eC (.int 1))) (e2 ixD (eVar 2) (eC (.int 2))) (eVar 0))))
def mir_is_gone_told : List D → Out := mkF false 1 [false, false, false] b_is_gone_told
def b_is_fact : SS := sSeq (sIf (tOr (tNot (tE (eIsi "tuple" (eVar 2)))) (tOr (boolT (e2 (gB eqD) (eA (g1 lenD) (aCons (eVar 2) aNil)) (eC (.int 0)))) (tNot (tE (eIsi "str" (e2 ixD (eVar 2) (eC (.int 0)))))))) (sRet (eC (.bl false))) sNx) (sSeq (sIf (boolT (e2 (gB eqD) (e2 ixD (eVar 2) (eC (.int 0))) (eC (.str "ahead")))) (sRet (eCall mir_is_ahead_told [none, none] (aCons (eVar 0) (aCons (eSl (eVar 2) (oInt (eC (.int 1))) oNone) aNil)))) sNx) (sSeq (sIf (boolT (e2 (gB eqD) (e2 ixD (eVar 2) (eC (.int 0))) (eC (.str "days")))) (sRet (eCall mir_are_days_told [none, none, none] (aCons (eVar 0) (aCons (eVar 1) (aCons (eSl (eVar 2) (oInt (eC (.int 1))) oNone) aNil))))) sNx) (sRet (eAnd (e2 (gB eqD) (e2 ixD (eVar 2) (eC (.int 0))) (eC (.str "gone"))) (eCall mir_is_gone_told [none, none, none] (aCons (eA (g1 lenD) (aCons (eVar 0) aNil)) (aCons (eVar 1) (aCons (eSl (eVar 2) (oInt (eC (.int 1))) oNone) aNil))))))))
def mir_is_fact : List D → Out := mkF false 0 [false, false, false] b_is_fact
def b_want_facts : SS := sSeq (sIf (tNot (tE (eCall mir_is_list [none] (aCons (eVar 2) aNil)))) sStk sNx) (sFor (iEn 0 (aCons (eVar 2) aNil)) (.tp [.nm 3, .nm 4]) (sIf (tNot (tE (eCall mir_is_fact [none, none, none] (aCons (eVar 0) (aCons (eVar 1) (aCons (eVar 4) aNil)))))) sStk sNx))
def mir_want_facts : List D → Out := mkF true 2 [false, false, false] b_want_facts
def b_Yardu_initu : SS := sSeq (sDrop (eCall mir_want_boxes [none] (aCons (eVar 1) aNil))) (sSeq (sDrop (eCall mir_want_days [none] (aCons (eVar 2) aNil))) (sSeq (sDrop (eCall mir_want_facts [none, none, none] (aCons (eVar 1) (aCons (eVar 2) (aCons (eVar 3) aNil))))) (sSeq (sIf (boolT (e2 (gB (iB fun i j => decide (j < i))) (eA (g1 lenD) (aCons (eVar 3) aNil)) (eC (.int 40)))) sStk sNx) (sSeq (sFldI 0 "own_boxes" (eA (g1 tupleD) (aCons (eVar 1) aNil))) (sSeq (sFldI 0 "own_days" (eVar 2)) (sFldI 0 "own_facts" (eA (g1 tupleD) (aCons (eVar 3) aNil))))))))
def mir_Yardu_initu : List D → Out := mkF true 0 [true, false, false, false] b_Yardu_initu
def b_Yard_facts : SS := sRet (eA (g1 listD) (aCons (e1 (fldD "Yard" "own_facts") (eVar 0)) aNil))
def mir_Yard_facts : List D → Out := mkF false 0 [false] b_Yard_facts
def b_want_number : SS := sIf (tOr (tNot (tE (eCall mir_is_count [none] (aCons (eVar 1) aNil)))) (boolT (e2 (gB (iB fun i j => decide (j ≤ i))) (eVar 1) (eA (g1 lenD) (aCons (eMethI "Yard" "facts" 1 mir_Yard_facts (eVar 0) aNil) aNil))))) sStk sNx
def mir_want_number : List D → Out := mkF true 0 [false, false] b_want_number
def b_Yard_days : SS := sRet (e1 (fldD "Yard" "own_days") (eVar 0))
def mir_Yard_days : List D → Out := mkF false 0 [false] b_Yard_days
def b_Yardu_lenu : SS := sRet (eA (g1 lenD) (aCons (e1 (fldD "Yard" "own_boxes") (eVar 0)) aNil))
def mir_Yardu_lenu : List D → Out := mkF false 0 [false] b_Yardu_lenu
def b_turns_of : SS := sSeq (sIf (boolT (e2 (gB eqD) (e2 ixD (eVar 1) (eC (.int 0))) (eC (.str "ahead")))) (sRet (eA mkLst (aCons (eA mkTup (aCons (eC (.str "ahead")) (aCons (e2 ixD (eVar 1) (eC (.int 2))) (aCons (e2 ixD (eVar 1) (eC (.int 1))) aNil)))) aNil))) sNx) (sSeq (sAsgT (.tp [.nm 3, .nm 4, .nm 5, .nm 6]) (eVar 1)) (sSeq (sAsgT (.tp [.nm 7, .nm 8]) (eIf (boolT (e2 (gB eqD) (eVar 3) (eC (.str "days")))) (eA mkTup (aCons (eC (.int 1)) (aCons (eProp "Yard" mir_Yard_days (eVar 0)) aNil))) (eA mkTup (aCons (eC (.int 0)) (aCons (eLenI "Yard" mir_Yardu_lenu (eVar 0)) aNil))))) (sSeq (sAsg 2 (eC (.lst []))) (sSeq (sIf (boolT (e2 (gB ltD) (eVar 7) (eVar 5))) (sDrop (eMeth isLst 2 gAppend (aCons (eA mkTup (aCons (eVar 3) (aCons (eVar 4) (aCons (eVar 7) (aCons (e2 subD (eVar 5) (eC (.int 1))) aNil))))) aNil))) sNx) (sSeq (sIf (boolT (e2 (gB ltD) (eVar 6) (eVar 8))) (sDrop (eMeth isLst 2 gAppend (aCons (eA mkTup (aCons (eVar 3) (aCons (eVar 4) (aCons (e2 addD (eVar 6) (eC (.int 1))) (aCons (eVar 8) aNil))))) aNil))) sNx) (sRet (eMv 2)))))))
def mir_turns_of : List D → Out := mkF false 7 [false, false] b_turns_of
def b_turns : SS := sSeq (sDrop (eCall mir_want_number [none, none] (aCons (eVar 0) (aCons (eVar 1) aNil)))) (sRet (eCall mir_turns_of [none, none] (aCons (eVar 0) (aCons (e2 ixD (eMethI "Yard" "facts" 1 mir_Yard_facts (eVar 0) aNil) (eVar 1)) aNil))))
def mir_turns : List D → Out := mkF false 0 [false, false] b_turns
def b_law_turns : SS := sSeq (sIf (boolT (e2 (gB eqD) (e2 ixD (eVar 2) (eC (.int 0))) (eC (.str "ahead")))) (sRet (eA mkLst (aCons (eA mkTup (aCons (eC (.str "ahead")) (aCons (e2 ixD (eVar 2) (eC (.int 2))) (aCons (e2 ixD (eVar 2) (eC (.int 1))) aNil)))) aNil))) sNx) (sSeq (sAsgT (.tp [.nm 4, .nm 5]) (eIf (boolT (e2 (gB eqD) (e2 ixD (eVar 2) (eC (.int 0))) (eC (.str "days")))) (eA mkTup (aCons (eC (.int 1)) (aCons (eVar 1) aNil))) (eA mkTup (aCons (eC (.int 0)) (aCons (eA (g1 lenD) (aCons (eVar 0) aNil)) aNil))))) (sSeq (sAsg 3 (eA mkLst (aCons (eA mkTup (aCons (e2 ixD (eVar 2) (eC (.int 0))) (aCons (e2 ixD (eVar 2) (eC (.int 1))) (aCons (eVar 4) (aCons (e2 subD (e2 ixD (eVar 2) (eC (.int 2))) (eC (.int 1))) aNil))))) (aCons (eA mkTup (aCons (e2 ixD (eVar 2) (eC (.int 0))) (aCons (e2 ixD (eVar 2) (eC (.int 1))) (aCons (e2 addD (e2 ixD (eVar 2) (eC (.int 3))) (eC (.int 1))) (aCons (eVar 5) aNil))))) aNil)))) (sRet (eLc (iE (eVar 3)) [6] (.nm 6) (boolT (e2 (gB (iB fun i j => decide (i ≤ j))) (e2 ixD (eVar 6) (eC (.int 2))) (e2 ixD (eVar 6) (eC (.int 3))))) (eVar 6)))))
def mir_law_turns : List D → Out := mkF false 4 [false, false, false] b_law_turns
def b_Yardu_addu : SS := sSeq (sIf (tNot (tE (eCall mir_is_fact [none, none, none] (aCons (e1 (fldD "Yard" "own_boxes") (eVar 0)) (aCons (e1 (fldD "Yard" "own_days") (eVar 0)) (aCons (eVar 1) aNil)))))) sStk sNx) (sRet (eMake "Yard" 3 mir_Yardu_initu (aCons (e1 (fldD "Yard" "own_boxes") (eVar 0)) (aCons (e1 (fldD "Yard" "own_days") (eVar 0)) (aCons (eA mkTup (aStar (e1 (fldD "Yard" "own_facts") (eVar 0)) (aCons (eVar 1) aNil))) aNil)))))
def mir_Yardu_addu : List D → Out := mkF false 0 [false, false] b_Yardu_addu
def b_law_mixed : SS := sSeq (sAsg 2 (eA (g1 listD) (aCons (eVar 1) aNil))) (sRet (eLc (iRg1 (aCons (eA (g1 lenD) (aCons (eVar 1) aNil)) aNil)) [3] (.nm 3) tYesD (eMeth isLst 2 gPopAt (aCons (eCall mir_law_draw [some 0, none] (mMv 0 (aCons (eView (eA (g1 lenD) (aCons (eVar 2) aNil))) aNil))) aNil))))
def mir_law_mixed : List D → Out := mkF false 2 [true, false] b_law_mixed
def b_law_told : SS := sSeq (sTup [3, 4] (aCons (eCall mir_law_mixed [some 0, none] (mMv 0 (aCons (eVar 1) aNil))) (aCons (eA (g1 sortID) (aCons (eLc (iE (eVar 1)) [6] (.nm 6) tYesD (e2 addD (eC (.int 1)) (eCall mir_law_draw [some 0, none] (mMv 0 (aCons (eVar 2) aNil))))) aNil)) aNil))) (sRet (eLc (iRg1 (aCons (eVar 2) aNil)) [5] (.nm 5) tYesD (eLc (iZp (aCons (eVar 3) (aCons (eVar 4) aNil))) [6, 7] (.tp [.nm 6, .nm 7]) (boolT (e2 (gB eqD) (eVar 7) (e2 addD (eVar 5) (eC (.int 1))))) (eVar 6))))
def mir_law_told : List D → Out := mkF false 5 [true, false, false] b_law_told
def b_is_list_of_days : SS := sRet (eAnd (eCall mir_is_list [none] (aCons (eVar 1) aNil)) (eAnd (e2 (gB eqD) (eA (g1 lenD) (aCons (eVar 1) aNil)) (eProp "Yard" mir_Yard_days (eVar 0))) (eA (g1 allD) (aCons (eLc (iE (eVar 1)) [2] (.nm 2) tYesD (eCall mir_is_list [none] (aCons (eVar 2) aNil))) aNil))))
def mir_is_list_of_days : List D → Out := mkF false 1 [false, false] b_is_list_of_days
def b_Yardu_containsu : SS := sRet (eCall mir_is_known [none, none] (aCons (e1 (fldD "Yard" "own_boxes") (eVar 0)) (aCons (eVar 1) aNil)))
def mir_Yardu_containsu : List D → Out := mkF false 0 [false, false] b_Yardu_containsu
def b_first_wrong_day : SS := sSeq (sAsg 2 (eC (.lst []))) (sSeq (sFor (iEn 0 (aCons (eVar 1) aNil)) (.tp [.nm 3, .nm 4]) (sFor (iE (eVar 4)) (.nm 5) (sSeq (sIf (tOr (boolT (eInI true "Yard" mir_Yardu_containsu (eVar 5) (eVar 0))) (tView (boolT (e2 (gB inD) (eVar 5) (eVar 2))))) (sRet (eVar 3)) sNx) (sDrop (eMeth isLst 2 gAppend (aCons (eVar 5) aNil)))))) (sRet (eIf (boolT (e2 (gB eqD) (eA (g1 lenD) (aCons (eVar 2) aNil)) (eLenI "Yard" mir_Yardu_lenu (eVar 0)))) (eC .non) (eProp "Yard" mir_Yard_days (eVar 0)))))
def mir_first_wrong_day : List D → Out := mkF false 4 [false, false] b_first_wrong_day
def b_want_leaving : SS := sSeq (sIf (tNot (tE (eCall mir_is_list_of_days [none, none] (aCons (eVar 0) (aCons (eVar 1) aNil))))) sStk sNx) (sSeq (sAsg 2 (eCall mir_first_wrong_day [none, none] (aCons (eVar 0) (aCons (eVar 1) aNil)))) (sIf (boolT (e2 (gB isNND) (eVar 2) (eC .non))) sStk sNx))
def mir_want_leaving : List D → Out := mkF true 1 [false, false] b_want_leaving
def b_Yard_boxes : SS := sRet (eA (g1 listD) (aCons (e1 (fldD "Yard" "own_boxes") (eVar 0)) aNil))
def mir_Yard_boxes : List D → Out := mkF false 0 [false] b_Yard_boxes
def b_does_hold : SS := sSeq (sIf (boolT (e2 (gB eqD) (e2 ixD (eVar 2) (eC (.int 0))) (eC (.str "ahead")))) (sRet (e2 (gB ltD) (e2 ixD (eVar 1) (e2 ixD (eVar 2) (eC (.int 1)))) (e2 ixD (eVar 1) (e2 ixD (eVar 2) (eC (.int 2)))))) sNx) (sSeq (sIf (boolT (e2 (gB eqD) (e2 ixD (eVar 2) (eC (.int 0))) (eC (.str "days")))) (sRet (eCh2 (gB (iB fun i j => decide (i ≤ j))) (gB (iB fun i j => decide (i ≤ j))) (e2 ixD (eVar 2) (eC (.int 2))) (e2 ixD (e2 ixD (eVar 1) (e2 ixD (eVar 2) (eC (.int 1)))) (eC (.int 0))) (e2 ixD (eVar 2) (eC (.int 3))))) sNx) (sRet (eCh2 (gB (iB fun i j => decide (i ≤ j))) (gB (iB fun i j => decide (i ≤ j))) (e2 ixD (eVar 2) (eC (.int 2))) (eA (g1 sumD) (aCons (eLc (iE (eSl (eVar 0) oNone (oInt (e2 ixD (eVar 2) (eC (.int 1)))))) [3] (.nm 3) tYesD (eA (g1 lenD) (aCons (eVar 3) aNil))) aNil)) (e2 ixD (eVar 2) (eC (.int 3))))))
def mir_does_hold : List D → Out := mkF false 1 [false, false, false] b_does_hold
def b_spots_in : SS := sSeq (sAsg 1 (eC (.dct false []))) (sSeq (sFor (iEn 1 (aCons (eVar 0) aNil)) (.tp [.nm 2, .nm 3]) (sDrop (eMeth isDct 1 gUpdate (aCons (eDc (iEn 0 (aCons (eVar 3) aNil)) [4, 5] (.tp [.nm 4, .nm 5]) tYesD (eVar 5) (eA mkTup (aCons (eVar 2) (aCons (eVar 4) aNil)))) aNil)))) (sRet (eMv 1)))
def mir_spots_in : List D → Out := mkF false 5 [false] b_spots_in
def b_holds : SS := sSeq (sDrop (eCall mir_want_leaving [none, none] (aCons (eVar 0) (aCons (eVar 1) aNil)))) (sSeq (sIf (tNot (tE (eCall mir_is_fact [none, none, none] (aCons (eMethI "Yard" "boxes" 1 mir_Yard_boxes (eVar 0) aNil) (aCons (eProp "Yard" mir_Yard_days (eVar 0)) (aCons (eVar 2) aNil)))))) sStk sNx) (sRet (eCall mir_does_hold [none, none, none] (aCons (eVar 1) (aCons (eCall mir_spots_in [none] (aCons (eVar 1) aNil)) (aCons (eVar 2) aNil))))))
def mir_holds : List D → Out := mkF false 0 [false, false, false] b_holds
def b_Yardu_equ : SS := sSeq (sIf (tOr (tNot (tE (e1 (isiOD "Yard") (eVar 1)))) (boolT (e2 (gB neD) (e1 (fldD "Yard" "own_boxes") (eVar 0)) (e1 (fldD "Yard" "own_boxes") (eVar 1))))) (sRet (eC (.bl false))) sNx) (sRet (eAnd (e2 (gB eqD) (e1 (fldD "Yard" "own_days") (eVar 0)) (e1 (fldD "Yard" "own_days") (eVar 1))) (e2 (gB eqD) (e1 (fldD "Yard" "own_facts") (eVar 0)) (e1 (fldD "Yard" "own_facts") (eVar 1)))))
def mir_Yardu_equ : List D → Out := mkF false 0 [false, false] b_Yardu_equ
def b_law_right : SS := sSeq (sTup [3, 4] (aCons (eCall mir_law_folk [some 0, none] (mLt 0 (aCons (e2 addD (eC (.int 1)) (eCall mir_law_draw [some 0, none] (mMv 0 (aCons (eC (.int 6)) aNil)))) aNil))) (aCons (e2 addD (eC (.int 1)) (eCall mir_law_draw [some 0, none] (mMv 0 (aCons (eC (.int 9)) aNil)))) aNil))) (sSeq (sAsg 1 (eLc (iRg1 (aCons (e2 addD (eC (.int 1)) (eCall mir_law_draw [some 0, none] (mMv 0 (aCons (eC (.int 8)) aNil)))) aNil)) [7] (.nm 7) tYesD (eCall mir_law_fact [some 0, none, none] (mMv 0 (aCons (eVar 3) (aCons (eVar 4) aNil)))))) (sSeq (sAsg 2 (eMake "Yard" 3 mir_Yardu_initu (aCons (eVar 3) (aCons (eVar 4) (aCons (eVar 1) aNil))))) (sSeq (sFor (iEn 0 (aCons (eVar 1) aNil)) (.tp [.nm 5, .nm 6]) (sSeq (sPar 8 9 (aCons (eCall mir_law_turns [none, none, none] (aCons (eVar 3) (aCons (eVar 4) (aCons (eVar 6) aNil)))) (aCons (eCall mir_turns [none, none] (aCons (eVar 2) (aCons (eVar 5) aNil))) aNil))) (sSeq (sIf (tOr (tNot (tView (tE (eIsi "list" (eVar 9))))) (tOr (tView (boolT (e2 (gB neD) (eVar 9) (eVar 8)))) (boolT (e2 (gB neD) (eCallK 2 mir_turns 0 [1, 0] aNil (aCons (eVar 5) (aCons (eVar 2) aNil))) (eVar 8))))) (sRet (eC (.bl false))) sNx) (sSeq (sIf (tNot (tE (eA (g1 allD) (aCons (eLc (iE (eVar 8)) [12] (.nm 12) tYesD (e2 (gB eqD) (eMethI "Yard" "facts" 1 mir_Yard_facts (eBinI "Yard" "tuple" mir_Yardu_addu (eVar 2) (eVar 12)) aNil) (e2 addD (eVar 1) (eA mkLst (aCons (eVar 12) aNil))))) aNil)))) (sRet (eC (.bl false))) sNx) (sSeq (sDrop (eMeth isLst 9 gAppend (aCons (eC (.str "odd")) aNil))) (sSeq (sIf (boolT (e2 (gB neD) (eCall mir_turns [none, none] (aCons (eVar 2) (aCons (eVar 5) aNil))) (eVar 8))) (sRet (eC (.bl false))) sNx) (sFor (iRg1 (aCons (eC (.int 4)) aNil)) (.nm 7) (sSeq (sAsg 10 (eCall mir_law_told [some 0, none, none] (mMv 0 (aCons (eVar 3) (aCons (eVar 4) aNil))))) (sSeq (sAsg 11 (eLc (iE (e2 addD (eA mkLst (aCons (eVar 6) aNil)) (eVar 8))) [12] (.nm 12) tYesD (eCall mir_holds [none, none, none] (aCons (eVar 2) (aCons (eVar 10) (aCons (eVar 12) aNil)))))) (sIf (boolT (e2 (gB neD) (eA (g1 sortSD) (aCons (eLc (iE (eVar 11)) [12] (.nm 12) tYesD (eA (g1 reprBD) (aCons (eVar 12) aNil))) aNil)) (e2 addD (eRep (eA mkLst (aCons (eC (.str "False")) aNil)) (eA (g1 lenD) (aCons (eVar 8) aNil))) (eA mkLst (aCons (eC (.str "True")) aNil))))) (sRet (eC (.bl false))) sNx)))))))))) (sRet (eEqI "Yard" mir_Yardu_equ (eVar 2) (eMake "Yard" 3 mir_Yardu_initu (aCons (eVar 3) (aCons (eVar 4) (aCons (eVar 1) aNil)))))))))
def mir_law_right : List D → Out := mkF false 12 [true] b_law_right
def b_law_pot : SS := sSeq (sAsg 2 (e2 addD (e2 mulI (eC (.int 31)) (eVar 1)) (eC (.int 11)))) (sSeq (sIf (boolT (e2 (gB ltD) (eVar 1) (eA (g1 lenD) (aCons (eVar 0) aNil)))) (sAsg 2 (eA (g1 absD) (aCons (e2 ixD (eVar 0) (eVar 1)) aNil))) sNx) (sRet (eA mkLst (aCons (eA (g2 max2D) (aCons (eC (.int 0)) (aCons (e2 subD (eVar 2) (e2 powD (eC (.int 10)) (eC (.int 18)))) aNil))) (aCons (e2 addD (e2 modD (eA (g1 intD) (aCons (e2 addD (e2 addD (e2 mulI (e2 modD (eA (g1 intD) (aCons (eVar 2) aNil)) (eC (.int 2147483563))) (eC (.int 40013))) (e2 mulI (eC (.int 7919)) (eVar 1))) (eC (.int 51))) aNil)) (eC (.int 2147483629))) (eC (.int 1))) aNil)))))
def mir_law_pot : List D → Out := mkF false 1 [false, false] b_law_pot
def b_law : SS := sRet (eA (g1 allD) (aCons (eLc (iRg1 (aCons (eA (g2 max2D) (aCons (eC (.int 1)) (aCons (eA (g2 min2D) (aCons (eC (.int 4)) (aCons (eA (g1 lenD) (aCons (eVar 0) aNil)) aNil))) aNil))) aNil)) [1] (.nm 1) tYesD (eCall mir_law_right [none] (aCons (eCall mir_law_pot [none, none] (aCons (eVar 0) (aCons (eVar 1) aNil))) aNil))) aNil))
def mir_law : List D → Out := mkF false 1 [false] b_law
abbrev sg_law_draw : Sig := ⟨[(.c .z), .z], [true, false], .z⟩
abbrev sg_law_pick : Sig := ⟨[(.c .z), .z], [true, false], .z⟩
abbrev sg_law_folk : Sig := ⟨[(.c .z), .z], [true, false], .z⟩
abbrev sg_law_fact : Sig := ⟨[(.c .z), .z, .z], [true, false, false], .z⟩
abbrev sg_is_list : Sig := ⟨[.z], [false], .z⟩
abbrev sg_is_box : Sig := ⟨[.z], [false], .z⟩
abbrev sg_want_boxes : Sig := ⟨[.z], [false], .z⟩
abbrev sg_is_integer : Sig := ⟨[.z], [false], .z⟩
abbrev sg_want_days : Sig := ⟨[.z], [false], .z⟩
abbrev sg_is_known : Sig := ⟨[.z, .z], [false, false], .z⟩
abbrev sg_is_ahead_told : Sig := ⟨[.z, .z], [false, false], .z⟩
abbrev sg_are_days_told : Sig := ⟨[.z, .z, .z], [false, false, false], .z⟩
abbrev sg_is_count : Sig := ⟨[.z], [false], .z⟩
abbrev sg_is_gone_told : Sig := ⟨[.z, .z, .z], [false, false, false], .z⟩
abbrev sg_is_fact : Sig := ⟨[.z, .z, .z], [false, false, false], .z⟩
abbrev sg_want_facts : Sig := ⟨[.z, .z, .z], [false, false, false], .z⟩
abbrev sg_Yardu_initu : Sig := ⟨[.i, .z, .z, .z], [true, false, false, false], .z⟩
abbrev sg_Yard_facts : Sig := ⟨[.z], [false], .z⟩
abbrev sg_want_number : Sig := ⟨[.z, .z], [false, false], .z⟩
abbrev sg_Yard_days : Sig := ⟨[.z], [false], .z⟩
abbrev sg_Yardu_lenu : Sig := ⟨[.z], [false], .z⟩
abbrev sg_turns_of : Sig := ⟨[.z, .z], [false, false], (.c .z)⟩
abbrev sg_turns : Sig := ⟨[.z, .z], [false, false], (.c .z)⟩
abbrev sg_law_turns : Sig := ⟨[.z, .z, .z], [false, false, false], .z⟩
abbrev sg_Yardu_addu : Sig := ⟨[.z, .z], [false, false], .z⟩
abbrev sg_law_mixed : Sig := ⟨[(.c .z), .z], [true, false], .z⟩
abbrev sg_law_told : Sig := ⟨[(.c .z), .z, .z], [true, false, false], .z⟩
abbrev sg_is_list_of_days : Sig := ⟨[.z, .z], [false, false], .z⟩
abbrev sg_Yardu_containsu : Sig := ⟨[.z, .z], [false, false], .z⟩
abbrev sg_first_wrong_day : Sig := ⟨[.z, .z], [false, false], .z⟩
abbrev sg_want_leaving : Sig := ⟨[.z, .z], [false, false], .z⟩
abbrev sg_Yard_boxes : Sig := ⟨[.z], [false], .z⟩
abbrev sg_does_hold : Sig := ⟨[.z, .z, .z], [false, false, false], .z⟩
abbrev sg_spots_in : Sig := ⟨[.z], [false], .z⟩
abbrev sg_holds : Sig := ⟨[.z, .z, .z], [false, false, false], .z⟩
abbrev sg_Yardu_equ : Sig := ⟨[.z, .z], [false, false], .z⟩
abbrev sg_law_right : Sig := ⟨[(.c .z)], [true], .z⟩
abbrev sg_law_pot : Sig := ⟨[.z, .z], [false, false], (.c .z)⟩
abbrev sg_law : Sig := ⟨[.z], [false], .z⟩
/-! ### the facts of the text -/
structure Txt (K : PySem.W.Frag) (mg : Str → Option Value) where
  a_Yard : Addr
  g_Yard : mg "Yard" = some (.ref a_Yard)
  c_Yard : Cls K a_Yard
  n_abs : mg "abs" = none
  n_all : mg "all" = none
  n_bool : mg "bool" = none
  n_divmod : mg "divmod" = none
  n_enumerate : mg "enumerate" = none
  n_int : mg "int" = none
  n_isinstance : mg "isinstance" = none
  n_len : mg "len" = none
  n_list : mg "list" = none
  n_max : mg "max" = none
  n_min : mg "min" = none
  n_range : mg "range" = none
  n_repr : mg "repr" = none
  n_sorted : mg "sorted" = none
  n_str : mg "str" = none
  n_sum : mg "sum" = none
  n_tuple : mg "tuple" = none
  n_zip : mg "zip" = none
  t_AHEAD : Tok
  g_AHEAD : mg "AHEAD" = some (.str "ahead" t_AHEAD)
  t_DAYS : Tok
  g_DAYS : mg "DAYS" = some (.str "days" t_DAYS)
  t_GONE : Tok
  g_GONE : mg "GONE" = some (.str "gone" t_GONE)
  t_LETTERS : Tok
  g_LETTERS : mg "LETTERS" = some (.str "abcdefghijklmnopqrstuvwxyz" t_LETTERS)
  t_LONGEST_BOX : Tok
  g_LONGEST_BOX : mg "LONGEST_BOX" = some (.int 6 t_LONGEST_BOX)
  t_MOST_DAYS : Tok
  g_MOST_DAYS : mg "MOST_DAYS" = some (.int 9 t_MOST_DAYS)
  f_law_draw : Addr
  d_law_draw : FuncData
  F_law_draw : Fun K "_law_draw" "_law_draw" s_law_draw f_law_draw d_law_draw
  B_law_draw : Binds K d_law_draw ["_law_pot_here", "_law_size"] []
  m_law_draw : mg "_law_draw" = some (.ref f_law_draw)
  k_law_draw : PySem.W.keepIn K (.ref f_law_draw) = true
  f_law_pick : Addr
  d_law_pick : FuncData
  F_law_pick : Fun K "_law_pick" "_law_pick" s_law_pick f_law_pick d_law_pick
  B_law_pick : Binds K d_law_pick ["_law_pot_here", "_law_some"] []
  m_law_pick : mg "_law_pick" = some (.ref f_law_pick)
  k_law_pick : PySem.W.keepIn K (.ref f_law_pick) = true
  f_law_folk : Addr
  d_law_folk : FuncData
  F_law_folk : Fun K "_law_folk" "_law_folk" s_law_folk f_law_folk d_law_folk
  B_law_folk : Binds K d_law_folk ["_law_pot_here", "_law_size"] []
  m_law_folk : mg "_law_folk" = some (.ref f_law_folk)
  k_law_folk : PySem.W.keepIn K (.ref f_law_folk) = true
  f_law_fact : Addr
  d_law_fact : FuncData
  F_law_fact : Fun K "_law_fact" "_law_fact" s_law_fact f_law_fact d_law_fact
  B_law_fact : Binds K d_law_fact ["_law_pot_here", "_law_folk_here", "_law_span"] []
  m_law_fact : mg "_law_fact" = some (.ref f_law_fact)
  k_law_fact : PySem.W.keepIn K (.ref f_law_fact) = true
  f_is_list : Addr
  d_is_list : FuncData
  F_is_list : Fun K "is_list" "is_list" s_is_list f_is_list d_is_list
  B_is_list : Binds K d_is_list ["value"] []
  m_is_list : mg "is_list" = some (.ref f_is_list)
  k_is_list : PySem.W.keepIn K (.ref f_is_list) = true
  f_is_box : Addr
  d_is_box : FuncData
  F_is_box : Fun K "is_box" "is_box" s_is_box f_is_box d_is_box
  B_is_box : Binds K d_is_box ["value"] []
  m_is_box : mg "is_box" = some (.ref f_is_box)
  k_is_box : PySem.W.keepIn K (.ref f_is_box) = true
  f_want_boxes : Addr
  d_want_boxes : FuncData
  F_want_boxes : Fun K "want_boxes" "want_boxes" s_want_boxes f_want_boxes d_want_boxes
  B_want_boxes : Binds K d_want_boxes ["value"] []
  m_want_boxes : mg "want_boxes" = some (.ref f_want_boxes)
  k_want_boxes : PySem.W.keepIn K (.ref f_want_boxes) = true
  f_is_integer : Addr
  d_is_integer : FuncData
  F_is_integer : Fun K "is_integer" "is_integer" s_is_integer f_is_integer d_is_integer
  B_is_integer : Binds K d_is_integer ["value"] []
  m_is_integer : mg "is_integer" = some (.ref f_is_integer)
  k_is_integer : PySem.W.keepIn K (.ref f_is_integer) = true
  f_want_days : Addr
  d_want_days : FuncData
  F_want_days : Fun K "want_days" "want_days" s_want_days f_want_days d_want_days
  B_want_days : Binds K d_want_days ["value"] []
  m_want_days : mg "want_days" = some (.ref f_want_days)
  k_want_days : PySem.W.keepIn K (.ref f_want_days) = true
  f_is_known : Addr
  d_is_known : FuncData
  F_is_known : Fun K "is_known" "is_known" s_is_known f_is_known d_is_known
  B_is_known : Binds K d_is_known ["boxes", "value"] []
  m_is_known : mg "is_known" = some (.ref f_is_known)
  k_is_known : PySem.W.keepIn K (.ref f_is_known) = true
  f_is_ahead_told : Addr
  d_is_ahead_told : FuncData
  F_is_ahead_told : Fun K "is_ahead_told" "is_ahead_told" s_is_ahead_told f_is_ahead_told d_is_ahead_told
  B_is_ahead_told : Binds K d_is_ahead_told ["boxes", "rest"] []
  m_is_ahead_told : mg "is_ahead_told" = some (.ref f_is_ahead_told)
  k_is_ahead_told : PySem.W.keepIn K (.ref f_is_ahead_told) = true
  f_are_days_told : Addr
  d_are_days_told : FuncData
  F_are_days_told : Fun K "are_days_told" "are_days_told" s_are_days_told f_are_days_told d_are_days_told
  B_are_days_told : Binds K d_are_days_told ["boxes", "days", "rest"] []
  m_are_days_told : mg "are_days_told" = some (.ref f_are_days_told)
  k_are_days_told : PySem.W.keepIn K (.ref f_are_days_told) = true
  f_is_count : Addr
  d_is_count : FuncData
  F_is_count : Fun K "is_count" "is_count" s_is_count f_is_count d_is_count
  B_is_count : Binds K d_is_count ["value"] []
  m_is_count : mg "is_count" = some (.ref f_is_count)
  k_is_count : PySem.W.keepIn K (.ref f_is_count) = true
  f_is_gone_told : Addr
  d_is_gone_told : FuncData
  F_is_gone_told : Fun K "is_gone_told" "is_gone_told" s_is_gone_told f_is_gone_told d_is_gone_told
  B_is_gone_told : Binds K d_is_gone_told ["many", "days", "rest"] []
  m_is_gone_told : mg "is_gone_told" = some (.ref f_is_gone_told)
  k_is_gone_told : PySem.W.keepIn K (.ref f_is_gone_told) = true
  f_is_fact : Addr
  d_is_fact : FuncData
  F_is_fact : Fun K "is_fact" "is_fact" s_is_fact f_is_fact d_is_fact
  B_is_fact : Binds K d_is_fact ["boxes", "days", "value"] []
  m_is_fact : mg "is_fact" = some (.ref f_is_fact)
  k_is_fact : PySem.W.keepIn K (.ref f_is_fact) = true
  f_want_facts : Addr
  d_want_facts : FuncData
  F_want_facts : Fun K "want_facts" "want_facts" s_want_facts f_want_facts d_want_facts
  B_want_facts : Binds K d_want_facts ["boxes", "days", "value"] []
  m_want_facts : mg "want_facts" = some (.ref f_want_facts)
  k_want_facts : PySem.W.keepIn K (.ref f_want_facts) = true
  f_Yardu_initu : Addr
  d_Yardu_initu : FuncData
  F_Yardu_initu : Fun K "__init__" "Yard.__init__" s_Yardu_initu f_Yardu_initu d_Yardu_initu
  B_Yardu_initu : Binds K d_Yardu_initu ["self", "boxes", "days", "facts"] []
  m_Yard : Mk K a_Yard f_Yardu_initu
  f_Yard_facts : Addr
  d_Yard_facts : FuncData
  F_Yard_facts : Fun K "facts" "Yard.facts" s_Yard_facts f_Yard_facts d_Yard_facts
  B_Yard_facts : Binds K d_Yard_facts ["self"] []
  t_Yard_facts : Meth K a_Yard "facts" f_Yard_facts
  f_want_number : Addr
  d_want_number : FuncData
  F_want_number : Fun K "want_number" "want_number" s_want_number f_want_number d_want_number
  B_want_number : Binds K d_want_number ["yard", "value"] []
  m_want_number : mg "want_number" = some (.ref f_want_number)
  k_want_number : PySem.W.keepIn K (.ref f_want_number) = true
  f_Yard_days : Addr
  d_Yard_days : FuncData
  F_Yard_days : Fun K "days" "Yard.days" s_Yard_days f_Yard_days d_Yard_days
  B_Yard_days : Binds K d_Yard_days ["self"] []
  pa_Yard_days : Addr
  p_Yard_days : PropOf K a_Yard "days" pa_Yard_days f_Yard_days
  f_Yardu_lenu : Addr
  d_Yardu_lenu : FuncData
  F_Yardu_lenu : Fun K "__len__" "Yard.__len__" s_Yardu_lenu f_Yardu_lenu d_Yardu_lenu
  B_Yardu_lenu : Binds K d_Yardu_lenu ["self"] []
  u_Yard_len : Dun K a_Yard "__len__" f_Yardu_lenu
  f_turns_of : Addr
  d_turns_of : FuncData
  F_turns_of : Fun K "turns_of" "turns_of" s_turns_of f_turns_of d_turns_of
  B_turns_of : Binds K d_turns_of ["yard", "fact"] []
  m_turns_of : mg "turns_of" = some (.ref f_turns_of)
  k_turns_of : PySem.W.keepIn K (.ref f_turns_of) = true
  f_turns : Addr
  d_turns : FuncData
  F_turns : Fun K "turns" "turns" s_turns f_turns d_turns
  B_turns : Binds K d_turns ["yard", "number"] []
  m_turns : mg "turns" = some (.ref f_turns)
  k_turns : PySem.W.keepIn K (.ref f_turns) = true
  f_law_turns : Addr
  d_law_turns : FuncData
  F_law_turns : Fun K "_law_turns" "_law_turns" s_law_turns f_law_turns d_law_turns
  B_law_turns : Binds K d_law_turns ["_law_folk_here", "_law_span", "_law_row"] []
  m_law_turns : mg "_law_turns" = some (.ref f_law_turns)
  k_law_turns : PySem.W.keepIn K (.ref f_law_turns) = true
  f_Yardu_addu : Addr
  d_Yardu_addu : FuncData
  F_Yardu_addu : Fun K "__add__" "Yard.__add__" s_Yardu_addu f_Yardu_addu d_Yardu_addu
  B_Yardu_addu : Binds K d_Yardu_addu ["self", "other"] []
  b_Yard_add_tuple : BinF K a_Yard f_Yardu_addu "add" "tuple"
  f_law_mixed : Addr
  d_law_mixed : FuncData
  F_law_mixed : Fun K "_law_mixed" "_law_mixed" s_law_mixed f_law_mixed d_law_mixed
  B_law_mixed : Binds K d_law_mixed ["_law_pot_here", "_law_some"] []
  m_law_mixed : mg "_law_mixed" = some (.ref f_law_mixed)
  k_law_mixed : PySem.W.keepIn K (.ref f_law_mixed) = true
  f_law_told : Addr
  d_law_told : FuncData
  F_law_told : Fun K "_law_told" "_law_told" s_law_told f_law_told d_law_told
  B_law_told : Binds K d_law_told ["_law_pot_here", "_law_folk_here", "_law_span"] []
  m_law_told : mg "_law_told" = some (.ref f_law_told)
  k_law_told : PySem.W.keepIn K (.ref f_law_told) = true
  f_is_list_of_days : Addr
  d_is_list_of_days : FuncData
  F_is_list_of_days : Fun K "is_list_of_days" "is_list_of_days" s_is_list_of_days f_is_list_of_days d_is_list_of_days
  B_is_list_of_days : Binds K d_is_list_of_days ["yard", "value"] []
  m_is_list_of_days : mg "is_list_of_days" = some (.ref f_is_list_of_days)
  k_is_list_of_days : PySem.W.keepIn K (.ref f_is_list_of_days) = true
  f_Yardu_containsu : Addr
  d_Yardu_containsu : FuncData
  F_Yardu_containsu : Fun K "__contains__" "Yard.__contains__" s_Yardu_containsu f_Yardu_containsu d_Yardu_containsu
  B_Yardu_containsu : Binds K d_Yardu_containsu ["self", "value"] []
  u_Yard_contains : Dun K a_Yard "__contains__" f_Yardu_containsu
  f_first_wrong_day : Addr
  d_first_wrong_day : FuncData
  F_first_wrong_day : Fun K "first_wrong_day" "first_wrong_day" s_first_wrong_day f_first_wrong_day d_first_wrong_day
  B_first_wrong_day : Binds K d_first_wrong_day ["yard", "value"] []
  m_first_wrong_day : mg "first_wrong_day" = some (.ref f_first_wrong_day)
  k_first_wrong_day : PySem.W.keepIn K (.ref f_first_wrong_day) = true
  f_want_leaving : Addr
  d_want_leaving : FuncData
  F_want_leaving : Fun K "want_leaving" "want_leaving" s_want_leaving f_want_leaving d_want_leaving
  B_want_leaving : Binds K d_want_leaving ["yard", "value"] []
  m_want_leaving : mg "want_leaving" = some (.ref f_want_leaving)
  k_want_leaving : PySem.W.keepIn K (.ref f_want_leaving) = true
  f_Yard_boxes : Addr
  d_Yard_boxes : FuncData
  F_Yard_boxes : Fun K "boxes" "Yard.boxes" s_Yard_boxes f_Yard_boxes d_Yard_boxes
  B_Yard_boxes : Binds K d_Yard_boxes ["self"] []
  t_Yard_boxes : Meth K a_Yard "boxes" f_Yard_boxes
  f_does_hold : Addr
  d_does_hold : FuncData
  F_does_hold : Fun K "does_hold" "does_hold" s_does_hold f_does_hold d_does_hold
  B_does_hold : Binds K d_does_hold ["leaving", "spots", "fact"] []
  m_does_hold : mg "does_hold" = some (.ref f_does_hold)
  k_does_hold : PySem.W.keepIn K (.ref f_does_hold) = true
  f_spots_in : Addr
  d_spots_in : FuncData
  F_spots_in : Fun K "spots_in" "spots_in" s_spots_in f_spots_in d_spots_in
  B_spots_in : Binds K d_spots_in ["leaving"] []
  m_spots_in : mg "spots_in" = some (.ref f_spots_in)
  k_spots_in : PySem.W.keepIn K (.ref f_spots_in) = true
  f_holds : Addr
  d_holds : FuncData
  F_holds : Fun K "holds" "holds" s_holds f_holds d_holds
  B_holds : Binds K d_holds ["yard", "leaving", "fact"] []
  m_holds : mg "holds" = some (.ref f_holds)
  k_holds : PySem.W.keepIn K (.ref f_holds) = true
  f_Yardu_equ : Addr
  d_Yardu_equ : FuncData
  F_Yardu_equ : Fun K "__eq__" "Yard.__eq__" s_Yardu_equ f_Yardu_equ d_Yardu_equ
  B_Yardu_equ : Binds K d_Yardu_equ ["self", "other"] []
  q_Yard : EqF K a_Yard f_Yardu_equ
  f_law_right : Addr
  d_law_right : FuncData
  F_law_right : Fun K "_law_right" "_law_right" s_law_right f_law_right d_law_right
  B_law_right : Binds K d_law_right ["_law_pot_here"] []
  m_law_right : mg "_law_right" = some (.ref f_law_right)
  k_law_right : PySem.W.keepIn K (.ref f_law_right) = true
  f_law_pot : Addr
  d_law_pot : FuncData
  F_law_pot : Fun K "_law_pot" "_law_pot" s_law_pot f_law_pot d_law_pot
  B_law_pot : Binds K d_law_pot ["_law_script", "_law_k"] []
  m_law_pot : mg "_law_pot" = some (.ref f_law_pot)
  k_law_pot : PySem.W.keepIn K (.ref f_law_pot) = true
  f_law : Addr
  d_law : FuncData
  F_law : Fun K "law" "law" s_law f_law d_law
  B_law : Binds K d_law ["_law_script"] []
  m_law : mg "law" = some (.ref f_law)
  k_law : PySem.W.keepIn K (.ref f_law) = true
  a_Yard_own_boxes : NoAttr K a_Yard "own_boxes"
  a_Yard_own_days : NoAttr K a_Yard "own_days"
  a_Yard_own_facts : NoAttr K a_Yard "own_facts"
  r_Yard : ClX.CRead K a_Yard (.type "type")
  tv_Yard_MOST_BOXES : Tok
  v_Yard_MOST_BOXES : ClX.CVal K a_Yard (.type "type") "MOST_BOXES" (.int 10) (.int 10 tv_Yard_MOST_BOXES)
  tv_Yard_MOST_FACTS : Tok
  v_Yard_MOST_FACTS : ClX.CVal K a_Yard (.type "type") "MOST_FACTS" (.int 40) (.int 40 tv_Yard_MOST_FACTS)
  i_Yard : IsiF K a_Yard
  K_turns_0_1_0 : KBinds K d_turns ["yard", "number"] ["number", "yard"] (kwG 0 [1, 0]) (kwG 0 [1, 0])
namespace Txt
variable {K : PySem.W.Frag} {mg : Str → Option Value} (T : Txt K mg)
def clF (x : Str) : Option Addr := if x = "Yard" then some T.a_Yard else none
theorem cqF (a b : Str) (x : Addr) (h : T.clF a = some x) (k : T.clF b = some x) : a = b := by
  unfold clF at h k
  by_cases p : a = "Yard"
  · by_cases q : b = "Yard"
    · rw [p, q]
    · rw [if_neg q] at k; cases k
  · rw [if_neg p] at h; cases h
def C : Cfg := ⟨K, T.clF, T.cqF⟩
theorem h_Yard : T.C.cl "Yard" = some T.a_Yard := by show T.clF "Yard" = _; unfold clF; rw [if_pos rfl]
theorem s_own_boxes (c : Str) (Ca : Addr) (h : T.C.cl c = some Ca) : Cls K Ca ∧ NoAttr K Ca "own_boxes" := by
  have h : T.clF c = some Ca := h
  unfold clF at h
  split at h
  · cases h; exact ⟨T.c_Yard, T.a_Yard_own_boxes⟩
  · cases h
theorem s_own_days (c : Str) (Ca : Addr) (h : T.C.cl c = some Ca) : Cls K Ca ∧ NoAttr K Ca "own_days" := by
  have h : T.clF c = some Ca := h
  unfold clF at h
  split at h
  · cases h; exact ⟨T.c_Yard, T.a_Yard_own_days⟩
  · cases h
theorem s_own_facts (c : Str) (Ca : Addr) (h : T.C.cl c = some Ca) : Cls K Ca ∧ NoAttr K Ca "own_facts" := by
  have h : T.clF c = some Ca := h
  unfold clF at h
  split at h
  · cases h; exact ⟨T.c_Yard, T.a_Yard_own_facts⟩
  · cases h
end Txt
/-! ### the walks -/
section
variable {P : Program} {w : World} {K : PySem.W.Frag} {mg : Str → Option Value} {base : Heap}
set_option maxRecDepth 4000 in
theorem ok_law_draw (T : Txt K mg) : FnOk P w K mg base (L2.CX P w) 1 T.f_law_draw T.d_law_draw ["_law_pot_here", "_law_size"] (spD T.C sg_law_draw mir_law_draw) := by
  refine fn_mk (S := sg_law_draw) (ft := false) (n := 1) (body := b_law_draw) (G' := [(.c .z), .z, .z]) rfl T.F_law_draw sc_law_draw rfl rfl rfl (fun h => nomatch h) ?_
  rintro ⟨prog, w2, K2, mg2, base2, A, N, s0, H0, ⟨scope, e2, e3, e4, e5, e6, e7, e8, e9⟩, outer, stack, ex, fn, calm, pn, xe⟩ E W hW hP hw hmg hb hN hS hF B hst hfr
  dsimp only at hP hw hmg hb hN hS hF
  have hK := B.hK
  dsimp only [Txt.C] at hK
  subst hW hP hw hmg hb hN hS hF hK
  exact ds_cons wkE (d_if wkE (dt_cmp (op_cmpI op_gt) (de_view (de_ix B.hK (hu1 B.hr) (de_var (i := 0) rfl rfl (by first | exact .inl rfl | exact .inr (.inl rfl) | exact .inr (.inr rfl))) de_int (fun _ _ => rfl))) de_int (nomark _)) (ds_cons wkE (d_asg (de_callB call_divmod_D (by rfl) T.n_divmod bt_divmod (da_cons (de_view (de_ix B.hK (hu1 B.hr) (de_var (i := 0) rfl rfl (by first | exact .inl rfl | exact .inr (.inl rfl) | exact .inr (.inr rfl))) de_int (fun _ _ => rfl))) (da_cons (de_var (i := 1) rfl rfl (by first | exact .inl rfl | exact .inr (.inl rfl) | exact .inr (.inr rfl))) da_nil))) (dg_tup B.hK B.cm (dgs_cons (dg_sub (i := 0) (hu1 B.hr) rfl rfl (by first | exact .inl rfl | exact .inr (.inl rfl) | exact .inr (.inr rfl)) de_int) (dgs_cons (dg_name (i := 2) sc_law_draw.nd rfl (by first | exact .inl rfl | exact .inr rfl) rfl) dgs_nil)) rfl) rfl) (ds_one (d_ret (G' := [(.c .z), .z, .z]) rfl (de_var (i := 2) rfl rfl (by first | exact .inl rfl | exact .inr (.inl rfl) | exact .inr (.inr rfl)))))) ds_nil) (ds_cons wkE (d_asg (de_bin op_mod_D (de_callTy call_int_D (by rfl) T.n_int bt_int (da_cons (de_bin (op_add_D B.hK) (de_bin op_mulI (de_view (de_ix B.hK (hu1 B.hr) (de_var (i := 0) rfl rfl (by first | exact .inl rfl | exact .inr (.inl rfl) | exact .inr (.inr rfl))) de_int (fun _ _ => rfl))) de_int) de_int) da_nil)) de_int) (dg_sub (i := 0) (hu1 B.hr) rfl rfl (by first | exact .inl rfl | exact .inr (.inl rfl) | exact .inr (.inr rfl)) de_int) rfl) (ds_one (d_ret (G' := [(.c .z), .z, .z]) rfl (de_bin op_mod_D (de_callTy call_int_D (by rfl) T.n_int bt_int (da_cons (de_bin op_fdiv_D (de_bin op_mod_D (de_callTy call_int_D (by rfl) T.n_int bt_int (da_cons (de_bin op_mulI (de_view (de_ix B.hK (hu1 B.hr) (de_var (i := 0) rfl rfl (by first | exact .inl rfl | exact .inr (.inl rfl) | exact .inr (.inr rfl))) de_int (fun _ _ => rfl))) (de_view (de_ix B.hK (hu1 B.hr) (de_var (i := 0) rfl rfl (by first | exact .inl rfl | exact .inr (.inl rfl) | exact .inr (.inr rfl))) de_int (fun _ _ => rfl)))) da_nil)) de_int) de_int) da_nil)) (de_var (i := 1) rfl rfl (by first | exact .inl rfl | exact .inr (.inl rfl) | exact .inr (.inr rfl)))))))
set_option maxRecDepth 4000 in
theorem ok_law_pick (T : Txt K mg) : FnOk P w K mg base (L2.CX P w) 2 T.f_law_pick T.d_law_pick ["_law_pot_here", "_law_some"] (spD T.C sg_law_pick mir_law_pick) := by
  refine fn_mk (S := sg_law_pick) (ft := false) (n := 0) (body := b_law_pick) (G' := [(.c .z), .z]) rfl T.F_law_pick sc_law_pick rfl rfl rfl (fun h => nomatch h) ?_
  rintro ⟨prog, w2, K2, mg2, base2, A, N, s0, H0, ⟨scope, e2, e3, e4, e5, e6, e7, e8, e9⟩, outer, stack, ex, fn, calm, pn, xe⟩ E W hW hP hw hmg hb hN hS hF B hst hfr
  dsimp only at hP hw hmg hb hN hS hF
  have hK := B.hK
  dsimp only [Txt.C] at hK
  subst hW hP hw hmg hb hN hS hF hK
  exact ds_one (d_ret (G' := [(.c .z), .z]) rfl (de_ix B.hK (hu1 B.hr) (de_var (i := 1) rfl rfl (by first | exact .inl rfl | exact .inr (.inl rfl) | exact .inr (.inr rfl))) (de_call (S := sg_law_draw) (E := E) (ok_law_draw T) B.hr (by decide) (by rfl) T.m_law_draw T.k_law_draw T.B_law_draw B.tk rfl (by decide) (dm_mv (i := 0) rfl rfl (by first | exact .inl rfl | exact .inr (.inl rfl) | exact .inr (.inr rfl)) (dm_cons (de_callB (call_len_D B.hK) (by rfl) T.n_len PySem.boot_len (da_cons (de_var (i := 1) rfl rfl (by first | exact .inl rfl | exact .inr (.inl rfl) | exact .inr (.inr rfl))) da_nil)) dm_nil))) (fun _ _ => rfl)))
set_option maxRecDepth 4000 in
theorem ok_law_folk (T : Txt K mg) : FnOk P w K mg base (L2.CX P w) 3 T.f_law_folk T.d_law_folk ["_law_pot_here", "_law_size"] (spD T.C sg_law_folk mir_law_folk) := by
  refine fn_mk (S := sg_law_folk) (ft := false) (n := 4) (body := b_law_folk) (G' := [(.c .z), .z, .z, .z, (.c .z), .z]) rfl T.F_law_folk sc_law_folk rfl rfl rfl (fun h => nomatch h) ?_
  rintro ⟨prog, w2, K2, mg2, base2, A, N, s0, H0, ⟨scope, e2, e3, e4, e5, e6, e7, e8, e9⟩, outer, stack, ex, fn, calm, pn, xe⟩ E W hW hP hw hmg hb hN hS hF B hst hfr
  dsimp only at hP hw hmg hb hN hS hF
  have hK := B.hK
  dsimp only [Txt.C] at hK
  subst hW hP hw hmg hb hN hS hF hK
  exact ds_cons wkE (d_tup (is := [3, 4]) (os := [.z, (.c .z)]) B.cm (dm_cons (de_lst (da_cons de_str (da_cons de_str (da_cons de_str (da_cons de_str (da_cons de_str (da_cons de_str (da_cons de_str (da_cons de_str (da_cons de_str (da_cons de_str (da_cons de_str (da_cons de_str da_nil))))))))))))) (dm_cons (de_nilO (o := .z)) dm_nil)) (pgs_names (i := 3) sc_law_folk.nd rfl (by first | exact .inl rfl | exact .inr rfl) (pgs_names (i := 4) sc_law_folk.nd rfl (by first | exact .inl rfl | exact .inr rfl) pgs_names0)) rfl rfl) (ds_cons wkE (d_for wkE B.po B.cm (di_range1 (by rfl) T.n_range (da_cons (de_var (i := 1) rfl rfl (by first | exact .inl rfl | exact .inr (.inl rfl) | exact .inr (.inr rfl))) da_nil)) (dg_name (i := 2) sc_law_folk.nd rfl (by first | exact .inl rfl | exact .inr rfl) rfl) (ds_one (d_drop (de_meth (i := 4) (.inl ⟨rfl, rfl⟩) PySem.F.plainAttrs_list PySem.F.slot_list_append PySem.F.type_list_append me_append rfl rfl (by first | exact .inl rfl | exact .inr (.inl rfl) | exact .inr (.inr rfl)) (dm_cons (de_call (S := sg_law_pick) (E := E) (ok_law_pick T) B.hr (by decide) (by rfl) T.m_law_pick T.k_law_pick T.B_law_pick B.tk rfl (by decide) (dm_mv (i := 0) rfl rfl (by first | exact .inl rfl | exact .inr (.inl rfl) | exact .inr (.inr rfl)) (dm_cons (de_frz (de_lc (vs := [5]) (oe := .z) B.cm sc_law_folk.nd (di_val B.hK (de_var (i := 3) rfl rfl (by first | exact .inl rfl | exact .inr (.inl rfl) | exact .inr (.inr rfl)))) (blkOk_by (N := nm_law_folk) (sc := defScope s_law_folk) (own := [("_law_label", 5)]) (by decide +kernel)) rfl (by decide) rfl (fun _ _ _ _ _ => dg_name (i := 5) sc_law_folk.nd rfl (by first | exact .inl rfl | exact .inr rfl) rfl) (fun _ _ _ _ _ => dts_one (dt_view (dt_cmp (op_nin_D B.hK (hu65 B.hr)) (de_var (i := 5) rfl rfl (by first | exact .inl rfl | exact .inr (.inl rfl) | exact .inr (.inr rfl))) (de_var (i := 4) rfl rfl (by first | exact .inl rfl | exact .inr (.inl rfl) | exact .inr (.inr rfl))) (by rfl)))) (fun _ _ _ _ _ => de_var (i := 5) rfl rfl (by first | exact .inl rfl | exact .inr (.inl rfl) | exact .inr (.inr rfl))))) dm_nil))) dm_nil)))) rfl) (ds_one (d_ret (G' := [(.c .z), .z, .z, .z, (.c .z), .z]) rfl (de_frz (de_mv (i := 4) rfl rfl (by first | exact .inl rfl | exact .inr (.inl rfl) | exact .inr (.inr rfl)))))))
set_option maxRecDepth 4000 in
theorem ok_law_fact (T : Txt K mg) : FnOk P w K mg base (L2.CX P w) 3 T.f_law_fact T.d_law_fact ["_law_pot_here", "_law_folk_here", "_law_span"] (spD T.C sg_law_fact mir_law_fact) := by
  refine fn_mk (S := sg_law_fact) (ft := false) (n := 4) (body := b_law_fact) (G' := [(.c .z), .z, .z, .z, .z, .z, .z]) rfl T.F_law_fact sc_law_fact rfl rfl rfl (fun h => nomatch h) ?_
  rintro ⟨prog, w2, K2, mg2, base2, A, N, s0, H0, ⟨scope, e2, e3, e4, e5, e6, e7, e8, e9⟩, outer, stack, ex, fn, calm, pn, xe⟩ E W hW hP hw hmg hb hN hS hF B hst hfr
  dsimp only at hP hw hmg hb hN hS hF
  have hK := B.hK
  dsimp only [Txt.C] at hK
  subst hW hP hw hmg hb hN hS hF hK
  exact ds_cons wkE (d_set (i := 3) (o := .z) sc_law_fact.nd rfl (by first | exact .inl rfl | exact .inr rfl) (de_call (S := sg_law_draw) (E := E) (ok_law_draw T) B.hr (by decide) (by rfl) T.m_law_draw T.k_law_draw T.B_law_draw B.tk rfl (by decide) (dm_mv (i := 0) rfl rfl (by first | exact .inl rfl | exact .inr (.inl rfl) | exact .inr (.inr rfl)) (dm_cons de_int dm_nil))) rfl (by decide)) (ds_cons wkE (d_if wkE (PW.pt (dw_and (dt_cmp (op_lt_D B.hK (hu0 B.hr)) (de_var (i := 3) rfl rfl (by first | exact .inl rfl | exact .inr (.inl rfl) | exact .inr (.inr rfl))) de_int (nomark _)) (dw_and1 (dt_cmp (op_cmpI op_gt) (de_callB (call_len_D B.hK) (by rfl) T.n_len PySem.boot_len (da_cons (de_var (i := 1) rfl rfl (by first | exact .inl rfl | exact .inr (.inl rfl) | exact .inr (.inr rfl))) da_nil)) de_int (nomark _))))) (ds_cons wkE (d_set (i := 5) (o := .z) sc_law_fact.nd rfl (by first | exact .inl rfl | exact .inr rfl) (de_call (S := sg_law_draw) (E := E) (ok_law_draw T) B.hr (by decide) (by rfl) T.m_law_draw T.k_law_draw T.B_law_draw B.tk rfl (by decide) (dm_mv (i := 0) rfl rfl (by first | exact .inl rfl | exact .inr (.inl rfl) | exact .inr (.inr rfl)) (dm_cons (de_callB (call_len_D B.hK) (by rfl) T.n_len PySem.boot_len (da_cons (de_var (i := 1) rfl rfl (by first | exact .inl rfl | exact .inr (.inl rfl) | exact .inr (.inr rfl))) da_nil)) dm_nil))) rfl (by decide)) (ds_one (d_ret (G' := [(.c .z), .z, .z, .z, .z, .z, .z]) rfl (de_tup (da_cons de_str (da_cons (de_ix B.hK (hu1 B.hr) (de_var (i := 1) rfl rfl (by first | exact .inl rfl | exact .inr (.inl rfl) | exact .inr (.inr rfl))) (de_var (i := 5) rfl rfl (by first | exact .inl rfl | exact .inr (.inl rfl) | exact .inr (.inr rfl))) (fun _ _ => rfl)) (da_cons (de_ix B.hK (hu1 B.hr) (de_var (i := 1) rfl rfl (by first | exact .inl rfl | exact .inr (.inl rfl) | exact .inr (.inr rfl))) (de_bin op_mod_D (de_bin (op_add_D B.hK) (de_bin (op_add_D B.hK) (de_var (i := 5) rfl rfl (by first | exact .inl rfl | exact .inr (.inl rfl) | exact .inr (.inr rfl))) de_int) (de_call (S := sg_law_draw) (E := E) (ok_law_draw T) B.hr (by decide) (by rfl) T.m_law_draw T.k_law_draw T.B_law_draw B.tk rfl (by decide) (dm_mv (i := 0) rfl rfl (by first | exact .inl rfl | exact .inr (.inl rfl) | exact .inr (.inr rfl)) (dm_cons (de_bin op_sub_D (de_callB (call_len_D B.hK) (by rfl) T.n_len PySem.boot_len (da_cons (de_var (i := 1) rfl rfl (by first | exact .inl rfl | exact .inr (.inl rfl) | exact .inr (.inr rfl))) da_nil)) de_int) dm_nil)))) (de_callB (call_len_D B.hK) (by rfl) T.n_len PySem.boot_len (da_cons (de_var (i := 1) rfl rfl (by first | exact .inl rfl | exact .inr (.inl rfl) | exact .inr (.inr rfl))) da_nil))) (fun _ _ => rfl)) da_nil))))))) ds_nil) (ds_cons wkE (d_if wkE (dt_cmp (op_lt_D B.hK (hu0 B.hr)) (de_var (i := 3) rfl rfl (by first | exact .inl rfl | exact .inr (.inl rfl) | exact .inr (.inr rfl))) de_int (nomark _)) (ds_cons wkE (d_set (i := 6) (o := .z) sc_law_fact.nd rfl (by first | exact .inl rfl | exact .inr rfl) (de_bin (op_add_D B.hK) de_int (de_call (S := sg_law_draw) (E := E) (ok_law_draw T) B.hr (by decide) (by rfl) T.m_law_draw T.k_law_draw T.B_law_draw B.tk rfl (by decide) (dm_mv (i := 0) rfl rfl (by first | exact .inl rfl | exact .inr (.inl rfl) | exact .inr (.inr rfl)) (dm_cons (de_var (i := 2) rfl rfl (by first | exact .inl rfl | exact .inr (.inl rfl) | exact .inr (.inr rfl))) dm_nil)))) rfl (by decide)) (ds_one (d_ret (G' := [(.c .z), .z, .z, .z, .z, .z, .z]) rfl (de_tup (da_cons de_str (da_cons (de_call (S := sg_law_pick) (E := E) (ok_law_pick T) B.hr (by decide) (by rfl) T.m_law_pick T.k_law_pick T.B_law_pick B.tk rfl (by decide) (dm_mv (i := 0) rfl rfl (by first | exact .inl rfl | exact .inr (.inl rfl) | exact .inr (.inr rfl)) (dm_cons (de_var (i := 1) rfl rfl (by first | exact .inl rfl | exact .inr (.inl rfl) | exact .inr (.inr rfl))) dm_nil))) (da_cons (de_var (i := 6) rfl rfl (by first | exact .inl rfl | exact .inr (.inl rfl) | exact .inr (.inr rfl))) (da_cons (de_bin (op_add_D B.hK) (de_var (i := 6) rfl rfl (by first | exact .inl rfl | exact .inr (.inl rfl) | exact .inr (.inr rfl))) (de_call (S := sg_law_draw) (E := E) (ok_law_draw T) B.hr (by decide) (by rfl) T.m_law_draw T.k_law_draw T.B_law_draw B.tk rfl (by decide) (dm_mv (i := 0) rfl rfl (by first | exact .inl rfl | exact .inr (.inl rfl) | exact .inr (.inr rfl)) (dm_cons (de_bin (op_add_D B.hK) (de_bin op_sub_D (de_var (i := 2) rfl rfl (by first | exact .inl rfl | exact .inr (.inl rfl) | exact .inr (.inr rfl))) (de_var (i := 6) rfl rfl (by first | exact .inl rfl | exact .inr (.inl rfl) | exact .inr (.inr rfl)))) de_int) dm_nil)))) da_nil)))))))) ds_nil) (ds_cons wkE (d_set (i := 4) (o := .z) sc_law_fact.nd rfl (by first | exact .inl rfl | exact .inr rfl) (de_call (S := sg_law_draw) (E := E) (ok_law_draw T) B.hr (by decide) (by rfl) T.m_law_draw T.k_law_draw T.B_law_draw B.tk rfl (by decide) (dm_mv (i := 0) rfl rfl (by first | exact .inl rfl | exact .inr (.inl rfl) | exact .inr (.inr rfl)) (dm_cons (de_bin (op_add_D B.hK) (de_callB (call_len_D B.hK) (by rfl) T.n_len PySem.boot_len (da_cons (de_var (i := 1) rfl rfl (by first | exact .inl rfl | exact .inr (.inl rfl) | exact .inr (.inr rfl))) da_nil)) de_int) dm_nil))) rfl (by decide)) (ds_one (d_ret (G' := [(.c .z), .z, .z, .z, .z, .z, .z]) rfl (de_tup (da_cons de_str (da_cons (de_bin (op_add_D B.hK) de_int (de_call (S := sg_law_draw) (E := E) (ok_law_draw T) B.hr (by decide) (by rfl) T.m_law_draw T.k_law_draw T.B_law_draw B.tk rfl (by decide) (dm_mv (i := 0) rfl rfl (by first | exact .inl rfl | exact .inr (.inl rfl) | exact .inr (.inr rfl)) (dm_cons (de_var (i := 2) rfl rfl (by first | exact .inl rfl | exact .inr (.inl rfl) | exact .inr (.inr rfl))) dm_nil)))) (da_cons (de_var (i := 4) rfl rfl (by first | exact .inl rfl | exact .inr (.inl rfl) | exact .inr (.inr rfl))) (da_cons (de_bin (op_add_D B.hK) (de_var (i := 4) rfl rfl (by first | exact .inl rfl | exact .inr (.inl rfl) | exact .inr (.inr rfl))) (de_call (S := sg_law_draw) (E := E) (ok_law_draw T) B.hr (by decide) (by rfl) T.m_law_draw T.k_law_draw T.B_law_draw B.tk rfl (by decide) (dm_mv (i := 0) rfl rfl (by first | exact .inl rfl | exact .inr (.inl rfl) | exact .inr (.inr rfl)) (dm_cons (de_bin (op_add_D B.hK) (de_bin op_sub_D (de_callB (call_len_D B.hK) (by rfl) T.n_len PySem.boot_len (da_cons (de_var (i := 1) rfl rfl (by first | exact .inl rfl | exact .inr (.inl rfl) | exact .inr (.inr rfl))) da_nil)) (de_var (i := 4) rfl rfl (by first | exact .inl rfl | exact .inr (.inl rfl) | exact .inr (.inr rfl)))) de_int) dm_nil)))) da_nil))))))))))
set_option maxRecDepth 4000 in
theorem ok_is_list (T : Txt K mg) : FnOk P w K mg base (L2.CX P w) 1 T.f_is_list T.d_is_list ["value"] (spD T.C sg_is_list mir_is_list) := by
  refine fn_mk (S := sg_is_list) (ft := false) (n := 0) (body := b_is_list) (G' := [.z]) rfl T.F_is_list sc_is_list rfl rfl rfl (fun h => nomatch h) ?_
  rintro ⟨prog, w2, K2, mg2, base2, A, N, s0, H0, ⟨scope, e2, e3, e4, e5, e6, e7, e8, e9⟩, outer, stack, ex, fn, calm, pn, xe⟩ E W hW hP hw hmg hb hN hS hF B hst hfr
  dsimp only at hP hw hmg hb hN hS hF
  have hK := B.hK
  dsimp only [Txt.C] at hK
  subst hW hP hw hmg hb hN hS hF hK
  exact ds_one (d_ret (G' := [.z]) rfl (de_isi2 B.hK (by rfl) T.n_isinstance bt_isinstance (tyN (by rfl) T.n_list bt_list) (tyN (by rfl) T.n_tuple bt_tuple) (de_var (i := 0) rfl rfl (by first | exact .inl rfl | exact .inr (.inl rfl) | exact .inr (.inr rfl)))))
set_option maxRecDepth 4000 in
theorem ok_is_box (T : Txt K mg) : FnOk P w K mg base (L2.CX P w) 1 T.f_is_box T.d_is_box ["value"] (spD T.C sg_is_box mir_is_box) := by
  refine fn_mk (S := sg_is_box) (ft := false) (n := 1) (body := b_is_box) (G' := [.z, .z]) rfl T.F_is_box sc_is_box rfl rfl rfl (fun h => nomatch h) ?_
  rintro ⟨prog, w2, K2, mg2, base2, A, N, s0, H0, ⟨scope, e2, e3, e4, e5, e6, e7, e8, e9⟩, outer, stack, ex, fn, calm, pn, xe⟩ E W hW hP hw hmg hb hN hS hF B hst hfr
  dsimp only at hP hw hmg hb hN hS hF
  have hK := B.hK
  dsimp only [Txt.C] at hK
  subst hW hP hw hmg hb hN hS hF hK
  exact ds_cons wkE (d_if wkE (PW.pt (dw_or (dt_not (dt_val B.hK (de_isi B.hK (by rfl) T.n_isinstance bt_isinstance (by rfl) T.n_str bt_str (de_var (i := 0) rfl rfl (by first | exact .inl rfl | exact .inr (.inl rfl) | exact .inr (.inr rfl)))))) (dw_or1 (dt_not (dt_ch2 (op_cmpI op_le) (op_cmpI op_le) de_int (de_callB (call_len_D B.hK) (by rfl) T.n_len PySem.boot_len (da_cons (de_var (i := 0) rfl rfl (by first | exact .inl rfl | exact .inr (.inl rfl) | exact .inr (.inr rfl))) da_nil)) (de_glob (v := .int 6) (by rfl) T.g_LONGEST_BOX ⟨_, rfl⟩ fun _ => .int _)))))) (ds_one (d_ret (G' := [.z, .z]) rfl de_bl)) ds_nil) (ds_one (d_ret (G' := [.z, .z]) rfl (de_callB (call_all_D B.hK B.cm) (by rfl) T.n_all bt_all (da_cons (de_frz (de_lc (vs := [1]) (oe := .z) B.cm sc_is_box.nd (di_val B.hK (de_var (i := 0) rfl rfl (by first | exact .inl rfl | exact .inr (.inl rfl) | exact .inr (.inr rfl)))) (blkOk_by (N := nm_is_box) (sc := defScope s_is_box) (own := [("sign", 1)]) (by decide +kernel)) rfl (by decide) rfl (fun _ _ _ _ _ => dg_name (i := 1) sc_is_box.nd rfl (by first | exact .inl rfl | exact .inr rfl) rfl) (fun _ _ _ _ _ => dts_nil) (fun _ _ _ _ _ => de_cmp (op_in_D B.hK (hu65 B.hr)) (de_var (i := 1) rfl rfl (by first | exact .inl rfl | exact .inr (.inl rfl) | exact .inr (.inr rfl))) (de_glob (v := .str "abcdefghijklmnopqrstuvwxyz") (by rfl) T.g_LETTERS ⟨_, rfl⟩ fun _ => .str _) (by rfl)))) da_nil))))
set_option maxRecDepth 4000 in
theorem ok_want_boxes (T : Txt K mg) : FnOk P w K mg base (L2.CX P w) 2 T.f_want_boxes T.d_want_boxes ["value"] (spD T.C sg_want_boxes mir_want_boxes) := by
  refine fn_mk (S := sg_want_boxes) (ft := true) (n := 2) (body := b_want_boxes) (G' := [.z, .z, .z]) rfl T.F_want_boxes sc_want_boxes rfl rfl rfl (fun _ => ⟨rfl, rfl⟩) ?_
  rintro ⟨prog, w2, K2, mg2, base2, A, N, s0, H0, ⟨scope, e2, e3, e4, e5, e6, e7, e8, e9⟩, outer, stack, ex, fn, calm, pn, xe⟩ E W hW hP hw hmg hb hN hS hF B hst hfr
  dsimp only at hP hw hmg hb hN hS hF
  have hK := B.hK
  dsimp only [Txt.C] at hK
  subst hW hP hw hmg hb hN hS hF hK
  exact ds_cons wkE (d_if wkE (PW.pt (dw_or (dt_not (dt_val B.hK (de_call (S := sg_is_list) (E := E) (ok_is_list T) B.hr (by decide) (by rfl) T.m_is_list T.k_is_list T.B_is_list B.tk rfl (by decide) (dm_cons (de_var (i := 0) rfl rfl (by first | exact .inl rfl | exact .inr (.inl rfl) | exact .inr (.inr rfl))) dm_nil)))) (dw_or1 (dt_not (dt_ch2 (op_cmpI op_le) (op_cmpI op_le) de_int (de_callB (call_len_D B.hK) (by rfl) T.n_len PySem.boot_len (da_cons (de_var (i := 0) rfl rfl (by first | exact .inl rfl | exact .inr (.inl rfl) | exact .inr (.inr rfl))) da_nil)) (de_cval (by rfl) T.g_Yard T.r_Yard T.v_Yard_MOST_BOXES fun _ => .int _)))))) (ds_one (d_stk (G' := [.z, .z, .z]))) ds_nil) (ds_one (d_for wkE B.po B.cm (di_enum B.hK (by rfl) T.n_enumerate (da_cons (de_var (i := 0) rfl rfl (by first | exact .inl rfl | exact .inr (.inl rfl) | exact .inr (.inr rfl))) da_nil)) (dg_tup B.hK B.cm (dgs_cons (dg_name (i := 1) sc_want_boxes.nd rfl (by first | exact .inl rfl | exact .inr rfl) rfl) (dgs_cons (dg_name (i := 2) sc_want_boxes.nd rfl (by first | exact .inl rfl | exact .inr rfl) rfl) dgs_nil)) rfl) (ds_one (d_if wkE (PW.pt (dw_or (dt_not (dt_val B.hK (de_call (S := sg_is_box) (E := E) (ok_is_box T) B.hr (by decide) (by rfl) T.m_is_box T.k_is_box T.B_is_box B.tk rfl (by decide) (dm_cons (de_var (i := 2) rfl rfl (by first | exact .inl rfl | exact .inr (.inl rfl) | exact .inr (.inr rfl))) dm_nil)))) (dw_or1 (dt_cmp (op_in_D B.hK (hu65 B.hr)) (de_var (i := 2) rfl rfl (by first | exact .inl rfl | exact .inr (.inl rfl) | exact .inr (.inr rfl))) (de_sl B.hK (de_var (i := 0) rfl rfl (by first | exact .inl rfl | exact .inr (.inl rfl) | exact .inr (.inr rfl))) do_none (do_int (de_var (i := 1) rfl rfl (by first | exact .inl rfl | exact .inr (.inl rfl) | exact .inr (.inr rfl))))) (by rfl))))) (ds_one (d_stk (G' := [.z, .z, .z]))) ds_nil)) rfl))
set_option maxRecDepth 4000 in
theorem ok_is_integer (T : Txt K mg) : FnOk P w K mg base (L2.CX P w) 1 T.f_is_integer T.d_is_integer ["value"] (spD T.C sg_is_integer mir_is_integer) := by
  refine fn_mk (S := sg_is_integer) (ft := false) (n := 0) (body := b_is_integer) (G' := [.z]) rfl T.F_is_integer sc_is_integer rfl rfl rfl (fun h => nomatch h) ?_
  rintro ⟨prog, w2, K2, mg2, base2, A, N, s0, H0, ⟨scope, e2, e3, e4, e5, e6, e7, e8, e9⟩, outer, stack, ex, fn, calm, pn, xe⟩ E W hW hP hw hmg hb hN hS hF B hst hfr
  dsimp only at hP hw hmg hb hN hS hF
  have hK := B.hK
  dsimp only [Txt.C] at hK
  subst hW hP hw hmg hb hN hS hF hK
  exact ds_one (d_ret (G' := [.z]) rfl (de_and (de_isi B.hK (by rfl) T.n_isinstance bt_isinstance (by rfl) T.n_int bt_int (de_var (i := 0) rfl rfl (by first | exact .inl rfl | exact .inr (.inl rfl) | exact .inr (.inr rfl)))) (de_one (UnaryNot B.hK (de_isi B.hK (by rfl) T.n_isinstance bt_isinstance (by rfl) T.n_bool bt_bool (de_var (i := 0) rfl rfl (by first | exact .inl rfl | exact .inr (.inl rfl) | exact .inr (.inr rfl))))))))
set_option maxRecDepth 4000 in
theorem ok_want_days (T : Txt K mg) : FnOk P w K mg base (L2.CX P w) 2 T.f_want_days T.d_want_days ["value"] (spD T.C sg_want_days mir_want_days) := by
  refine fn_mk (S := sg_want_days) (ft := true) (n := 0) (body := b_want_days) (G' := [.z]) rfl T.F_want_days sc_want_days rfl rfl rfl (fun _ => ⟨rfl, rfl⟩) ?_
  rintro ⟨prog, w2, K2, mg2, base2, A, N, s0, H0, ⟨scope, e2, e3, e4, e5, e6, e7, e8, e9⟩, outer, stack, ex, fn, calm, pn, xe⟩ E W hW hP hw hmg hb hN hS hF B hst hfr
  dsimp only at hP hw hmg hb hN hS hF
  have hK := B.hK
  dsimp only [Txt.C] at hK
  subst hW hP hw hmg hb hN hS hF hK
  exact ds_one (d_if wkE (PW.pt (dw_or (dt_not (dt_val B.hK (de_call (S := sg_is_integer) (E := E) (ok_is_integer T) B.hr (by decide) (by rfl) T.m_is_integer T.k_is_integer T.B_is_integer B.tk rfl (by decide) (dm_cons (de_var (i := 0) rfl rfl (by first | exact .inl rfl | exact .inr (.inl rfl) | exact .inr (.inr rfl))) dm_nil)))) (dw_or1 (dt_not (dt_ch2 (op_cmpI op_le) (op_cmpI op_le) de_int (de_var (i := 0) rfl rfl (by first | exact .inl rfl | exact .inr (.inl rfl) | exact .inr (.inr rfl))) (de_glob (v := .int 9) (by rfl) T.g_MOST_DAYS ⟨_, rfl⟩ fun _ => .int _)))))) (ds_one (d_stk (G' := [.z]))) ds_nil)
set_option maxRecDepth 4000 in
theorem ok_is_known (T : Txt K mg) : FnOk P w K mg base (L2.CX P w) 1 T.f_is_known T.d_is_known ["boxes", "value"] (spD T.C sg_is_known mir_is_known) := by
  refine fn_mk (S := sg_is_known) (ft := false) (n := 0) (body := b_is_known) (G' := [.z, .z]) rfl T.F_is_known sc_is_known rfl rfl rfl (fun h => nomatch h) ?_
  rintro ⟨prog, w2, K2, mg2, base2, A, N, s0, H0, ⟨scope, e2, e3, e4, e5, e6, e7, e8, e9⟩, outer, stack, ex, fn, calm, pn, xe⟩ E W hW hP hw hmg hb hN hS hF B hst hfr
  dsimp only at hP hw hmg hb hN hS hF
  have hK := B.hK
  dsimp only [Txt.C] at hK
  subst hW hP hw hmg hb hN hS hF hK
  exact ds_one (d_ret (G' := [.z, .z]) rfl (de_and (de_isi B.hK (by rfl) T.n_isinstance bt_isinstance (by rfl) T.n_str bt_str (de_var (i := 1) rfl rfl (by first | exact .inl rfl | exact .inr (.inl rfl) | exact .inr (.inr rfl)))) (de_one (de_cmp (op_in_D B.hK (hu65 B.hr)) (de_var (i := 1) rfl rfl (by first | exact .inl rfl | exact .inr (.inl rfl) | exact .inr (.inr rfl))) (de_var (i := 0) rfl rfl (by first | exact .inl rfl | exact .inr (.inl rfl) | exact .inr (.inr rfl))) (by rfl)))))
set_option maxRecDepth 4000 in
theorem ok_is_ahead_told (T : Txt K mg) : FnOk P w K mg base (L2.CX P w) 2 T.f_is_ahead_told T.d_is_ahead_told ["boxes", "rest"] (spD T.C sg_is_ahead_told mir_is_ahead_told) := by
  refine fn_mk (S := sg_is_ahead_told) (ft := false) (n := 0) (body := b_is_ahead_told) (G' := [.z, .z]) rfl T.F_is_ahead_told sc_is_ahead_told rfl rfl rfl (fun h => nomatch h) ?_
  rintro ⟨prog, w2, K2, mg2, base2, A, N, s0, H0, ⟨scope, e2, e3, e4, e5, e6, e7, e8, e9⟩, outer, stack, ex, fn, calm, pn, xe⟩ E W hW hP hw hmg hb hN hS hF B hst hfr
  dsimp only at hP hw hmg hb hN hS hF
  have hK := B.hK
  dsimp only [Txt.C] at hK
  subst hW hP hw hmg hb hN hS hF hK
  exact ds_one (d_ret (G' := [.z, .z]) rfl (de_and (de_cmp (op_eq_D B.hK (hu64 B.hr)) (de_callB (call_len_D B.hK) (by rfl) T.n_len PySem.boot_len (da_cons (de_var (i := 1) rfl rfl (by first | exact .inl rfl | exact .inr (.inl rfl) | exact .inr (.inr rfl))) da_nil)) de_int (nomark _)) (de_and (de_call (S := sg_is_known) (E := E) (ok_is_known T) B.hr (by decide) (by rfl) T.m_is_known T.k_is_known T.B_is_known B.tk rfl (by decide) (dm_cons (de_var (i := 0) rfl rfl (by first | exact .inl rfl | exact .inr (.inl rfl) | exact .inr (.inr rfl))) (dm_cons (de_ix B.hK (hu1 B.hr) (de_var (i := 1) rfl rfl (by first | exact .inl rfl | exact .inr (.inl rfl) | exact .inr (.inr rfl))) de_int (fun _ _ => rfl)) dm_nil))) (de_and (de_call (S := sg_is_known) (E := E) (ok_is_known T) B.hr (by decide) (by rfl) T.m_is_known T.k_is_known T.B_is_known B.tk rfl (by decide) (dm_cons (de_var (i := 0) rfl rfl (by first | exact .inl rfl | exact .inr (.inl rfl) | exact .inr (.inr rfl))) (dm_cons (de_ix B.hK (hu1 B.hr) (de_var (i := 1) rfl rfl (by first | exact .inl rfl | exact .inr (.inl rfl) | exact .inr (.inr rfl))) de_int (fun _ _ => rfl)) dm_nil))) (de_one (de_cmp (op_ne_D B.hK (hu64 B.hr)) (de_ix B.hK (hu1 B.hr) (de_var (i := 1) rfl rfl (by first | exact .inl rfl | exact .inr (.inl rfl) | exact .inr (.inr rfl))) de_int (fun _ _ => rfl)) (de_ix B.hK (hu1 B.hr) (de_var (i := 1) rfl rfl (by first | exact .inl rfl | exact .inr (.inl rfl) | exact .inr (.inr rfl))) de_int (fun _ _ => rfl)) (nomark _)))))))
set_option maxRecDepth 4000 in
theorem ok_are_days_told (T : Txt K mg) : FnOk P w K mg base (L2.CX P w) 2 T.f_are_days_told T.d_are_days_told ["boxes", "days", "rest"] (spD T.C sg_are_days_told mir_are_days_told) := by
  refine fn_mk (S := sg_are_days_told) (ft := false) (n := 0) (body := b_are_days_told) (G' := [.z, .z, .z]) rfl T.F_are_days_told sc_are_days_told rfl rfl rfl (fun h => nomatch h) ?_
  rintro ⟨prog, w2, K2, mg2, base2, A, N, s0, H0, ⟨scope, e2, e3, e4, e5, e6, e7, e8, e9⟩, outer, stack, ex, fn, calm, pn, xe⟩ E W hW hP hw hmg hb hN hS hF B hst hfr
  dsimp only at hP hw hmg hb hN hS hF
  have hK := B.hK
  dsimp only [Txt.C] at hK
  subst hW hP hw hmg hb hN hS hF hK
  exact ds_cons wkE (d_if wkE (PW.pt (dw_or (dt_cmp (op_ne_D B.hK (hu64 B.hr)) (de_callB (call_len_D B.hK) (by rfl) T.n_len PySem.boot_len (da_cons (de_var (i := 2) rfl rfl (by first | exact .inl rfl | exact .inr (.inl rfl) | exact .inr (.inr rfl))) da_nil)) de_int (nomark _)) (dw_or1 (dt_not (dt_val B.hK (de_call (S := sg_is_known) (E := E) (ok_is_known T) B.hr (by decide) (by rfl) T.m_is_known T.k_is_known T.B_is_known B.tk rfl (by decide) (dm_cons (de_var (i := 0) rfl rfl (by first | exact .inl rfl | exact .inr (.inl rfl) | exact .inr (.inr rfl))) (dm_cons (de_ix B.hK (hu1 B.hr) (de_var (i := 2) rfl rfl (by first | exact .inl rfl | exact .inr (.inl rfl) | exact .inr (.inr rfl))) de_int (fun _ _ => rfl)) dm_nil)))))))) (ds_one (d_ret (G' := [.z, .z, .z]) rfl de_bl)) ds_nil) (ds_one (d_ret (G' := [.z, .z, .z]) rfl (de_and (de_call (S := sg_is_integer) (E := E) (ok_is_integer T) B.hr (by decide) (by rfl) T.m_is_integer T.k_is_integer T.B_is_integer B.tk rfl (by decide) (dm_cons (de_ix B.hK (hu1 B.hr) (de_var (i := 2) rfl rfl (by first | exact .inl rfl | exact .inr (.inl rfl) | exact .inr (.inr rfl))) de_int (fun _ _ => rfl)) dm_nil)) (de_and (de_call (S := sg_is_integer) (E := E) (ok_is_integer T) B.hr (by decide) (by rfl) T.m_is_integer T.k_is_integer T.B_is_integer B.tk rfl (by decide) (dm_cons (de_ix B.hK (hu1 B.hr) (de_var (i := 2) rfl rfl (by first | exact .inl rfl | exact .inr (.inl rfl) | exact .inr (.inr rfl))) de_int (fun _ _ => rfl)) dm_nil)) (de_one (de_ch3 (op_cmpI op_le) (op_cmpI op_le) (op_cmpI op_le) de_int (de_ix B.hK (hu1 B.hr) (de_var (i := 2) rfl rfl (by first | exact .inl rfl | exact .inr (.inl rfl) | exact .inr (.inr rfl))) de_int (fun _ _ => rfl)) (de_ix B.hK (hu1 B.hr) (de_var (i := 2) rfl rfl (by first | exact .inl rfl | exact .inr (.inl rfl) | exact .inr (.inr rfl))) de_int (fun _ _ => rfl)) (de_var (i := 1) rfl rfl (by first | exact .inl rfl | exact .inr (.inl rfl) | exact .inr (.inr rfl)))))))))
set_option maxRecDepth 4000 in
theorem ok_is_count (T : Txt K mg) : FnOk P w K mg base (L2.CX P w) 2 T.f_is_count T.d_is_count ["value"] (spD T.C sg_is_count mir_is_count) := by
  refine fn_mk (S := sg_is_count) (ft := false) (n := 0) (body := b_is_count) (G' := [.z]) rfl T.F_is_count sc_is_count rfl rfl rfl (fun h => nomatch h) ?_
  rintro ⟨prog, w2, K2, mg2, base2, A, N, s0, H0, ⟨scope, e2, e3, e4, e5, e6, e7, e8, e9⟩, outer, stack, ex, fn, calm, pn, xe⟩ E W hW hP hw hmg hb hN hS hF B hst hfr
  dsimp only at hP hw hmg hb hN hS hF
  have hK := B.hK
  dsimp only [Txt.C] at hK
  subst hW hP hw hmg hb hN hS hF hK
  exact ds_one (d_ret (G' := [.z]) rfl (de_and (de_call (S := sg_is_integer) (E := E) (ok_is_integer T) B.hr (by decide) (by rfl) T.m_is_integer T.k_is_integer T.B_is_integer B.tk rfl (by decide) (dm_cons (de_var (i := 0) rfl rfl (by first | exact .inl rfl | exact .inr (.inl rfl) | exact .inr (.inr rfl))) dm_nil)) (de_one (de_cmp (op_cmpI op_ge) (de_var (i := 0) rfl rfl (by first | exact .inl rfl | exact .inr (.inl rfl) | exact .inr (.inr rfl))) de_int (nomark _)))))
set_option maxRecDepth 4000 in
theorem ok_is_gone_told (T : Txt K mg) : FnOk P w K mg base (L2.CX P w) 3 T.f_is_gone_told T.d_is_gone_told ["many", "days", "rest"] (spD T.C sg_is_gone_told mir_is_gone_told) := by
  refine fn_mk (S := sg_is_gone_told) (ft := false) (n := 1) (body := b_is_gone_told) (G' := [.z, .z, .z, .z]) rfl T.F_is_gone_told sc_is_gone_told rfl rfl rfl (fun h => nomatch h) ?_
  rintro ⟨prog, w2, K2, mg2, base2, A, N, s0, H0, ⟨scope, e2, e3, e4, e5, e6, e7, e8, e9⟩, outer, stack, ex, fn, calm, pn, xe⟩ E W hW hP hw hmg hb hN hS hF B hst hfr
  dsimp only at hP hw hmg hb hN hS hF
  have hK := B.hK
  dsimp only [Txt.C] at hK
  subst hW hP hw hmg hb hN hS hF hK
  exact ds_cons wkE (d_if wkE (PW.pt (dw_or (dt_cmp (op_ne_D B.hK (hu64 B.hr)) (de_callB (call_len_D B.hK) (by rfl) T.n_len PySem.boot_len (da_cons (de_var (i := 2) rfl rfl (by first | exact .inl rfl | exact .inr (.inl rfl) | exact .inr (.inr rfl))) da_nil)) de_int (nomark _)) (dw_or1 (dt_not (dt_val B.hK (de_callB (call_all_D B.hK B.cm) (by rfl) T.n_all bt_all (da_cons (de_frz (de_lc (vs := [3]) (oe := .z) B.cm sc_is_gone_told.nd (di_val B.hK (de_var (i := 2) rfl rfl (by first | exact .inl rfl | exact .inr (.inl rfl) | exact .inr (.inr rfl)))) (blkOk_by (N := nm_is_gone_told) (sc := defScope s_is_gone_told) (own := [("part", 3)]) (by decide +kernel)) rfl (by decide) rfl (fun _ _ _ _ _ => dg_name (i := 3) sc_is_gone_told.nd rfl (by first | exact .inl rfl | exact .inr rfl) rfl) (fun _ _ _ _ _ => dts_nil) (fun _ _ _ _ _ => de_call (S := sg_is_count) (E := nE) (ok_is_count T) B.hr (by decide) (by rfl) T.m_is_count T.k_is_count T.B_is_count takesW0 rfl (by decide) (dm_cons (de_var (i := 3) rfl rfl (by first | exact .inl rfl | exact .inr (.inl rfl) | exact .inr (.inr rfl))) dm_nil)))) da_nil))))))) (ds_one (d_ret (G' := [.z, .z, .z, .z]) rfl de_bl)) ds_nil) (ds_one (d_ret (G' := [.z, .z, .z, .z]) rfl (de_and (de_ch2 (op_cmpI op_le) (op_cmpI op_le) de_int (de_ix B.hK (hu1 B.hr) (de_var (i := 2) rfl rfl (by first | exact .inl rfl | exact .inr (.inl rfl) | exact .inr (.inr rfl))) de_int (fun _ _ => rfl)) (de_var (i := 1) rfl rfl (by first | exact .inl rfl | exact .inr (.inl rfl) | exact .inr (.inr rfl)))) (de_one (de_ch2 (op_cmpI op_le) (op_cmpI op_le) (de_ix B.hK (hu1 B.hr) (de_var (i := 2) rfl rfl (by first | exact .inl rfl | exact .inr (.inl rfl) | exact .inr (.inr rfl))) de_int (fun _ _ => rfl)) (de_ix B.hK (hu1 B.hr) (de_var (i := 2) rfl rfl (by first | exact .inl rfl | exact .inr (.inl rfl) | exact .inr (.inr rfl))) de_int (fun _ _ => rfl)) (de_var (i := 0) rfl rfl (by first | exact .inl rfl | exact .inr (.inl rfl) | exact .inr (.inr rfl))))))))
set_option maxRecDepth 4000 in
theorem ok_is_fact (T : Txt K mg) : FnOk P w K mg base (L2.CX P w) 4 T.f_is_fact T.d_is_fact ["boxes", "days", "value"] (spD T.C sg_is_fact mir_is_fact) := by
  refine fn_mk (S := sg_is_fact) (ft := false) (n := 0) (body := b_is_fact) (G' := [.z, .z, .z]) rfl T.F_is_fact sc_is_fact rfl rfl rfl (fun h => nomatch h) ?_
  rintro ⟨prog, w2, K2, mg2, base2, A, N, s0, H0, ⟨scope, e2, e3, e4, e5, e6, e7, e8, e9⟩, outer, stack, ex, fn, calm, pn, xe⟩ E W hW hP hw hmg hb hN hS hF B hst hfr
  dsimp only at hP hw hmg hb hN hS hF
  have hK := B.hK
  dsimp only [Txt.C] at hK
  subst hW hP hw hmg hb hN hS hF hK
  exact ds_cons wkE (d_if wkE (PW.pt (dw_or (dt_not (dt_val B.hK (de_isi B.hK (by rfl) T.n_isinstance bt_isinstance (by rfl) T.n_tuple bt_tuple (de_var (i := 2) rfl rfl (by first | exact .inl rfl | exact .inr (.inl rfl) | exact .inr (.inr rfl)))))) (dw_or (dt_cmp (op_eq_D B.hK (hu64 B.hr)) (de_callB (call_len_D B.hK) (by rfl) T.n_len PySem.boot_len (da_cons (de_var (i := 2) rfl rfl (by first | exact .inl rfl | exact .inr (.inl rfl) | exact .inr (.inr rfl))) da_nil)) de_int (nomark _)) (dw_or1 (dt_not (dt_val B.hK (de_isi B.hK (by rfl) T.n_isinstance bt_isinstance (by rfl) T.n_str bt_str (de_ix B.hK (hu1 B.hr) (de_var (i := 2) rfl rfl (by first | exact .inl rfl | exact .inr (.inl rfl) | exact .inr (.inr rfl))) de_int (fun _ _ => rfl))))))))) (ds_one (d_ret (G' := [.z, .z, .z]) rfl de_bl)) ds_nil) (ds_cons wkE (d_if wkE (dt_cmp (op_eq_D B.hK (hu64 B.hr)) (de_ix B.hK (hu1 B.hr) (de_var (i := 2) rfl rfl (by first | exact .inl rfl | exact .inr (.inl rfl) | exact .inr (.inr rfl))) de_int (fun _ _ => rfl)) (de_glob (v := .str "ahead") (by rfl) T.g_AHEAD ⟨_, rfl⟩ fun _ => .str _) (nomark _)) (ds_one (d_ret (G' := [.z, .z, .z]) rfl (de_call (S := sg_is_ahead_told) (E := E) (ok_is_ahead_told T) B.hr (by decide) (by rfl) T.m_is_ahead_told T.k_is_ahead_told T.B_is_ahead_told B.tk rfl (by decide) (dm_cons (de_var (i := 0) rfl rfl (by first | exact .inl rfl | exact .inr (.inl rfl) | exact .inr (.inr rfl))) (dm_cons (de_sl B.hK (de_var (i := 2) rfl rfl (by first | exact .inl rfl | exact .inr (.inl rfl) | exact .inr (.inr rfl))) (do_int de_int) do_none) dm_nil))))) ds_nil) (ds_cons wkE (d_if wkE (dt_cmp (op_eq_D B.hK (hu64 B.hr)) (de_ix B.hK (hu1 B.hr) (de_var (i := 2) rfl rfl (by first | exact .inl rfl | exact .inr (.inl rfl) | exact .inr (.inr rfl))) de_int (fun _ _ => rfl)) (de_glob (v := .str "days") (by rfl) T.g_DAYS ⟨_, rfl⟩ fun _ => .str _) (nomark _)) (ds_one (d_ret (G' := [.z, .z, .z]) rfl (de_call (S := sg_are_days_told) (E := E) (ok_are_days_told T) B.hr (by decide) (by rfl) T.m_are_days_told T.k_are_days_told T.B_are_days_told B.tk rfl (by decide) (dm_cons (de_var (i := 0) rfl rfl (by first | exact .inl rfl | exact .inr (.inl rfl) | exact .inr (.inr rfl))) (dm_cons (de_var (i := 1) rfl rfl (by first | exact .inl rfl | exact .inr (.inl rfl) | exact .inr (.inr rfl))) (dm_cons (de_sl B.hK (de_var (i := 2) rfl rfl (by first | exact .inl rfl | exact .inr (.inl rfl) | exact .inr (.inr rfl))) (do_int de_int) do_none) dm_nil)))))) ds_nil) (ds_one (d_ret (G' := [.z, .z, .z]) rfl (de_and (de_cmp (op_eq_D B.hK (hu64 B.hr)) (de_ix B.hK (hu1 B.hr) (de_var (i := 2) rfl rfl (by first | exact .inl rfl | exact .inr (.inl rfl) | exact .inr (.inr rfl))) de_int (fun _ _ => rfl)) (de_glob (v := .str "gone") (by rfl) T.g_GONE ⟨_, rfl⟩ fun _ => .str _) (nomark _)) (de_one (de_call (S := sg_is_gone_told) (E := E) (ok_is_gone_told T) B.hr (by decide) (by rfl) T.m_is_gone_told T.k_is_gone_told T.B_is_gone_told B.tk rfl (by decide) (dm_cons (de_callB (call_len_D B.hK) (by rfl) T.n_len PySem.boot_len (da_cons (de_var (i := 0) rfl rfl (by first | exact .inl rfl | exact .inr (.inl rfl) | exact .inr (.inr rfl))) da_nil)) (dm_cons (de_var (i := 1) rfl rfl (by first | exact .inl rfl | exact .inr (.inl rfl) | exact .inr (.inr rfl))) (dm_cons (de_sl B.hK (de_var (i := 2) rfl rfl (by first | exact .inl rfl | exact .inr (.inl rfl) | exact .inr (.inr rfl))) (do_int de_int) do_none) dm_nil))))))))))
set_option maxRecDepth 4000 in
theorem ok_want_facts (T : Txt K mg) : FnOk P w K mg base (L2.CX P w) 5 T.f_want_facts T.d_want_facts ["boxes", "days", "value"] (spD T.C sg_want_facts mir_want_facts) := by
  refine fn_mk (S := sg_want_facts) (ft := true) (n := 2) (body := b_want_facts) (G' := [.z, .z, .z, .z, .z]) rfl T.F_want_facts sc_want_facts rfl rfl rfl (fun _ => ⟨rfl, rfl⟩) ?_
  rintro ⟨prog, w2, K2, mg2, base2, A, N, s0, H0, ⟨scope, e2, e3, e4, e5, e6, e7, e8, e9⟩, outer, stack, ex, fn, calm, pn, xe⟩ E W hW hP hw hmg hb hN hS hF B hst hfr
  dsimp only at hP hw hmg hb hN hS hF
  have hK := B.hK
  dsimp only [Txt.C] at hK
  subst hW hP hw hmg hb hN hS hF hK
  exact ds_cons wkE (d_if wkE (dt_not (dt_val B.hK (de_call (S := sg_is_list) (E := E) (ok_is_list T) B.hr (by decide) (by rfl) T.m_is_list T.k_is_list T.B_is_list B.tk rfl (by decide) (dm_cons (de_var (i := 2) rfl rfl (by first | exact .inl rfl | exact .inr (.inl rfl) | exact .inr (.inr rfl))) dm_nil)))) (ds_one (d_stk (G' := [.z, .z, .z, .z, .z]))) ds_nil) (ds_one (d_for wkE B.po B.cm (di_enum B.hK (by rfl) T.n_enumerate (da_cons (de_var (i := 2) rfl rfl (by first | exact .inl rfl | exact .inr (.inl rfl) | exact .inr (.inr rfl))) da_nil)) (dg_tup B.hK B.cm (dgs_cons (dg_name (i := 3) sc_want_facts.nd rfl (by first | exact .inl rfl | exact .inr rfl) rfl) (dgs_cons (dg_name (i := 4) sc_want_facts.nd rfl (by first | exact .inl rfl | exact .inr rfl) rfl) dgs_nil)) rfl) (ds_one (d_if wkE (dt_not (dt_val B.hK (de_call (S := sg_is_fact) (E := E) (ok_is_fact T) B.hr (by decide) (by rfl) T.m_is_fact T.k_is_fact T.B_is_fact B.tk rfl (by decide) (dm_cons (de_var (i := 0) rfl rfl (by first | exact .inl rfl | exact .inr (.inl rfl) | exact .inr (.inr rfl))) (dm_cons (de_var (i := 1) rfl rfl (by first | exact .inl rfl | exact .inr (.inl rfl) | exact .inr (.inr rfl))) (dm_cons (de_var (i := 4) rfl rfl (by first | exact .inl rfl | exact .inr (.inl rfl) | exact .inr (.inr rfl))) dm_nil)))))) (ds_one (d_stk (G' := [.z, .z, .z, .z, .z]))) ds_nil)) rfl))
set_option maxRecDepth 4000 in
theorem ok_Yardu_initu (T : Txt K mg) : FnOk P w K mg base (L2.CX P w) 6 T.f_Yardu_initu T.d_Yardu_initu ["self", "boxes", "days", "facts"] (spD T.C sg_Yardu_initu mir_Yardu_initu) := by
  refine fn_mk (S := sg_Yardu_initu) (ft := true) (n := 0) (body := b_Yardu_initu) (G' := [.i, .z, .z, .z]) rfl T.F_Yardu_initu sc_Yardu_initu rfl rfl rfl (fun _ => ⟨rfl, rfl⟩) ?_
  rintro ⟨prog, w2, K2, mg2, base2, A, N, s0, H0, ⟨scope, e2, e3, e4, e5, e6, e7, e8, e9⟩, outer, stack, ex, fn, calm, pn, xe⟩ E W hW hP hw hmg hb hN hS hF B hst hfr
  dsimp only at hP hw hmg hb hN hS hF
  have hK := B.hK
  dsimp only [Txt.C] at hK
  subst hW hP hw hmg hb hN hS hF hK
  exact ds_cons wkE (d_drop (de_call (S := sg_want_boxes) (E := E) (ok_want_boxes T) B.hr (by decide) (by rfl) T.m_want_boxes T.k_want_boxes T.B_want_boxes B.tk rfl (by decide) (dm_cons (de_var (i := 1) rfl rfl (by first | exact .inl rfl | exact .inr (.inl rfl) | exact .inr (.inr rfl))) dm_nil))) (ds_cons wkE (d_drop (de_call (S := sg_want_days) (E := E) (ok_want_days T) B.hr (by decide) (by rfl) T.m_want_days T.k_want_days T.B_want_days B.tk rfl (by decide) (dm_cons (de_var (i := 2) rfl rfl (by first | exact .inl rfl | exact .inr (.inl rfl) | exact .inr (.inr rfl))) dm_nil))) (ds_cons wkE (d_drop (de_call (S := sg_want_facts) (E := E) (ok_want_facts T) B.hr (by decide) (by rfl) T.m_want_facts T.k_want_facts T.B_want_facts B.tk rfl (by decide) (dm_cons (de_var (i := 1) rfl rfl (by first | exact .inl rfl | exact .inr (.inl rfl) | exact .inr (.inr rfl))) (dm_cons (de_var (i := 2) rfl rfl (by first | exact .inl rfl | exact .inr (.inl rfl) | exact .inr (.inr rfl))) (dm_cons (de_var (i := 3) rfl rfl (by first | exact .inl rfl | exact .inr (.inl rfl) | exact .inr (.inr rfl))) dm_nil))))) (ds_cons wkE (d_if wkE (dt_cmp (op_cmpI op_gt) (de_callB (call_len_D B.hK) (by rfl) T.n_len PySem.boot_len (da_cons (de_var (i := 3) rfl rfl (by first | exact .inl rfl | exact .inr (.inl rfl) | exact .inr (.inr rfl))) da_nil)) (de_cval (by rfl) T.g_Yard T.r_Yard T.v_Yard_MOST_FACTS fun _ => .int _) (nomark _)) (ds_one (d_stk (G' := [.i, .z, .z, .z]))) ds_nil) (ds_cons wkE (d_fld (i := 0) B.hK (T.s_own_boxes) rfl rfl (by first | exact .inl rfl | exact .inr (.inl rfl) | exact .inr (.inr rfl)) (de_callTy (call_tuple_D B.hK) (by rfl) T.n_tuple bt_tuple (da_cons (de_var (i := 1) rfl rfl (by first | exact .inl rfl | exact .inr (.inl rfl) | exact .inr (.inr rfl))) da_nil))) (ds_cons wkE (d_fld (i := 0) B.hK (T.s_own_days) rfl rfl (by first | exact .inl rfl | exact .inr (.inl rfl) | exact .inr (.inr rfl)) (de_var (i := 2) rfl rfl (by first | exact .inl rfl | exact .inr (.inl rfl) | exact .inr (.inr rfl)))) (ds_one (d_fld (i := 0) B.hK (T.s_own_facts) rfl rfl (by first | exact .inl rfl | exact .inr (.inl rfl) | exact .inr (.inr rfl)) (de_callTy (call_tuple_D B.hK) (by rfl) T.n_tuple bt_tuple (da_cons (de_var (i := 3) rfl rfl (by first | exact .inl rfl | exact .inr (.inl rfl) | exact .inr (.inr rfl))) da_nil)))))))))
set_option maxRecDepth 4000 in
theorem ok_Yard_facts (T : Txt K mg) : FnOk P w K mg base (L2.CX P w) 1 T.f_Yard_facts T.d_Yard_facts ["self"] (spD T.C sg_Yard_facts mir_Yard_facts) := by
  refine fn_mk (S := sg_Yard_facts) (ft := false) (n := 0) (body := b_Yard_facts) (G' := [.z]) rfl T.F_Yard_facts sc_Yard_facts rfl rfl rfl (fun h => nomatch h) ?_
  rintro ⟨prog, w2, K2, mg2, base2, A, N, s0, H0, ⟨scope, e2, e3, e4, e5, e6, e7, e8, e9⟩, outer, stack, ex, fn, calm, pn, xe⟩ E W hW hP hw hmg hb hN hS hF B hst hfr
  dsimp only at hP hw hmg hb hN hS hF
  have hK := B.hK
  dsimp only [Txt.C] at hK
  subst hW hP hw hmg hb hN hS hF hK
  exact ds_one (d_ret (G' := [.z]) rfl (de_frz (de_callTy (call_list_D B.hK) (by rfl) T.n_list bt_list (da_cons (de_fld B.hK T.h_Yard T.c_Yard T.a_Yard_own_facts (de_var (i := 0) rfl rfl (by first | exact .inl rfl | exact .inr (.inl rfl) | exact .inr (.inr rfl)))) da_nil))))
set_option maxRecDepth 4000 in
theorem ok_want_number (T : Txt K mg) : FnOk P w K mg base (L2.CX P w) 3 T.f_want_number T.d_want_number ["yard", "value"] (spD T.C sg_want_number mir_want_number) := by
  refine fn_mk (S := sg_want_number) (ft := true) (n := 0) (body := b_want_number) (G' := [.z, .z]) rfl T.F_want_number sc_want_number rfl rfl rfl (fun _ => ⟨rfl, rfl⟩) ?_
  rintro ⟨prog, w2, K2, mg2, base2, A, N, s0, H0, ⟨scope, e2, e3, e4, e5, e6, e7, e8, e9⟩, outer, stack, ex, fn, calm, pn, xe⟩ E W hW hP hw hmg hb hN hS hF B hst hfr
  dsimp only at hP hw hmg hb hN hS hF
  have hK := B.hK
  dsimp only [Txt.C] at hK
  subst hW hP hw hmg hb hN hS hF hK
  exact ds_one (d_if wkE (PW.pt (dw_or (dt_not (dt_val B.hK (de_call (S := sg_is_count) (E := E) (ok_is_count T) B.hr (by decide) (by rfl) T.m_is_count T.k_is_count T.B_is_count B.tk rfl (by decide) (dm_cons (de_var (i := 1) rfl rfl (by first | exact .inl rfl | exact .inr (.inl rfl) | exact .inr (.inr rfl))) dm_nil)))) (dw_or1 (dt_cmp (op_cmpI op_ge) (de_var (i := 1) rfl rfl (by first | exact .inl rfl | exact .inr (.inl rfl) | exact .inr (.inr rfl))) (de_callB (call_len_D B.hK) (by rfl) T.n_len PySem.boot_len (da_cons (de_methI0 (S := sg_Yard_facts) (n := 1) T.h_Yard (E := E) rfl B.tk rfl (de_var (i := 0) rfl rfl (by first | exact .inl rfl | exact .inr (.inl rfl) | exact .inr (.inr rfl))) T.c_Yard T.t_Yard_facts (ok_Yard_facts T) B.hr (by decide) T.B_Yard_facts) da_nil)) (nomark _))))) (ds_one (d_stk (G' := [.z, .z]))) ds_nil)
set_option maxRecDepth 4000 in
theorem ok_Yard_days (T : Txt K mg) : FnOk P w K mg base (L2.CX P w) 1 T.f_Yard_days T.d_Yard_days ["self"] (spD T.C sg_Yard_days mir_Yard_days) := by
  refine fn_mk (S := sg_Yard_days) (ft := false) (n := 0) (body := b_Yard_days) (G' := [.z]) rfl T.F_Yard_days sc_Yard_days rfl rfl rfl (fun h => nomatch h) ?_
  rintro ⟨prog, w2, K2, mg2, base2, A, N, s0, H0, ⟨scope, e2, e3, e4, e5, e6, e7, e8, e9⟩, outer, stack, ex, fn, calm, pn, xe⟩ E W hW hP hw hmg hb hN hS hF B hst hfr
  dsimp only at hP hw hmg hb hN hS hF
  have hK := B.hK
  dsimp only [Txt.C] at hK
  subst hW hP hw hmg hb hN hS hF hK
  exact ds_one (d_ret (G' := [.z]) rfl (de_fld B.hK T.h_Yard T.c_Yard T.a_Yard_own_days (de_var (i := 0) rfl rfl (by first | exact .inl rfl | exact .inr (.inl rfl) | exact .inr (.inr rfl)))))
set_option maxRecDepth 4000 in
theorem ok_Yardu_lenu (T : Txt K mg) : FnOk P w K mg base (L2.CX P w) 1 T.f_Yardu_lenu T.d_Yardu_lenu ["self"] (spD T.C sg_Yardu_lenu mir_Yardu_lenu) := by
  refine fn_mk (S := sg_Yardu_lenu) (ft := false) (n := 0) (body := b_Yardu_lenu) (G' := [.z]) rfl T.F_Yardu_lenu sc_Yardu_lenu rfl rfl rfl (fun h => nomatch h) ?_
  rintro ⟨prog, w2, K2, mg2, base2, A, N, s0, H0, ⟨scope, e2, e3, e4, e5, e6, e7, e8, e9⟩, outer, stack, ex, fn, calm, pn, xe⟩ E W hW hP hw hmg hb hN hS hF B hst hfr
  dsimp only at hP hw hmg hb hN hS hF
  have hK := B.hK
  dsimp only [Txt.C] at hK
  subst hW hP hw hmg hb hN hS hF hK
  exact ds_one (d_ret (G' := [.z]) rfl (de_callB (call_len_D B.hK) (by rfl) T.n_len PySem.boot_len (da_cons (de_fld B.hK T.h_Yard T.c_Yard T.a_Yard_own_boxes (de_var (i := 0) rfl rfl (by first | exact .inl rfl | exact .inr (.inl rfl) | exact .inr (.inr rfl)))) da_nil)))
set_option maxRecDepth 4000 in
theorem ok_turns_of (T : Txt K mg) : FnOk P w K mg base (L2.CX P w) 3 T.f_turns_of T.d_turns_of ["yard", "fact"] (spD T.C sg_turns_of mir_turns_of) := by
  refine fn_mk (S := sg_turns_of) (ft := false) (n := 7) (body := b_turns_of) (G' := [.z, .z, (.c .z), .z, .z, .z, .z, .z, .z]) rfl T.F_turns_of sc_turns_of rfl rfl rfl (fun h => nomatch h) ?_
  rintro ⟨prog, w2, K2, mg2, base2, A, N, s0, H0, ⟨scope, e2, e3, e4, e5, e6, e7, e8, e9⟩, outer, stack, ex, fn, calm, pn, xe⟩ E W hW hP hw hmg hb hN hS hF B hst hfr
  dsimp only at hP hw hmg hb hN hS hF
  have hK := B.hK
  dsimp only [Txt.C] at hK
  subst hW hP hw hmg hb hN hS hF hK
  exact ds_cons wkE (d_if wkE (dt_cmp (op_eq_D B.hK (hu64 B.hr)) (de_ix B.hK (hu1 B.hr) (de_var (i := 1) rfl rfl (by first | exact .inl rfl | exact .inr (.inl rfl) | exact .inr (.inr rfl))) de_int (fun _ _ => rfl)) de_str (nomark _)) (ds_one (d_ret (G' := [.z, .z, .z, .z, .z, .z, .z, .z, .z]) rfl (de_lstO (da_cons (de_tup (da_cons de_str (da_cons (de_ix B.hK (hu1 B.hr) (de_var (i := 1) rfl rfl (by first | exact .inl rfl | exact .inr (.inl rfl) | exact .inr (.inr rfl))) de_int (fun _ _ => rfl)) (da_cons (de_ix B.hK (hu1 B.hr) (de_var (i := 1) rfl rfl (by first | exact .inl rfl | exact .inr (.inl rfl) | exact .inr (.inr rfl))) de_int (fun _ _ => rfl)) da_nil)))) da_nil)))) ds_nil) (ds_cons wkE (d_asg (de_var (i := 1) rfl rfl (by first | exact .inl rfl | exact .inr (.inl rfl) | exact .inr (.inr rfl))) (dg_tup B.hK B.cm (dgs_cons (dg_name (i := 3) sc_turns_of.nd rfl (by first | exact .inl rfl | exact .inr rfl) rfl) (dgs_cons (dg_name (i := 4) sc_turns_of.nd rfl (by first | exact .inl rfl | exact .inr rfl) rfl) (dgs_cons (dg_name (i := 5) sc_turns_of.nd rfl (by first | exact .inl rfl | exact .inr rfl) rfl) (dgs_cons (dg_name (i := 6) sc_turns_of.nd rfl (by first | exact .inl rfl | exact .inr rfl) rfl) dgs_nil)))) rfl) rfl) (ds_cons wkE (d_asg (de_if (dt_cmp (op_eq_D B.hK (hu64 B.hr)) (de_var (i := 3) rfl rfl (by first | exact .inl rfl | exact .inr (.inl rfl) | exact .inr (.inr rfl))) de_str (nomark _)) (de_tup (da_cons de_int (da_cons (de_prop (S := sg_Yard_days) T.h_Yard rfl (de_var (i := 0) rfl rfl (by first | exact .inl rfl | exact .inr (.inl rfl) | exact .inr (.inr rfl))) T.c_Yard T.p_Yard_days (ok_Yard_days T) B.hr (by decide) T.B_Yard_days takes0n) da_nil))) (de_tup (da_cons de_int (da_cons (de_lenI (S := sg_Yardu_lenu) T.h_Yard (E := E) rfl B.tk rfl rfl T.u_Yard_len (ok_Yardu_lenu T) B.hr (by decide) T.B_Yardu_lenu (by rfl) T.n_len (de_var (i := 0) rfl rfl (by first | exact .inl rfl | exact .inr (.inl rfl) | exact .inr (.inr rfl)))) da_nil)))) (dg_tup B.hK B.cm (dgs_cons (dg_name (i := 7) sc_turns_of.nd rfl (by first | exact .inl rfl | exact .inr rfl) rfl) (dgs_cons (dg_name (i := 8) sc_turns_of.nd rfl (by first | exact .inl rfl | exact .inr rfl) rfl) dgs_nil)) rfl) rfl) (ds_cons wkE (d_set (i := 2) (o := (.c .z)) sc_turns_of.nd rfl (by first | exact .inl rfl | exact .inr rfl) (de_nilO (o := .z)) rfl (by decide)) (ds_cons wkE (d_if wkE (dt_cmp (op_lt_D B.hK (hu0 B.hr)) (de_var (i := 7) rfl rfl (by first | exact .inl rfl | exact .inr (.inl rfl) | exact .inr (.inr rfl))) (de_var (i := 5) rfl rfl (by first | exact .inl rfl | exact .inr (.inl rfl) | exact .inr (.inr rfl))) (nomark _)) (ds_one (d_drop (de_meth (i := 2) (.inl ⟨rfl, rfl⟩) PySem.F.plainAttrs_list PySem.F.slot_list_append PySem.F.type_list_append me_append rfl rfl (by first | exact .inl rfl | exact .inr (.inl rfl) | exact .inr (.inr rfl)) (dm_cons (de_tup (da_cons (de_var (i := 3) rfl rfl (by first | exact .inl rfl | exact .inr (.inl rfl) | exact .inr (.inr rfl))) (da_cons (de_var (i := 4) rfl rfl (by first | exact .inl rfl | exact .inr (.inl rfl) | exact .inr (.inr rfl))) (da_cons (de_var (i := 7) rfl rfl (by first | exact .inl rfl | exact .inr (.inl rfl) | exact .inr (.inr rfl))) (da_cons (de_bin op_sub_D (de_var (i := 5) rfl rfl (by first | exact .inl rfl | exact .inr (.inl rfl) | exact .inr (.inr rfl))) de_int) da_nil))))) dm_nil)))) ds_nil) (ds_cons wkE (d_if wkE (dt_cmp (op_lt_D B.hK (hu0 B.hr)) (de_var (i := 6) rfl rfl (by first | exact .inl rfl | exact .inr (.inl rfl) | exact .inr (.inr rfl))) (de_var (i := 8) rfl rfl (by first | exact .inl rfl | exact .inr (.inl rfl) | exact .inr (.inr rfl))) (nomark _)) (ds_one (d_drop (de_meth (i := 2) (.inl ⟨rfl, rfl⟩) PySem.F.plainAttrs_list PySem.F.slot_list_append PySem.F.type_list_append me_append rfl rfl (by first | exact .inl rfl | exact .inr (.inl rfl) | exact .inr (.inr rfl)) (dm_cons (de_tup (da_cons (de_var (i := 3) rfl rfl (by first | exact .inl rfl | exact .inr (.inl rfl) | exact .inr (.inr rfl))) (da_cons (de_var (i := 4) rfl rfl (by first | exact .inl rfl | exact .inr (.inl rfl) | exact .inr (.inr rfl))) (da_cons (de_bin (op_add_D B.hK) (de_var (i := 6) rfl rfl (by first | exact .inl rfl | exact .inr (.inl rfl) | exact .inr (.inr rfl))) de_int) (da_cons (de_var (i := 8) rfl rfl (by first | exact .inl rfl | exact .inr (.inl rfl) | exact .inr (.inr rfl))) da_nil))))) dm_nil)))) ds_nil) (ds_one (d_ret (G' := [.z, .z, (.c .z), .z, .z, .z, .z, .z, .z]) rfl (de_mv (i := 2) rfl rfl (by first | exact .inl rfl | exact .inr (.inl rfl) | exact .inr (.inr rfl))))))))))
set_option maxRecDepth 4000 in
theorem ok_turns (T : Txt K mg) : FnOk P w K mg base (L2.CX P w) 4 T.f_turns T.d_turns ["yard", "number"] (spD T.C sg_turns mir_turns) := by
  refine fn_mk (S := sg_turns) (ft := false) (n := 0) (body := b_turns) (G' := [.z, .z]) rfl T.F_turns sc_turns rfl rfl rfl (fun h => nomatch h) ?_
  rintro ⟨prog, w2, K2, mg2, base2, A, N, s0, H0, ⟨scope, e2, e3, e4, e5, e6, e7, e8, e9⟩, outer, stack, ex, fn, calm, pn, xe⟩ E W hW hP hw hmg hb hN hS hF B hst hfr
  dsimp only at hP hw hmg hb hN hS hF
  have hK := B.hK
  dsimp only [Txt.C] at hK
  subst hW hP hw hmg hb hN hS hF hK
  exact ds_cons wkE (d_drop (de_call (S := sg_want_number) (E := E) (ok_want_number T) B.hr (by decide) (by rfl) T.m_want_number T.k_want_number T.B_want_number B.tk rfl (by decide) (dm_cons (de_var (i := 0) rfl rfl (by first | exact .inl rfl | exact .inr (.inl rfl) | exact .inr (.inr rfl))) (dm_cons (de_var (i := 1) rfl rfl (by first | exact .inl rfl | exact .inr (.inl rfl) | exact .inr (.inr rfl))) dm_nil)))) (ds_one (d_ret (G' := [.z, .z]) rfl (de_call (S := sg_turns_of) (E := E) (ok_turns_of T) B.hr (by decide) (by rfl) T.m_turns_of T.k_turns_of T.B_turns_of B.tk rfl (by decide) (dm_cons (de_var (i := 0) rfl rfl (by first | exact .inl rfl | exact .inr (.inl rfl) | exact .inr (.inr rfl))) (dm_cons (de_ix B.hK (hu1 B.hr) (de_methI0 (S := sg_Yard_facts) (n := 1) T.h_Yard (E := E) rfl B.tk rfl (de_var (i := 0) rfl rfl (by first | exact .inl rfl | exact .inr (.inl rfl) | exact .inr (.inr rfl))) T.c_Yard T.t_Yard_facts (ok_Yard_facts T) B.hr (by decide) T.B_Yard_facts) (de_var (i := 1) rfl rfl (by first | exact .inl rfl | exact .inr (.inl rfl) | exact .inr (.inr rfl))) (fun _ _ => rfl)) dm_nil)))))
set_option maxRecDepth 4000 in
theorem ok_law_turns (T : Txt K mg) : FnOk P w K mg base (L2.CX P w) 1 T.f_law_turns T.d_law_turns ["_law_folk_here", "_law_span", "_law_row"] (spD T.C sg_law_turns mir_law_turns) := by
  refine fn_mk (S := sg_law_turns) (ft := false) (n := 4) (body := b_law_turns) (G' := [.z, .z, .z, .z, .z, .z, .z]) rfl T.F_law_turns sc_law_turns rfl rfl rfl (fun h => nomatch h) ?_
  rintro ⟨prog, w2, K2, mg2, base2, A, N, s0, H0, ⟨scope, e2, e3, e4, e5, e6, e7, e8, e9⟩, outer, stack, ex, fn, calm, pn, xe⟩ E W hW hP hw hmg hb hN hS hF B hst hfr
  dsimp only at hP hw hmg hb hN hS hF
  have hK := B.hK
  dsimp only [Txt.C] at hK
  subst hW hP hw hmg hb hN hS hF hK
  exact ds_cons wkE (d_if wkE (dt_cmp (op_eq_D B.hK (hu64 B.hr)) (de_ix B.hK (hu1 B.hr) (de_var (i := 2) rfl rfl (by first | exact .inl rfl | exact .inr (.inl rfl) | exact .inr (.inr rfl))) de_int (fun _ _ => rfl)) de_str (nomark _)) (ds_one (d_ret (G' := [.z, .z, .z, .z, .z, .z, .z]) rfl (de_lst (da_cons (de_tup (da_cons de_str (da_cons (de_ix B.hK (hu1 B.hr) (de_var (i := 2) rfl rfl (by first | exact .inl rfl | exact .inr (.inl rfl) | exact .inr (.inr rfl))) de_int (fun _ _ => rfl)) (da_cons (de_ix B.hK (hu1 B.hr) (de_var (i := 2) rfl rfl (by first | exact .inl rfl | exact .inr (.inl rfl) | exact .inr (.inr rfl))) de_int (fun _ _ => rfl)) da_nil)))) da_nil)))) ds_nil) (ds_cons wkE (d_asg (de_if (dt_cmp (op_eq_D B.hK (hu64 B.hr)) (de_ix B.hK (hu1 B.hr) (de_var (i := 2) rfl rfl (by first | exact .inl rfl | exact .inr (.inl rfl) | exact .inr (.inr rfl))) de_int (fun _ _ => rfl)) de_str (nomark _)) (de_tup (da_cons de_int (da_cons (de_var (i := 1) rfl rfl (by first | exact .inl rfl | exact .inr (.inl rfl) | exact .inr (.inr rfl))) da_nil))) (de_tup (da_cons de_int (da_cons (de_callB (call_len_D B.hK) (by rfl) T.n_len PySem.boot_len (da_cons (de_var (i := 0) rfl rfl (by first | exact .inl rfl | exact .inr (.inl rfl) | exact .inr (.inr rfl))) da_nil)) da_nil)))) (dg_tup B.hK B.cm (dgs_cons (dg_name (i := 4) sc_law_turns.nd rfl (by first | exact .inl rfl | exact .inr rfl) rfl) (dgs_cons (dg_name (i := 5) sc_law_turns.nd rfl (by first | exact .inl rfl | exact .inr rfl) rfl) dgs_nil)) rfl) rfl) (ds_cons wkE (d_set (i := 3) (o := .z) sc_law_turns.nd rfl (by first | exact .inl rfl | exact .inr rfl) (de_lst (da_cons (de_tup (da_cons (de_ix B.hK (hu1 B.hr) (de_var (i := 2) rfl rfl (by first | exact .inl rfl | exact .inr (.inl rfl) | exact .inr (.inr rfl))) de_int (fun _ _ => rfl)) (da_cons (de_ix B.hK (hu1 B.hr) (de_var (i := 2) rfl rfl (by first | exact .inl rfl | exact .inr (.inl rfl) | exact .inr (.inr rfl))) de_int (fun _ _ => rfl)) (da_cons (de_var (i := 4) rfl rfl (by first | exact .inl rfl | exact .inr (.inl rfl) | exact .inr (.inr rfl))) (da_cons (de_bin op_sub_D (de_ix B.hK (hu1 B.hr) (de_var (i := 2) rfl rfl (by first | exact .inl rfl | exact .inr (.inl rfl) | exact .inr (.inr rfl))) de_int (fun _ _ => rfl)) de_int) da_nil))))) (da_cons (de_tup (da_cons (de_ix B.hK (hu1 B.hr) (de_var (i := 2) rfl rfl (by first | exact .inl rfl | exact .inr (.inl rfl) | exact .inr (.inr rfl))) de_int (fun _ _ => rfl)) (da_cons (de_ix B.hK (hu1 B.hr) (de_var (i := 2) rfl rfl (by first | exact .inl rfl | exact .inr (.inl rfl) | exact .inr (.inr rfl))) de_int (fun _ _ => rfl)) (da_cons (de_bin (op_add_D B.hK) (de_ix B.hK (hu1 B.hr) (de_var (i := 2) rfl rfl (by first | exact .inl rfl | exact .inr (.inl rfl) | exact .inr (.inr rfl))) de_int (fun _ _ => rfl)) de_int) (da_cons (de_var (i := 5) rfl rfl (by first | exact .inl rfl | exact .inr (.inl rfl) | exact .inr (.inr rfl))) da_nil))))) da_nil))) rfl (by decide)) (ds_one (d_ret (G' := [.z, .z, .z, .z, .z, .z, .z]) rfl (de_frz (de_lc (vs := [6]) (oe := .z) B.cm sc_law_turns.nd (di_val B.hK (de_var (i := 3) rfl rfl (by first | exact .inl rfl | exact .inr (.inl rfl) | exact .inr (.inr rfl)))) (blkOk_by (N := nm_law_turns) (sc := defScope s_law_turns) (own := [("_law_near", 6)]) (by decide +kernel)) rfl (by decide) rfl (fun _ _ _ _ _ => dg_name (i := 6) sc_law_turns.nd rfl (by first | exact .inl rfl | exact .inr rfl) rfl) (fun _ _ _ _ _ => dts_one (dt_cmp (op_cmpI op_le) (de_ix B.hK (hu1 B.hr) (de_var (i := 6) rfl rfl (by first | exact .inl rfl | exact .inr (.inl rfl) | exact .inr (.inr rfl))) de_int (fun _ _ => rfl)) (de_ix B.hK (hu1 B.hr) (de_var (i := 6) rfl rfl (by first | exact .inl rfl | exact .inr (.inl rfl) | exact .inr (.inr rfl))) de_int (fun _ _ => rfl)) (nomark _))) (fun _ _ _ _ _ => de_var (i := 6) rfl rfl (by first | exact .inl rfl | exact .inr (.inl rfl) | exact .inr (.inr rfl)))))))))
set_option maxRecDepth 4000 in
theorem ok_Yardu_addu (T : Txt K mg) : FnOk P w K mg base (L2.CX P w) 8 T.f_Yardu_addu T.d_Yardu_addu ["self", "other"] (spD T.C sg_Yardu_addu mir_Yardu_addu) := by
  refine fn_mk (S := sg_Yardu_addu) (ft := false) (n := 0) (body := b_Yardu_addu) (G' := [.z, .z]) rfl T.F_Yardu_addu sc_Yardu_addu rfl rfl rfl (fun h => nomatch h) ?_
  rintro ⟨prog, w2, K2, mg2, base2, A, N, s0, H0, ⟨scope, e2, e3, e4, e5, e6, e7, e8, e9⟩, outer, stack, ex, fn, calm, pn, xe⟩ E W hW hP hw hmg hb hN hS hF B hst hfr
  dsimp only at hP hw hmg hb hN hS hF
  have hK := B.hK
  dsimp only [Txt.C] at hK
  subst hW hP hw hmg hb hN hS hF hK
  exact ds_cons wkE (d_if wkE (dt_not (dt_val B.hK (de_call (S := sg_is_fact) (E := E) (ok_is_fact T) B.hr (by decide) (by rfl) T.m_is_fact T.k_is_fact T.B_is_fact B.tk rfl (by decide) (dm_cons (de_fld B.hK T.h_Yard T.c_Yard T.a_Yard_own_boxes (de_var (i := 0) rfl rfl (by first | exact .inl rfl | exact .inr (.inl rfl) | exact .inr (.inr rfl)))) (dm_cons (de_fld B.hK T.h_Yard T.c_Yard T.a_Yard_own_days (de_var (i := 0) rfl rfl (by first | exact .inl rfl | exact .inr (.inl rfl) | exact .inr (.inr rfl)))) (dm_cons (de_var (i := 1) rfl rfl (by first | exact .inl rfl | exact .inr (.inl rfl) | exact .inr (.inr rfl))) dm_nil)))))) (ds_one (d_stk (G' := [.z, .z]))) ds_nil) (ds_one (d_ret (G' := [.z, .z]) rfl (de_frz (de_make (n := 3) T.h_Yard (E := E) rfl B.tk T.m_Yard (ok_Yardu_initu T) B.hr (by decide) (by rfl) T.g_Yard T.B_Yardu_initu (da_cons (de_fld B.hK T.h_Yard T.c_Yard T.a_Yard_own_boxes (de_var (i := 0) rfl rfl (by first | exact .inl rfl | exact .inr (.inl rfl) | exact .inr (.inr rfl)))) (da_cons (de_fld B.hK T.h_Yard T.c_Yard T.a_Yard_own_days (de_var (i := 0) rfl rfl (by first | exact .inl rfl | exact .inr (.inl rfl) | exact .inr (.inr rfl)))) (da_cons (de_tup (da_star B.hK (de_fld B.hK T.h_Yard T.c_Yard T.a_Yard_own_facts (de_var (i := 0) rfl rfl (by first | exact .inl rfl | exact .inr (.inl rfl) | exact .inr (.inr rfl)))) (da_cons (de_var (i := 1) rfl rfl (by first | exact .inl rfl | exact .inr (.inl rfl) | exact .inr (.inr rfl))) da_nil))) da_nil)))))))
set_option maxRecDepth 4000 in
theorem ok_law_mixed (T : Txt K mg) : FnOk P w K mg base (L2.CX P w) 2 T.f_law_mixed T.d_law_mixed ["_law_pot_here", "_law_some"] (spD T.C sg_law_mixed mir_law_mixed) := by
  refine fn_mk (S := sg_law_mixed) (ft := false) (n := 2) (body := b_law_mixed) (G' := [(.c .z), .z, (.c .z), .z]) rfl T.F_law_mixed sc_law_mixed rfl rfl rfl (fun h => nomatch h) ?_
  rintro ⟨prog, w2, K2, mg2, base2, A, N, s0, H0, ⟨scope, e2, e3, e4, e5, e6, e7, e8, e9⟩, outer, stack, ex, fn, calm, pn, xe⟩ E W hW hP hw hmg hb hN hS hF B hst hfr
  dsimp only at hP hw hmg hb hN hS hF
  have hK := B.hK
  dsimp only [Txt.C] at hK
  subst hW hP hw hmg hb hN hS hF hK
  exact ds_cons wkE (d_set (i := 2) (o := (.c .z)) sc_law_mixed.nd rfl (by first | exact .inl rfl | exact .inr rfl) (de_callTy (call_list_D B.hK) (by rfl) T.n_list bt_list (da_cons (de_var (i := 1) rfl rfl (by first | exact .inl rfl | exact .inr (.inl rfl) | exact .inr (.inr rfl))) da_nil)) rfl (by decide)) (ds_one (d_ret (G' := [(.c .z), .z, (.c .z), .z]) rfl (de_frz (de_lc (vs := [3]) (oe := .z) B.cm sc_law_mixed.nd (di_range1 (by rfl) T.n_range (da_cons (de_callB (call_len_D B.hK) (by rfl) T.n_len PySem.boot_len (da_cons (de_var (i := 1) rfl rfl (by first | exact .inl rfl | exact .inr (.inl rfl) | exact .inr (.inr rfl))) da_nil)) da_nil)) (blkOk_by (N := nm_law_mixed) (sc := defScope s_law_mixed) (own := [("_law_turn", 3)]) (by decide +kernel)) rfl (by decide) rfl (fun _ _ _ _ _ => dg_name (i := 3) sc_law_mixed.nd rfl (by first | exact .inl rfl | exact .inr rfl) rfl) (fun _ _ _ _ _ => dts_nil) (fun _ _ _ _ _ => de_meth (i := 2) (.inl ⟨rfl, rfl⟩) PySem.F.plainAttrs_list PySem.F.slot_list_pop PySem.F.type_list_pop me_popAt rfl rfl (by first | exact .inl rfl | exact .inr (.inl rfl) | exact .inr (.inr rfl)) (dm_cons (de_call (S := sg_law_draw) (E := nE) (ok_law_draw T) B.hr (by decide) (by rfl) T.m_law_draw T.k_law_draw T.B_law_draw takesW0 rfl (by decide) (dm_mv (i := 0) rfl rfl (by first | exact .inl rfl | exact .inr (.inl rfl) | exact .inr (.inr rfl)) (dm_cons (de_view (de_callB (call_len_D B.hK) (by rfl) T.n_len PySem.boot_len (da_cons (de_var (i := 2) rfl rfl (by first | exact .inl rfl | exact .inr (.inl rfl) | exact .inr (.inr rfl))) da_nil))) dm_nil))) dm_nil))))))
set_option maxRecDepth 4000 in
theorem ok_law_told (T : Txt K mg) : FnOk P w K mg base (L2.CX P w) 3 T.f_law_told T.d_law_told ["_law_pot_here", "_law_folk_here", "_law_span"] (spD T.C sg_law_told mir_law_told) := by
  refine fn_mk (S := sg_law_told) (ft := false) (n := 5) (body := b_law_told) (G' := [(.c .z), .z, .z, .z, .z, .z, .z, .z]) rfl T.F_law_told sc_law_told rfl rfl rfl (fun h => nomatch h) ?_
  rintro ⟨prog, w2, K2, mg2, base2, A, N, s0, H0, ⟨scope, e2, e3, e4, e5, e6, e7, e8, e9⟩, outer, stack, ex, fn, calm, pn, xe⟩ E W hW hP hw hmg hb hN hS hF B hst hfr
  dsimp only at hP hw hmg hb hN hS hF
  have hK := B.hK
  dsimp only [Txt.C] at hK
  subst hW hP hw hmg hb hN hS hF hK
  exact ds_cons wkE (d_tup (is := [3, 4]) (os := [.z, .z]) B.cm (dm_cons (de_call (S := sg_law_mixed) (E := E) (ok_law_mixed T) B.hr (by decide) (by rfl) T.m_law_mixed T.k_law_mixed T.B_law_mixed B.tk rfl (by decide) (dm_mv (i := 0) rfl rfl (by first | exact .inl rfl | exact .inr (.inl rfl) | exact .inr (.inr rfl)) (dm_cons (de_var (i := 1) rfl rfl (by first | exact .inl rfl | exact .inr (.inl rfl) | exact .inr (.inr rfl))) dm_nil))) (dm_cons (de_frz (de_callB (call_sortI_D B.hK) (by rfl) T.n_sorted bt_sorted (da_cons (de_frz (de_lc (vs := [6]) (oe := .z) B.cm sc_law_told.nd (di_val B.hK (de_var (i := 1) rfl rfl (by first | exact .inl rfl | exact .inr (.inl rfl) | exact .inr (.inr rfl)))) (blkOk_by (N := nm_law_told) (sc := defScope s_law_told) (own := [("_law_label", 6)]) (by decide +kernel)) rfl (by decide) rfl (fun _ _ _ _ _ => dg_name (i := 6) sc_law_told.nd rfl (by first | exact .inl rfl | exact .inr rfl) rfl) (fun _ _ _ _ _ => dts_nil) (fun _ _ _ _ _ => de_bin (op_add_D B.hK) de_int (de_call (S := sg_law_draw) (E := nE) (ok_law_draw T) B.hr (by decide) (by rfl) T.m_law_draw T.k_law_draw T.B_law_draw takesW0 rfl (by decide) (dm_mv (i := 0) rfl rfl (by first | exact .inl rfl | exact .inr (.inl rfl) | exact .inr (.inr rfl)) (dm_cons (de_var (i := 2) rfl rfl (by first | exact .inl rfl | exact .inr (.inl rfl) | exact .inr (.inr rfl))) dm_nil)))))) da_nil))) dm_nil)) (pgs_names (i := 3) sc_law_told.nd rfl (by first | exact .inl rfl | exact .inr rfl) (pgs_names (i := 4) sc_law_told.nd rfl (by first | exact .inl rfl | exact .inr rfl) pgs_names0)) rfl rfl) (ds_one (d_ret (G' := [(.c .z), .z, .z, .z, .z, .z, .z, .z]) rfl (de_frz (de_lc (vs := [5]) (oe := .z) B.cm sc_law_told.nd (di_range1 (by rfl) T.n_range (da_cons (de_var (i := 2) rfl rfl (by first | exact .inl rfl | exact .inr (.inl rfl) | exact .inr (.inr rfl))) da_nil)) (blkOk_by (N := nm_law_told) (sc := defScope s_law_told) (own := [("_law_k", 5)]) (by decide +kernel)) rfl (by decide) rfl (fun _ _ _ _ _ => dg_name (i := 5) sc_law_told.nd rfl (by first | exact .inl rfl | exact .inr rfl) rfl) (fun _ _ _ _ _ => dts_nil) (fun _ _ _ _ _ => de_frz (de_lc (vs := [6, 7]) (oe := .z) B.cm sc_law_told.nd (di_zip B.hK (by rfl) T.n_zip (da_cons (de_var (i := 3) rfl rfl (by first | exact .inl rfl | exact .inr (.inl rfl) | exact .inr (.inr rfl))) (da_cons (de_var (i := 4) rfl rfl (by first | exact .inl rfl | exact .inr (.inl rfl) | exact .inr (.inr rfl))) da_nil))) (blkOk_by (N := nm_law_told) (sc := relS _ (defScope s_law_told)) (own := [("_law_label", 6), ("_law_noon", 7)]) (by decide +kernel)) rfl (by decide) rfl (fun _ _ _ _ _ => dg_tup B.hK B.cm (dgs_cons (dg_name (i := 6) sc_law_told.nd rfl (by first | exact .inl rfl | exact .inr rfl) rfl) (dgs_cons (dg_name (i := 7) sc_law_told.nd rfl (by first | exact .inl rfl | exact .inr rfl) rfl) dgs_nil)) rfl) (fun _ _ _ _ _ => dts_one (dt_cmp (op_eq_D B.hK (hu64 B.hr)) (de_var (i := 7) rfl rfl (by first | exact .inl rfl | exact .inr (.inl rfl) | exact .inr (.inr rfl))) (de_bin (op_add_D B.hK) (de_var (i := 5) rfl rfl (by first | exact .inl rfl | exact .inr (.inl rfl) | exact .inr (.inr rfl))) de_int) (nomark _))) (fun _ _ _ _ _ => de_var (i := 6) rfl rfl (by first | exact .inl rfl | exact .inr (.inl rfl) | exact .inr (.inr rfl)))))))))
set_option maxRecDepth 4000 in
theorem ok_is_list_of_days (T : Txt K mg) : FnOk P w K mg base (L2.CX P w) 3 T.f_is_list_of_days T.d_is_list_of_days ["yard", "value"] (spD T.C sg_is_list_of_days mir_is_list_of_days) := by
  refine fn_mk (S := sg_is_list_of_days) (ft := false) (n := 1) (body := b_is_list_of_days) (G' := [.z, .z, .z]) rfl T.F_is_list_of_days sc_is_list_of_days rfl rfl rfl (fun h => nomatch h) ?_
  rintro ⟨prog, w2, K2, mg2, base2, A, N, s0, H0, ⟨scope, e2, e3, e4, e5, e6, e7, e8, e9⟩, outer, stack, ex, fn, calm, pn, xe⟩ E W hW hP hw hmg hb hN hS hF B hst hfr
  dsimp only at hP hw hmg hb hN hS hF
  have hK := B.hK
  dsimp only [Txt.C] at hK
  subst hW hP hw hmg hb hN hS hF hK
  exact ds_one (d_ret (G' := [.z, .z, .z]) rfl (de_and (de_call (S := sg_is_list) (E := E) (ok_is_list T) B.hr (by decide) (by rfl) T.m_is_list T.k_is_list T.B_is_list B.tk rfl (by decide) (dm_cons (de_var (i := 1) rfl rfl (by first | exact .inl rfl | exact .inr (.inl rfl) | exact .inr (.inr rfl))) dm_nil)) (de_and (de_cmp (op_eq_D B.hK (hu64 B.hr)) (de_callB (call_len_D B.hK) (by rfl) T.n_len PySem.boot_len (da_cons (de_var (i := 1) rfl rfl (by first | exact .inl rfl | exact .inr (.inl rfl) | exact .inr (.inr rfl))) da_nil)) (de_prop (S := sg_Yard_days) T.h_Yard rfl (de_var (i := 0) rfl rfl (by first | exact .inl rfl | exact .inr (.inl rfl) | exact .inr (.inr rfl))) T.c_Yard T.p_Yard_days (ok_Yard_days T) B.hr (by decide) T.B_Yard_days takes0n) (nomark _)) (de_one (de_callB (call_all_D B.hK B.cm) (by rfl) T.n_all bt_all (da_cons (de_frz (de_lc (vs := [2]) (oe := .z) B.cm sc_is_list_of_days.nd (di_val B.hK (de_var (i := 1) rfl rfl (by first | exact .inl rfl | exact .inr (.inl rfl) | exact .inr (.inr rfl)))) (blkOk_by (N := nm_is_list_of_days) (sc := defScope s_is_list_of_days) (own := [("boxes", 2)]) (by decide +kernel)) rfl (by decide) rfl (fun _ _ _ _ _ => dg_name (i := 2) sc_is_list_of_days.nd rfl (by first | exact .inl rfl | exact .inr rfl) rfl) (fun _ _ _ _ _ => dts_nil) (fun _ _ _ _ _ => de_call (S := sg_is_list) (E := nE) (ok_is_list T) B.hr (by decide) (by rfl) T.m_is_list T.k_is_list T.B_is_list takesW0 rfl (by decide) (dm_cons (de_var (i := 2) rfl rfl (by first | exact .inl rfl | exact .inr (.inl rfl) | exact .inr (.inr rfl))) dm_nil)))) da_nil))))))
set_option maxRecDepth 4000 in
theorem ok_Yardu_containsu (T : Txt K mg) : FnOk P w K mg base (L2.CX P w) 2 T.f_Yardu_containsu T.d_Yardu_containsu ["self", "value"] (spD T.C sg_Yardu_containsu mir_Yardu_containsu) := by
  refine fn_mk (S := sg_Yardu_containsu) (ft := false) (n := 0) (body := b_Yardu_containsu) (G' := [.z, .z]) rfl T.F_Yardu_containsu sc_Yardu_containsu rfl rfl rfl (fun h => nomatch h) ?_
  rintro ⟨prog, w2, K2, mg2, base2, A, N, s0, H0, ⟨scope, e2, e3, e4, e5, e6, e7, e8, e9⟩, outer, stack, ex, fn, calm, pn, xe⟩ E W hW hP hw hmg hb hN hS hF B hst hfr
  dsimp only at hP hw hmg hb hN hS hF
  have hK := B.hK
  dsimp only [Txt.C] at hK
  subst hW hP hw hmg hb hN hS hF hK
  exact ds_one (d_ret (G' := [.z, .z]) rfl (de_call (S := sg_is_known) (E := E) (ok_is_known T) B.hr (by decide) (by rfl) T.m_is_known T.k_is_known T.B_is_known B.tk rfl (by decide) (dm_cons (de_fld B.hK T.h_Yard T.c_Yard T.a_Yard_own_boxes (de_var (i := 0) rfl rfl (by first | exact .inl rfl | exact .inr (.inl rfl) | exact .inr (.inr rfl)))) (dm_cons (de_var (i := 1) rfl rfl (by first | exact .inl rfl | exact .inr (.inl rfl) | exact .inr (.inr rfl))) dm_nil))))
set_option maxRecDepth 4000 in
theorem ok_first_wrong_day (T : Txt K mg) : FnOk P w K mg base (L2.CX P w) 3 T.f_first_wrong_day T.d_first_wrong_day ["yard", "value"] (spD T.C sg_first_wrong_day mir_first_wrong_day) := by
  refine fn_mk (S := sg_first_wrong_day) (ft := false) (n := 4) (body := b_first_wrong_day) (G' := [.z, .z, .z, .z, .z, .z]) rfl T.F_first_wrong_day sc_first_wrong_day rfl rfl rfl (fun h => nomatch h) ?_
  rintro ⟨prog, w2, K2, mg2, base2, A, N, s0, H0, ⟨scope, e2, e3, e4, e5, e6, e7, e8, e9⟩, outer, stack, ex, fn, calm, pn, xe⟩ E W hW hP hw hmg hb hN hS hF B hst hfr
  dsimp only at hP hw hmg hb hN hS hF
  have hK := B.hK
  dsimp only [Txt.C] at hK
  subst hW hP hw hmg hb hN hS hF hK
  exact ds_cons wkE (d_set (i := 2) (o := (.c .z)) sc_first_wrong_day.nd rfl (by first | exact .inl rfl | exact .inr rfl) (de_nilO (o := .z)) rfl (by decide)) (ds_cons wkE (d_for wkE B.po B.cm (di_enum B.hK (by rfl) T.n_enumerate (da_cons (de_var (i := 1) rfl rfl (by first | exact .inl rfl | exact .inr (.inl rfl) | exact .inr (.inr rfl))) da_nil)) (dg_tup B.hK B.cm (dgs_cons (dg_name (i := 3) sc_first_wrong_day.nd rfl (by first | exact .inl rfl | exact .inr rfl) rfl) (dgs_cons (dg_name (i := 4) sc_first_wrong_day.nd rfl (by first | exact .inl rfl | exact .inr rfl) rfl) dgs_nil)) rfl) (ds_one (d_for wkE B.po B.cm (di_val B.hK (de_var (i := 4) rfl rfl (by first | exact .inl rfl | exact .inr (.inl rfl) | exact .inr (.inr rfl)))) (dg_name (i := 5) sc_first_wrong_day.nd rfl (by first | exact .inl rfl | exact .inr rfl) rfl) (ds_cons wkE (d_if wkE (PW.pt (dw_or (dt_ninI (S := sg_Yardu_containsu) T.h_Yard (E := E) rfl B.tk rfl rfl T.u_Yard_contains (ok_Yardu_containsu T) B.hr (by decide) T.B_Yardu_containsu (de_var (i := 5) rfl rfl (by first | exact .inl rfl | exact .inr (.inl rfl) | exact .inr (.inr rfl))) (de_var (i := 0) rfl rfl (by first | exact .inl rfl | exact .inr (.inl rfl) | exact .inr (.inr rfl))) (by rfl)) (dw_or1 (dt_view (dt_cmp (op_in_D B.hK (hu65 B.hr)) (de_var (i := 5) rfl rfl (by first | exact .inl rfl | exact .inr (.inl rfl) | exact .inr (.inr rfl))) (de_var (i := 2) rfl rfl (by first | exact .inl rfl | exact .inr (.inl rfl) | exact .inr (.inr rfl))) (by rfl)))))) (ds_one (d_ret (G' := [.z, .z, (.c .z), .z, .z, .z]) rfl (de_var (i := 3) rfl rfl (by first | exact .inl rfl | exact .inr (.inl rfl) | exact .inr (.inr rfl))))) ds_nil) (ds_one (d_drop (de_meth (i := 2) (.inl ⟨rfl, rfl⟩) PySem.F.plainAttrs_list PySem.F.slot_list_append PySem.F.type_list_append me_append rfl rfl (by first | exact .inl rfl | exact .inr (.inl rfl) | exact .inr (.inr rfl)) (dm_cons (de_var (i := 5) rfl rfl (by first | exact .inl rfl | exact .inr (.inl rfl) | exact .inr (.inr rfl))) dm_nil))))) rfl)) rfl) (ds_le wkE (G1 := [.z, .z, .z, .z, .z, .z]) rfl (ds_one (d_ret (G' := [.z, .z, .z, .z, .z, .z]) rfl (de_if (dt_cmp (op_eq_D B.hK (hu64 B.hr)) (de_callB (call_len_D B.hK) (by rfl) T.n_len PySem.boot_len (da_cons (de_var (i := 2) rfl rfl (by first | exact .inl rfl | exact .inr (.inl rfl) | exact .inr (.inr rfl))) da_nil)) (de_lenI (S := sg_Yardu_lenu) T.h_Yard (E := E) rfl B.tk rfl rfl T.u_Yard_len (ok_Yardu_lenu T) B.hr (by decide) T.B_Yardu_lenu (by rfl) T.n_len (de_var (i := 0) rfl rfl (by first | exact .inl rfl | exact .inr (.inl rfl) | exact .inr (.inr rfl)))) (nomark _)) de_non (de_prop (S := sg_Yard_days) T.h_Yard rfl (de_var (i := 0) rfl rfl (by first | exact .inl rfl | exact .inr (.inl rfl) | exact .inr (.inr rfl))) T.c_Yard T.p_Yard_days (ok_Yard_days T) B.hr (by decide) T.B_Yard_days takes0n))))))
set_option maxRecDepth 4000 in
theorem ok_want_leaving (T : Txt K mg) : FnOk P w K mg base (L2.CX P w) 4 T.f_want_leaving T.d_want_leaving ["yard", "value"] (spD T.C sg_want_leaving mir_want_leaving) := by
  refine fn_mk (S := sg_want_leaving) (ft := true) (n := 1) (body := b_want_leaving) (G' := [.z, .z, .z]) rfl T.F_want_leaving sc_want_leaving rfl rfl rfl (fun _ => ⟨rfl, rfl⟩) ?_
  rintro ⟨prog, w2, K2, mg2, base2, A, N, s0, H0, ⟨scope, e2, e3, e4, e5, e6, e7, e8, e9⟩, outer, stack, ex, fn, calm, pn, xe⟩ E W hW hP hw hmg hb hN hS hF B hst hfr
  dsimp only at hP hw hmg hb hN hS hF
  have hK := B.hK
  dsimp only [Txt.C] at hK
  subst hW hP hw hmg hb hN hS hF hK
  exact ds_cons wkE (d_if wkE (dt_not (dt_val B.hK (de_call (S := sg_is_list_of_days) (E := E) (ok_is_list_of_days T) B.hr (by decide) (by rfl) T.m_is_list_of_days T.k_is_list_of_days T.B_is_list_of_days B.tk rfl (by decide) (dm_cons (de_var (i := 0) rfl rfl (by first | exact .inl rfl | exact .inr (.inl rfl) | exact .inr (.inr rfl))) (dm_cons (de_var (i := 1) rfl rfl (by first | exact .inl rfl | exact .inr (.inl rfl) | exact .inr (.inr rfl))) dm_nil))))) (ds_one (d_stk (G' := [.z, .z, .z]))) ds_nil) (ds_cons wkE (d_set (i := 2) (o := .z) sc_want_leaving.nd rfl (by first | exact .inl rfl | exact .inr rfl) (de_call (S := sg_first_wrong_day) (E := E) (ok_first_wrong_day T) B.hr (by decide) (by rfl) T.m_first_wrong_day T.k_first_wrong_day T.B_first_wrong_day B.tk rfl (by decide) (dm_cons (de_var (i := 0) rfl rfl (by first | exact .inl rfl | exact .inr (.inl rfl) | exact .inr (.inr rfl))) (dm_cons (de_var (i := 1) rfl rfl (by first | exact .inl rfl | exact .inr (.inl rfl) | exact .inr (.inr rfl))) dm_nil))) rfl (by decide)) (ds_one (d_if wkE (dt_cmp (op_isn_D) (de_var (i := 2) rfl rfl (by first | exact .inl rfl | exact .inr (.inl rfl) | exact .inr (.inr rfl))) de_non (nomark _)) (ds_one (d_stk (G' := [.z, .z, .z]))) ds_nil)))
set_option maxRecDepth 4000 in
theorem ok_Yard_boxes (T : Txt K mg) : FnOk P w K mg base (L2.CX P w) 1 T.f_Yard_boxes T.d_Yard_boxes ["self"] (spD T.C sg_Yard_boxes mir_Yard_boxes) := by
  refine fn_mk (S := sg_Yard_boxes) (ft := false) (n := 0) (body := b_Yard_boxes) (G' := [.z]) rfl T.F_Yard_boxes sc_Yard_boxes rfl rfl rfl (fun h => nomatch h) ?_
  rintro ⟨prog, w2, K2, mg2, base2, A, N, s0, H0, ⟨scope, e2, e3, e4, e5, e6, e7, e8, e9⟩, outer, stack, ex, fn, calm, pn, xe⟩ E W hW hP hw hmg hb hN hS hF B hst hfr
  dsimp only at hP hw hmg hb hN hS hF
  have hK := B.hK
  dsimp only [Txt.C] at hK
  subst hW hP hw hmg hb hN hS hF hK
  exact ds_one (d_ret (G' := [.z]) rfl (de_frz (de_callTy (call_list_D B.hK) (by rfl) T.n_list bt_list (da_cons (de_fld B.hK T.h_Yard T.c_Yard T.a_Yard_own_boxes (de_var (i := 0) rfl rfl (by first | exact .inl rfl | exact .inr (.inl rfl) | exact .inr (.inr rfl)))) da_nil))))
set_option maxRecDepth 4000 in
theorem ok_does_hold (T : Txt K mg) : FnOk P w K mg base (L2.CX P w) 1 T.f_does_hold T.d_does_hold ["leaving", "spots", "fact"] (spD T.C sg_does_hold mir_does_hold) := by
  refine fn_mk (S := sg_does_hold) (ft := false) (n := 1) (body := b_does_hold) (G' := [.z, .z, .z, .z]) rfl T.F_does_hold sc_does_hold rfl rfl rfl (fun h => nomatch h) ?_
  rintro ⟨prog, w2, K2, mg2, base2, A, N, s0, H0, ⟨scope, e2, e3, e4, e5, e6, e7, e8, e9⟩, outer, stack, ex, fn, calm, pn, xe⟩ E W hW hP hw hmg hb hN hS hF B hst hfr
  dsimp only at hP hw hmg hb hN hS hF
  have hK := B.hK
  dsimp only [Txt.C] at hK
  subst hW hP hw hmg hb hN hS hF hK
  exact ds_cons wkE (d_if wkE (dt_cmp (op_eq_D B.hK (hu64 B.hr)) (de_ix B.hK (hu1 B.hr) (de_var (i := 2) rfl rfl (by first | exact .inl rfl | exact .inr (.inl rfl) | exact .inr (.inr rfl))) de_int (fun _ _ => rfl)) (de_glob (v := .str "ahead") (by rfl) T.g_AHEAD ⟨_, rfl⟩ fun _ => .str _) (nomark _)) (ds_one (d_ret (G' := [.z, .z, .z, .z]) rfl (de_cmp (op_lt_D B.hK (hu0 B.hr)) (de_ix B.hK (hu1 B.hr) (de_var (i := 1) rfl rfl (by first | exact .inl rfl | exact .inr (.inl rfl) | exact .inr (.inr rfl))) (de_ix B.hK (hu1 B.hr) (de_var (i := 2) rfl rfl (by first | exact .inl rfl | exact .inr (.inl rfl) | exact .inr (.inr rfl))) de_int (fun _ _ => rfl)) (fun _ _ => rfl)) (de_ix B.hK (hu1 B.hr) (de_var (i := 1) rfl rfl (by first | exact .inl rfl | exact .inr (.inl rfl) | exact .inr (.inr rfl))) (de_ix B.hK (hu1 B.hr) (de_var (i := 2) rfl rfl (by first | exact .inl rfl | exact .inr (.inl rfl) | exact .inr (.inr rfl))) de_int (fun _ _ => rfl)) (fun _ _ => rfl)) (nomark _)))) ds_nil) (ds_cons wkE (d_if wkE (dt_cmp (op_eq_D B.hK (hu64 B.hr)) (de_ix B.hK (hu1 B.hr) (de_var (i := 2) rfl rfl (by first | exact .inl rfl | exact .inr (.inl rfl) | exact .inr (.inr rfl))) de_int (fun _ _ => rfl)) (de_glob (v := .str "days") (by rfl) T.g_DAYS ⟨_, rfl⟩ fun _ => .str _) (nomark _)) (ds_one (d_ret (G' := [.z, .z, .z, .z]) rfl (de_ch2 (op_cmpI op_le) (op_cmpI op_le) (de_ix B.hK (hu1 B.hr) (de_var (i := 2) rfl rfl (by first | exact .inl rfl | exact .inr (.inl rfl) | exact .inr (.inr rfl))) de_int (fun _ _ => rfl)) (de_ix B.hK (hu1 B.hr) (de_ix B.hK (hu1 B.hr) (de_var (i := 1) rfl rfl (by first | exact .inl rfl | exact .inr (.inl rfl) | exact .inr (.inr rfl))) (de_ix B.hK (hu1 B.hr) (de_var (i := 2) rfl rfl (by first | exact .inl rfl | exact .inr (.inl rfl) | exact .inr (.inr rfl))) de_int (fun _ _ => rfl)) (fun _ _ => rfl)) de_int (fun _ _ => rfl)) (de_ix B.hK (hu1 B.hr) (de_var (i := 2) rfl rfl (by first | exact .inl rfl | exact .inr (.inl rfl) | exact .inr (.inr rfl))) de_int (fun _ _ => rfl))))) ds_nil) (ds_one (d_ret (G' := [.z, .z, .z, .z]) rfl (de_ch2 (op_cmpI op_le) (op_cmpI op_le) (de_ix B.hK (hu1 B.hr) (de_var (i := 2) rfl rfl (by first | exact .inl rfl | exact .inr (.inl rfl) | exact .inr (.inr rfl))) de_int (fun _ _ => rfl)) (de_callB (call_sum_D B.hK B.cm) (by rfl) T.n_sum bt_sum (da_cons (de_frz (de_lc (vs := [3]) (oe := .z) B.cm sc_does_hold.nd (di_val B.hK (de_sl B.hK (de_var (i := 0) rfl rfl (by first | exact .inl rfl | exact .inr (.inl rfl) | exact .inr (.inr rfl))) do_none (do_int (de_ix B.hK (hu1 B.hr) (de_var (i := 2) rfl rfl (by first | exact .inl rfl | exact .inr (.inl rfl) | exact .inr (.inr rfl))) de_int (fun _ _ => rfl))))) (blkOk_by (N := nm_does_hold) (sc := defScope s_does_hold) (own := [("boxes", 3)]) (by decide +kernel)) rfl (by decide) rfl (fun _ _ _ _ _ => dg_name (i := 3) sc_does_hold.nd rfl (by first | exact .inl rfl | exact .inr rfl) rfl) (fun _ _ _ _ _ => dts_nil) (fun _ _ _ _ _ => de_callB (call_len_D B.hK) (by rfl) T.n_len PySem.boot_len (da_cons (de_var (i := 3) rfl rfl (by first | exact .inl rfl | exact .inr (.inl rfl) | exact .inr (.inr rfl))) da_nil)))) da_nil)) (de_ix B.hK (hu1 B.hr) (de_var (i := 2) rfl rfl (by first | exact .inl rfl | exact .inr (.inl rfl) | exact .inr (.inr rfl))) de_int (fun _ _ => rfl))))))
set_option maxRecDepth 4000 in
theorem ok_spots_in (T : Txt K mg) : FnOk P w K mg base (L2.CX P w) 1 T.f_spots_in T.d_spots_in ["leaving"] (spD T.C sg_spots_in mir_spots_in) := by
  refine fn_mk (S := sg_spots_in) (ft := false) (n := 5) (body := b_spots_in) (G' := [.z, (.c .z), .z, .z, .z, .z]) rfl T.F_spots_in sc_spots_in rfl rfl rfl (fun h => nomatch h) ?_
  rintro ⟨prog, w2, K2, mg2, base2, A, N, s0, H0, ⟨scope, e2, e3, e4, e5, e6, e7, e8, e9⟩, outer, stack, ex, fn, calm, pn, xe⟩ E W hW hP hw hmg hb hN hS hF B hst hfr
  dsimp only at hP hw hmg hb hN hS hF
  have hK := B.hK
  dsimp only [Txt.C] at hK
  subst hW hP hw hmg hb hN hS hF hK
  exact ds_cons wkE (d_set (i := 1) (o := (.c .z)) sc_spots_in.nd rfl (by first | exact .inl rfl | exact .inr rfl) (de_dnewK (o := .z)) rfl (by decide)) (ds_cons wkE (d_for wkE B.po B.cm (di_enumK (by decide) (by decide) B.hK (by rfl) T.n_enumerate (da_cons (de_var (i := 0) rfl rfl (by first | exact .inl rfl | exact .inr (.inl rfl) | exact .inr (.inr rfl))) da_nil)) (dg_tup B.hK B.cm (dgs_cons (dg_name (i := 2) sc_spots_in.nd rfl (by first | exact .inl rfl | exact .inr rfl) rfl) (dgs_cons (dg_name (i := 3) sc_spots_in.nd rfl (by first | exact .inl rfl | exact .inr rfl) rfl) dgs_nil)) rfl) (ds_one (d_drop (de_meth (i := 1) (.inr ⟨rfl, rfl⟩) PySem.F.plainAttrs_dict PySem.F.slot_dict_update PySem.F.type_dict_update me_update rfl rfl (by first | exact .inl rfl | exact .inr (.inl rfl) | exact .inr (.inr rfl)) (dm_cons (de_frz (de_dc (vs := [4, 5]) B.cm sc_spots_in.nd (di_enum B.hK (by rfl) T.n_enumerate (da_cons (de_var (i := 3) rfl rfl (by first | exact .inl rfl | exact .inr (.inl rfl) | exact .inr (.inr rfl))) da_nil)) (blkOk_by (N := nm_spots_in) (sc := defScope s_spots_in) (own := [("place", 4), ("box", 5)]) (by decide +kernel)) rfl (by decide) rfl (fun _ _ _ _ _ => dg_tup B.hK B.cm (dgs_cons (dg_name (i := 4) sc_spots_in.nd rfl (by first | exact .inl rfl | exact .inr rfl) rfl) (dgs_cons (dg_name (i := 5) sc_spots_in.nd rfl (by first | exact .inl rfl | exact .inr rfl) rfl) dgs_nil)) rfl) (fun _ _ _ _ _ => dts_nil) (fun _ _ _ _ _ => de_var (i := 5) rfl rfl (by first | exact .inl rfl | exact .inr (.inl rfl) | exact .inr (.inr rfl))) (fun _ _ _ _ _ => de_tup (da_cons (de_var (i := 2) rfl rfl (by first | exact .inl rfl | exact .inr (.inl rfl) | exact .inr (.inr rfl))) (da_cons (de_var (i := 4) rfl rfl (by first | exact .inl rfl | exact .inr (.inl rfl) | exact .inr (.inr rfl))) da_nil))))) dm_nil)))) rfl) (ds_one (d_ret (G' := [.z, (.c .z), .z, .z, .z, .z]) rfl (de_frz (de_mv (i := 1) rfl rfl (by first | exact .inl rfl | exact .inr (.inl rfl) | exact .inr (.inr rfl)))))))
set_option maxRecDepth 4000 in
theorem ok_holds (T : Txt K mg) : FnOk P w K mg base (L2.CX P w) 5 T.f_holds T.d_holds ["yard", "leaving", "fact"] (spD T.C sg_holds mir_holds) := by
  refine fn_mk (S := sg_holds) (ft := false) (n := 0) (body := b_holds) (G' := [.z, .z, .z]) rfl T.F_holds sc_holds rfl rfl rfl (fun h => nomatch h) ?_
  rintro ⟨prog, w2, K2, mg2, base2, A, N, s0, H0, ⟨scope, e2, e3, e4, e5, e6, e7, e8, e9⟩, outer, stack, ex, fn, calm, pn, xe⟩ E W hW hP hw hmg hb hN hS hF B hst hfr
  dsimp only at hP hw hmg hb hN hS hF
  have hK := B.hK
  dsimp only [Txt.C] at hK
  subst hW hP hw hmg hb hN hS hF hK
  exact ds_cons wkE (d_drop (de_call (S := sg_want_leaving) (E := E) (ok_want_leaving T) B.hr (by decide) (by rfl) T.m_want_leaving T.k_want_leaving T.B_want_leaving B.tk rfl (by decide) (dm_cons (de_var (i := 0) rfl rfl (by first | exact .inl rfl | exact .inr (.inl rfl) | exact .inr (.inr rfl))) (dm_cons (de_var (i := 1) rfl rfl (by first | exact .inl rfl | exact .inr (.inl rfl) | exact .inr (.inr rfl))) dm_nil)))) (ds_cons wkE (d_if wkE (dt_not (dt_val B.hK (de_call (S := sg_is_fact) (E := E) (ok_is_fact T) B.hr (by decide) (by rfl) T.m_is_fact T.k_is_fact T.B_is_fact B.tk rfl (by decide) (dm_cons (de_methI0 (S := sg_Yard_boxes) (n := 1) T.h_Yard (E := E) rfl B.tk rfl (de_var (i := 0) rfl rfl (by first | exact .inl rfl | exact .inr (.inl rfl) | exact .inr (.inr rfl))) T.c_Yard T.t_Yard_boxes (ok_Yard_boxes T) B.hr (by decide) T.B_Yard_boxes) (dm_cons (de_prop (S := sg_Yard_days) T.h_Yard rfl (de_var (i := 0) rfl rfl (by first | exact .inl rfl | exact .inr (.inl rfl) | exact .inr (.inr rfl))) T.c_Yard T.p_Yard_days (ok_Yard_days T) B.hr (by decide) T.B_Yard_days takes0n) (dm_cons (de_var (i := 2) rfl rfl (by first | exact .inl rfl | exact .inr (.inl rfl) | exact .inr (.inr rfl))) dm_nil)))))) (ds_one (d_stk (G' := [.z, .z, .z]))) ds_nil) (ds_one (d_ret (G' := [.z, .z, .z]) rfl (de_call (S := sg_does_hold) (E := E) (ok_does_hold T) B.hr (by decide) (by rfl) T.m_does_hold T.k_does_hold T.B_does_hold B.tk rfl (by decide) (dm_cons (de_var (i := 1) rfl rfl (by first | exact .inl rfl | exact .inr (.inl rfl) | exact .inr (.inr rfl))) (dm_cons (de_call (S := sg_spots_in) (E := E) (ok_spots_in T) B.hr (by decide) (by rfl) T.m_spots_in T.k_spots_in T.B_spots_in B.tk rfl (by decide) (dm_cons (de_var (i := 1) rfl rfl (by first | exact .inl rfl | exact .inr (.inl rfl) | exact .inr (.inr rfl))) dm_nil)) (dm_cons (de_var (i := 2) rfl rfl (by first | exact .inl rfl | exact .inr (.inl rfl) | exact .inr (.inr rfl))) dm_nil)))))))
set_option maxRecDepth 4000 in
theorem ok_Yardu_equ (T : Txt K mg) : FnOk P w K mg base (L2.CX P w) 1 T.f_Yardu_equ T.d_Yardu_equ ["self", "other"] (spD T.C sg_Yardu_equ mir_Yardu_equ) := by
  refine fn_mk (S := sg_Yardu_equ) (ft := false) (n := 0) (body := b_Yardu_equ) (G' := [.z, .z]) rfl T.F_Yardu_equ sc_Yardu_equ rfl rfl rfl (fun h => nomatch h) ?_
  rintro ⟨prog, w2, K2, mg2, base2, A, N, s0, H0, ⟨scope, e2, e3, e4, e5, e6, e7, e8, e9⟩, outer, stack, ex, fn, calm, pn, xe⟩ E W hW hP hw hmg hb hN hS hF B hst hfr
  dsimp only at hP hw hmg hb hN hS hF
  have hK := B.hK
  dsimp only [Txt.C] at hK
  subst hW hP hw hmg hb hN hS hF hK
  exact ds_cons wkE (d_if wkE (PW.pt (dw_or (dt_not (dt_val B.hK (de_isiO B.hK T.h_Yard T.i_Yard (by rfl) T.n_isinstance bt_isinstance (by rfl) T.g_Yard (de_var (i := 1) rfl rfl (by first | exact .inl rfl | exact .inr (.inl rfl) | exact .inr (.inr rfl)))))) (dw_or1 (dt_cmp (op_ne_D B.hK (hu64 B.hr)) (de_fld B.hK T.h_Yard T.c_Yard T.a_Yard_own_boxes (de_var (i := 0) rfl rfl (by first | exact .inl rfl | exact .inr (.inl rfl) | exact .inr (.inr rfl)))) (de_fld B.hK T.h_Yard T.c_Yard T.a_Yard_own_boxes (de_var (i := 1) rfl rfl (by first | exact .inl rfl | exact .inr (.inl rfl) | exact .inr (.inr rfl)))) (nomark _))))) (ds_one (d_ret (G' := [.z, .z]) rfl de_bl)) ds_nil) (ds_one (d_ret (G' := [.z, .z]) rfl (de_and (de_cmp (op_eq_D B.hK (hu64 B.hr)) (de_fld B.hK T.h_Yard T.c_Yard T.a_Yard_own_days (de_var (i := 0) rfl rfl (by first | exact .inl rfl | exact .inr (.inl rfl) | exact .inr (.inr rfl)))) (de_fld B.hK T.h_Yard T.c_Yard T.a_Yard_own_days (de_var (i := 1) rfl rfl (by first | exact .inl rfl | exact .inr (.inl rfl) | exact .inr (.inr rfl)))) (nomark _)) (de_one (de_cmp (op_eq_D B.hK (hu64 B.hr)) (de_fld B.hK T.h_Yard T.c_Yard T.a_Yard_own_facts (de_var (i := 0) rfl rfl (by first | exact .inl rfl | exact .inr (.inl rfl) | exact .inr (.inr rfl)))) (de_fld B.hK T.h_Yard T.c_Yard T.a_Yard_own_facts (de_var (i := 1) rfl rfl (by first | exact .inl rfl | exact .inr (.inl rfl) | exact .inr (.inr rfl)))) (nomark _))))))
set_option maxRecDepth 4000 in
theorem ok_law_right (T : Txt K mg) : FnOk P w K mg base (L2.CX P w) 9 T.f_law_right T.d_law_right ["_law_pot_here"] (spD T.C sg_law_right mir_law_right) := by
  refine fn_mk (S := sg_law_right) (ft := false) (n := 12) (body := b_law_right) (G' := [(.c .z), .z, .z, .z, .z, .z, .z, .z, .z, .z, .z, .z, .z]) rfl T.F_law_right sc_law_right rfl rfl rfl (fun h => nomatch h) ?_
  rintro ⟨prog, w2, K2, mg2, base2, A, N, s0, H0, ⟨scope, e2, e3, e4, e5, e6, e7, e8, e9⟩, outer, stack, ex, fn, calm, pn, xe⟩ E W hW hP hw hmg hb hN hS hF B hst hfr
  dsimp only at hP hw hmg hb hN hS hF
  have hK := B.hK
  dsimp only [Txt.C] at hK
  subst hW hP hw hmg hb hN hS hF hK
  exact ds_cons wkE (d_tup (is := [3, 4]) (os := [.z, .z]) B.cm (dm_cons (de_call (S := sg_law_folk) (E := E) (ok_law_folk T) B.hr (by decide) (by rfl) T.m_law_folk T.k_law_folk T.B_law_folk B.tk rfl (by decide) (dm_lt (i := 0) rfl rfl (by first | exact .inl rfl | exact .inr (.inl rfl) | exact .inr (.inr rfl)) (dm_cons (de_bin (op_add_D B.hK) de_int (de_call (S := sg_law_draw) (E := E) (ok_law_draw T) B.hr (by decide) (by rfl) T.m_law_draw T.k_law_draw T.B_law_draw B.tk rfl (by decide) (dm_mv (i := 0) rfl rfl (by first | exact .inl rfl | exact .inr (.inl rfl) | exact .inr (.inr rfl)) (dm_cons de_int dm_nil)))) dm_nil))) (dm_cons (de_bin (op_add_D B.hK) de_int (de_call (S := sg_law_draw) (E := E) (ok_law_draw T) B.hr (by decide) (by rfl) T.m_law_draw T.k_law_draw T.B_law_draw B.tk rfl (by decide) (dm_mv (i := 0) rfl rfl (by first | exact .inl rfl | exact .inr (.inl rfl) | exact .inr (.inr rfl)) (dm_cons de_int dm_nil)))) dm_nil)) (pgs_names (i := 3) sc_law_right.nd rfl (by first | exact .inl rfl | exact .inr rfl) (pgs_names (i := 4) sc_law_right.nd rfl (by first | exact .inl rfl | exact .inr rfl) pgs_names0)) rfl rfl) (ds_cons wkE (d_set (i := 1) (o := .z) sc_law_right.nd rfl (by first | exact .inl rfl | exact .inr rfl) (de_frz (de_lc (vs := [7]) (oe := .z) B.cm sc_law_right.nd (di_range1 (by rfl) T.n_range (da_cons (de_bin (op_add_D B.hK) de_int (de_call (S := sg_law_draw) (E := E) (ok_law_draw T) B.hr (by decide) (by rfl) T.m_law_draw T.k_law_draw T.B_law_draw B.tk rfl (by decide) (dm_mv (i := 0) rfl rfl (by first | exact .inl rfl | exact .inr (.inl rfl) | exact .inr (.inr rfl)) (dm_cons de_int dm_nil)))) da_nil)) (blkOk_by (N := nm_law_right) (sc := defScope s_law_right) (own := [("_law_turn", 7)]) (by decide +kernel)) rfl (by decide) rfl (fun _ _ _ _ _ => dg_name (i := 7) sc_law_right.nd rfl (by first | exact .inl rfl | exact .inr rfl) rfl) (fun _ _ _ _ _ => dts_nil) (fun _ _ _ _ _ => de_call (S := sg_law_fact) (E := nE) (ok_law_fact T) B.hr (by decide) (by rfl) T.m_law_fact T.k_law_fact T.B_law_fact takesW0 rfl (by decide) (dm_mv (i := 0) rfl rfl (by first | exact .inl rfl | exact .inr (.inl rfl) | exact .inr (.inr rfl)) (dm_cons (de_var (i := 3) rfl rfl (by first | exact .inl rfl | exact .inr (.inl rfl) | exact .inr (.inr rfl))) (dm_cons (de_var (i := 4) rfl rfl (by first | exact .inl rfl | exact .inr (.inl rfl) | exact .inr (.inr rfl))) dm_nil)))))) rfl (by decide)) (ds_cons wkE (d_set (i := 2) (o := .z) sc_law_right.nd rfl (by first | exact .inl rfl | exact .inr rfl) (de_frz (de_make (n := 3) T.h_Yard (E := E) rfl B.tk T.m_Yard (ok_Yardu_initu T) B.hr (by decide) (by rfl) T.g_Yard T.B_Yardu_initu (da_cons (de_var (i := 3) rfl rfl (by first | exact .inl rfl | exact .inr (.inl rfl) | exact .inr (.inr rfl))) (da_cons (de_var (i := 4) rfl rfl (by first | exact .inl rfl | exact .inr (.inl rfl) | exact .inr (.inr rfl))) (da_cons (de_var (i := 1) rfl rfl (by first | exact .inl rfl | exact .inr (.inl rfl) | exact .inr (.inr rfl))) da_nil))))) rfl (by decide)) (ds_cons wkE (d_for wkE B.po B.cm (di_enum B.hK (by rfl) T.n_enumerate (da_cons (de_var (i := 1) rfl rfl (by first | exact .inl rfl | exact .inr (.inl rfl) | exact .inr (.inr rfl))) da_nil)) (dg_tup B.hK B.cm (dgs_cons (dg_name (i := 5) sc_law_right.nd rfl (by first | exact .inl rfl | exact .inr rfl) rfl) (dgs_cons (dg_name (i := 6) sc_law_right.nd rfl (by first | exact .inl rfl | exact .inr rfl) rfl) dgs_nil)) rfl) (ds_leR (G2 := [(.c .z), .z, .z, .z, .z, .z, .z, .z, .z, .z, .z, .z, .z]) rfl (ds_cons wkE (d_par (i := 8) (j := 9) (oi := .z) (oj := (.c .z)) B.cm sc_law_right.nd rfl rfl (by decide) rfl rfl (dm_cons (de_call (S := sg_law_turns) (E := E) (ok_law_turns T) B.hr (by decide) (by rfl) T.m_law_turns T.k_law_turns T.B_law_turns B.tk rfl (by decide) (dm_cons (de_var (i := 3) rfl rfl (by first | exact .inl rfl | exact .inr (.inl rfl) | exact .inr (.inr rfl))) (dm_cons (de_var (i := 4) rfl rfl (by first | exact .inl rfl | exact .inr (.inl rfl) | exact .inr (.inr rfl))) (dm_cons (de_var (i := 6) rfl rfl (by first | exact .inl rfl | exact .inr (.inl rfl) | exact .inr (.inr rfl))) dm_nil)))) (dm_cons (de_call (S := sg_turns) (E := E) (ok_turns T) B.hr (by decide) (by rfl) T.m_turns T.k_turns T.B_turns B.tk rfl (by decide) (dm_cons (de_var (i := 2) rfl rfl (by first | exact .inl rfl | exact .inr (.inl rfl) | exact .inr (.inr rfl))) (dm_cons (de_var (i := 5) rfl rfl (by first | exact .inl rfl | exact .inr (.inl rfl) | exact .inr (.inr rfl))) dm_nil))) dm_nil)) rfl rfl (by decide) (by decide) (by rfl)) (ds_cons wkE (d_if wkE (PW.pt (dw_or (dt_not (dt_view (dt_val B.hK (de_isi B.hK (by rfl) T.n_isinstance bt_isinstance (by rfl) T.n_list bt_list (de_var (i := 9) rfl rfl (by first | exact .inl rfl | exact .inr (.inl rfl) | exact .inr (.inr rfl))))))) (dw_or (dt_view (dt_cmp (op_ne_D B.hK (hu64 B.hr)) (de_var (i := 9) rfl rfl (by first | exact .inl rfl | exact .inr (.inl rfl) | exact .inr (.inr rfl))) (de_var (i := 8) rfl rfl (by first | exact .inl rfl | exact .inr (.inl rfl) | exact .inr (.inr rfl))) (nomark _))) (dw_or1 (dt_cmp (op_ne_D B.hK (hu64 B.hr)) (de_frz (de_callK0 (S := sg_turns) (n := 2) (nu := 0) (perm := [1, 0]) (E := E) rfl B.tk rfl (ok_turns T) B.hr (by decide) (by rfl) T.m_turns T.k_turns T.K_turns_0_1_0 (dk_cons (de_var (i := 5) rfl rfl (by first | exact .inl rfl | exact .inr (.inl rfl) | exact .inr (.inr rfl))) (dk_cons (de_var (i := 2) rfl rfl (by first | exact .inl rfl | exact .inr (.inl rfl) | exact .inr (.inr rfl))) dk_nil)))) (de_var (i := 8) rfl rfl (by first | exact .inl rfl | exact .inr (.inl rfl) | exact .inr (.inr rfl))) (nomark _)))))) (ds_one (d_ret (G' := [(.c .z), .z, .z, .z, .z, .z, .z, .z, .z, (.c .z), .z, .z, .z]) rfl de_bl)) ds_nil) (ds_cons wkE (d_if wkE (dt_not (dt_val B.hK (de_callB (call_all_D B.hK B.cm) (by rfl) T.n_all bt_all (da_cons (de_frz (de_lc (vs := [12]) (oe := .z) B.cm sc_law_right.nd (di_val B.hK (de_var (i := 8) rfl rfl (by first | exact .inl rfl | exact .inr (.inl rfl) | exact .inr (.inr rfl)))) (blkOk_by (N := nm_law_right) (sc := defScope s_law_right) (own := [("_law_near", 12)]) (by decide +kernel)) rfl (by decide) rfl (fun _ _ _ _ _ => dg_name (i := 12) sc_law_right.nd rfl (by first | exact .inl rfl | exact .inr rfl) rfl) (fun _ _ _ _ _ => dts_nil) (fun _ _ _ _ _ => de_cmp (op_eq_D B.hK (hu64 B.hr)) (de_methI0 (S := sg_Yard_facts) (n := 1) T.h_Yard (E := nE) rfl takesW0 rfl (de_binO (S := sg_Yardu_addu) rfl B.hK T.h_Yard (E := nE) rfl takesW0 rfl T.b_Yard_add_tuple (ok_Yardu_addu T) B.hr (by decide) T.B_Yardu_addu (de_var (i := 2) rfl rfl (by first | exact .inl rfl | exact .inr (.inl rfl) | exact .inr (.inr rfl))) (de_var (i := 12) rfl rfl (by first | exact .inl rfl | exact .inr (.inl rfl) | exact .inr (.inr rfl)))) T.c_Yard T.t_Yard_facts (ok_Yard_facts T) B.hr (by decide) T.B_Yard_facts) (de_bin (op_add_D B.hK) (de_var (i := 1) rfl rfl (by first | exact .inl rfl | exact .inr (.inl rfl) | exact .inr (.inr rfl))) (de_lst (da_cons (de_var (i := 12) rfl rfl (by first | exact .inl rfl | exact .inr (.inl rfl) | exact .inr (.inr rfl))) da_nil))) (nomark _)))) da_nil)))) (ds_one (d_ret (G' := [(.c .z), .z, .z, .z, .z, .z, .z, .z, .z, (.c .z), .z, .z, .z]) rfl de_bl)) ds_nil) (ds_cons wkE (d_drop (de_meth (i := 9) (.inl ⟨rfl, rfl⟩) PySem.F.plainAttrs_list PySem.F.slot_list_append PySem.F.type_list_append me_append rfl rfl (by first | exact .inl rfl | exact .inr (.inl rfl) | exact .inr (.inr rfl)) (dm_cons de_str dm_nil))) (ds_cons wkE (d_if wkE (dt_cmp (op_ne_D B.hK (hu64 B.hr)) (de_frz (de_call (S := sg_turns) (E := E) (ok_turns T) B.hr (by decide) (by rfl) T.m_turns T.k_turns T.B_turns B.tk rfl (by decide) (dm_cons (de_var (i := 2) rfl rfl (by first | exact .inl rfl | exact .inr (.inl rfl) | exact .inr (.inr rfl))) (dm_cons (de_var (i := 5) rfl rfl (by first | exact .inl rfl | exact .inr (.inl rfl) | exact .inr (.inr rfl))) dm_nil)))) (de_var (i := 8) rfl rfl (by first | exact .inl rfl | exact .inr (.inl rfl) | exact .inr (.inr rfl))) (nomark _)) (ds_one (d_ret (G' := [(.c .z), .z, .z, .z, .z, .z, .z, .z, .z, (.c .z), .z, .z, .z]) rfl de_bl)) ds_nil) (ds_one (d_for wkE B.po B.cm (di_range1 (by rfl) T.n_range (da_cons de_int da_nil)) (dg_name (i := 7) sc_law_right.nd rfl (by first | exact .inl rfl | exact .inr rfl) rfl) (ds_cons wkE (d_set (i := 10) (o := .z) sc_law_right.nd rfl (by first | exact .inl rfl | exact .inr rfl) (de_call (S := sg_law_told) (E := E) (ok_law_told T) B.hr (by decide) (by rfl) T.m_law_told T.k_law_told T.B_law_told B.tk rfl (by decide) (dm_mv (i := 0) rfl rfl (by first | exact .inl rfl | exact .inr (.inl rfl) | exact .inr (.inr rfl)) (dm_cons (de_var (i := 3) rfl rfl (by first | exact .inl rfl | exact .inr (.inl rfl) | exact .inr (.inr rfl))) (dm_cons (de_var (i := 4) rfl rfl (by first | exact .inl rfl | exact .inr (.inl rfl) | exact .inr (.inr rfl))) dm_nil)))) rfl (by decide)) (ds_cons wkE (d_setLc (i := 11) (oe := .z) B.cm sc_law_right.nd rfl rfl (sw_true rfl rfl rfl (by decide +kernel)) (di_val B.hK (de_bin (op_add_D B.hK) (de_lst (da_cons (de_var (i := 6) rfl rfl (by first | exact .inl rfl | exact .inr (.inl rfl) | exact .inr (.inr rfl))) da_nil)) (de_var (i := 8) rfl rfl (by first | exact .inl rfl | exact .inr (.inl rfl) | exact .inr (.inr rfl))))) (blkOk_by (N := nm_law_right) (sc := defScope s_law_right) (own := [("_law_near", 12)]) (by decide +kernel)) rfl (by decide) rfl (fun _ _ _ _ _ => dg_name (i := 12) sc_law_right.nd rfl (by first | exact .inl rfl | exact .inr rfl) rfl) (fun _ _ _ _ _ => dts_nil) (fun _ _ _ _ _ => de_call (S := sg_holds) (E := nE) (ok_holds T) B.hr (by decide) (by rfl) T.m_holds T.k_holds T.B_holds takesW0 rfl (by decide) (dm_cons (de_var (i := 2) rfl rfl (by first | exact .inl rfl | exact .inr (.inl rfl) | exact .inr (.inr rfl))) (dm_cons (de_var (i := 10) rfl rfl (by first | exact .inl rfl | exact .inr (.inl rfl) | exact .inr (.inr rfl))) (dm_cons (de_var (i := 12) rfl rfl (by first | exact .inl rfl | exact .inr (.inl rfl) | exact .inr (.inr rfl))) dm_nil)))) rfl (by decide)) (ds_le wkE (G1 := [(.c .z), .z, .z, .z, .z, .z, .z, .z, .z, (.c .z), .z, .z, .z]) rfl (ds_one (d_if wkE (dt_cmp (op_ne_D B.hK (hu64 B.hr)) (de_frz (de_callB (call_sortS_D B.hK) (by rfl) T.n_sorted bt_sorted (da_cons (de_frz (de_lc (vs := [12]) (oe := .z) B.cm sc_law_right.nd (di_val B.hK (de_var (i := 11) rfl rfl (by first | exact .inl rfl | exact .inr (.inl rfl) | exact .inr (.inr rfl)))) (blkOk_by (N := nm_law_right) (sc := defScope s_law_right) (own := [("_law_near", 12)]) (by decide +kernel)) rfl (by decide) rfl (fun _ _ _ _ _ => dg_name (i := 12) sc_law_right.nd rfl (by first | exact .inl rfl | exact .inr rfl) rfl) (fun _ _ _ _ _ => dts_nil) (fun _ _ _ _ _ => de_callB call_reprB_D (by rfl) T.n_repr bt_repr (da_cons (de_var (i := 12) rfl rfl (by first | exact .inl rfl | exact .inr (.inl rfl) | exact .inr (.inr rfl))) da_nil)))) da_nil))) (de_bin (op_add_D B.hK) (de_frz (de_rep (de_lstO (da_cons de_str da_nil)) (de_callB (call_len_D B.hK) (by rfl) T.n_len PySem.boot_len (da_cons (de_var (i := 8) rfl rfl (by first | exact .inl rfl | exact .inr (.inl rfl) | exact .inr (.inr rfl))) da_nil)))) (de_lst (da_cons de_str da_nil))) (nomark _)) (ds_one (d_ret (G' := [(.c .z), .z, .z, .z, .z, .z, .z, .z, .z, (.c .z), .z, .z, .z]) rfl de_bl)) ds_nil))))) rfl)))))))) rfl) (ds_one (d_ret (G' := [(.c .z), .z, .z, .z, .z, .z, .z, .z, .z, .z, .z, .z, .z]) rfl (de_eqI (S := sg_Yardu_equ) B.hK T.h_Yard (E := E) rfl B.tk rfl rfl T.q_Yard (ok_Yardu_equ T) B.hr (by decide) T.B_Yardu_equ (de_var (i := 2) rfl rfl (by first | exact .inl rfl | exact .inr (.inl rfl) | exact .inr (.inr rfl))) (de_frz (de_make (n := 3) T.h_Yard (E := E) rfl B.tk T.m_Yard (ok_Yardu_initu T) B.hr (by decide) (by rfl) T.g_Yard T.B_Yardu_initu (da_cons (de_var (i := 3) rfl rfl (by first | exact .inl rfl | exact .inr (.inl rfl) | exact .inr (.inr rfl))) (da_cons (de_var (i := 4) rfl rfl (by first | exact .inl rfl | exact .inr (.inl rfl) | exact .inr (.inr rfl))) (da_cons (de_var (i := 1) rfl rfl (by first | exact .inl rfl | exact .inr (.inl rfl) | exact .inr (.inr rfl))) da_nil))))) (nomark _)))))))
set_option maxRecDepth 4000 in
theorem ok_law_pot (T : Txt K mg) : FnOk P w K mg base (L2.CX P w) 1 T.f_law_pot T.d_law_pot ["_law_script", "_law_k"] (spD T.C sg_law_pot mir_law_pot) := by
  refine fn_mk (S := sg_law_pot) (ft := false) (n := 1) (body := b_law_pot) (G' := [.z, .z, .z]) rfl T.F_law_pot sc_law_pot rfl rfl rfl (fun h => nomatch h) ?_
  rintro ⟨prog, w2, K2, mg2, base2, A, N, s0, H0, ⟨scope, e2, e3, e4, e5, e6, e7, e8, e9⟩, outer, stack, ex, fn, calm, pn, xe⟩ E W hW hP hw hmg hb hN hS hF B hst hfr
  dsimp only at hP hw hmg hb hN hS hF
  have hK := B.hK
  dsimp only [Txt.C] at hK
  subst hW hP hw hmg hb hN hS hF hK
  exact ds_cons wkE (d_set (i := 2) (o := .z) sc_law_pot.nd rfl (by first | exact .inl rfl | exact .inr rfl) (de_bin (op_add_D B.hK) (de_bin op_mulI de_int (de_var (i := 1) rfl rfl (by first | exact .inl rfl | exact .inr (.inl rfl) | exact .inr (.inr rfl)))) de_int) rfl (by decide)) (ds_cons wkE (d_if wkE (dt_cmp (op_lt_D B.hK (hu0 B.hr)) (de_var (i := 1) rfl rfl (by first | exact .inl rfl | exact .inr (.inl rfl) | exact .inr (.inr rfl))) (de_callB (call_len_D B.hK) (by rfl) T.n_len PySem.boot_len (da_cons (de_var (i := 0) rfl rfl (by first | exact .inl rfl | exact .inr (.inl rfl) | exact .inr (.inr rfl))) da_nil)) (nomark _)) (ds_one (d_set (i := 2) (o := .z) sc_law_pot.nd rfl (by first | exact .inl rfl | exact .inr rfl) (de_callB call_abs_D (by rfl) T.n_abs bt_abs (da_cons (de_ix B.hK (hu1 B.hr) (de_var (i := 0) rfl rfl (by first | exact .inl rfl | exact .inr (.inl rfl) | exact .inr (.inr rfl))) (de_var (i := 1) rfl rfl (by first | exact .inl rfl | exact .inr (.inl rfl) | exact .inr (.inr rfl))) (fun _ _ => rfl)) da_nil)) rfl (by decide))) ds_nil) (ds_one (d_ret (G' := [.z, .z, .z]) rfl (de_lstO (da_cons (de_callB (call_max2_D B.cm) (by rfl) T.n_max bt_max (da_cons de_int (da_cons (de_bin op_sub_D (de_var (i := 2) rfl rfl (by first | exact .inl rfl | exact .inr (.inl rfl) | exact .inr (.inr rfl))) (de_bin op_pow_D de_int de_int)) da_nil))) (da_cons (de_bin (op_add_D B.hK) (de_bin op_mod_D (de_callTy call_int_D (by rfl) T.n_int bt_int (da_cons (de_bin (op_add_D B.hK) (de_bin (op_add_D B.hK) (de_bin op_mulI (de_bin op_mod_D (de_callTy call_int_D (by rfl) T.n_int bt_int (da_cons (de_var (i := 2) rfl rfl (by first | exact .inl rfl | exact .inr (.inl rfl) | exact .inr (.inr rfl))) da_nil)) de_int) de_int) (de_bin op_mulI de_int (de_var (i := 1) rfl rfl (by first | exact .inl rfl | exact .inr (.inl rfl) | exact .inr (.inr rfl))))) de_int) da_nil)) de_int) de_int) da_nil))))))
set_option maxRecDepth 4000 in
theorem ok_law (T : Txt K mg) : FnOk P w K mg base (L2.CX P w) 10 T.f_law T.d_law ["_law_script"] (spD T.C sg_law mir_law) := by
  refine fn_mk (S := sg_law) (ft := false) (n := 1) (body := b_law) (G' := [.z, .z]) rfl T.F_law sc_law rfl rfl rfl (fun h => nomatch h) ?_
  rintro ⟨prog, w2, K2, mg2, base2, A, N, s0, H0, ⟨scope, e2, e3, e4, e5, e6, e7, e8, e9⟩, outer, stack, ex, fn, calm, pn, xe⟩ E W hW hP hw hmg hb hN hS hF B hst hfr
  dsimp only at hP hw hmg hb hN hS hF
  have hK := B.hK
  dsimp only [Txt.C] at hK
  subst hW hP hw hmg hb hN hS hF hK
  exact ds_one (d_ret (G' := [.z, .z]) rfl (de_callB (call_all_D B.hK B.cm) (by rfl) T.n_all bt_all (da_cons (de_frz (de_lc (vs := [1]) (oe := .z) B.cm sc_law.nd (di_range1 (by rfl) T.n_range (da_cons (de_callB (call_max2_D B.cm) (by rfl) T.n_max bt_max (da_cons de_int (da_cons (de_callB (call_min2_D B.cm) (by rfl) T.n_min bt_min (da_cons de_int (da_cons (de_callB (call_len_D B.hK) (by rfl) T.n_len PySem.boot_len (da_cons (de_var (i := 0) rfl rfl (by first | exact .inl rfl | exact .inr (.inl rfl) | exact .inr (.inr rfl))) da_nil)) da_nil))) da_nil))) da_nil)) (blkOk_by (N := nm_law) (sc := defScope s_law) (own := [("_law_k", 1)]) (by decide +kernel)) rfl (by decide) rfl (fun _ _ _ _ _ => dg_name (i := 1) sc_law.nd rfl (by first | exact .inl rfl | exact .inr rfl) rfl) (fun _ _ _ _ _ => dts_nil) (fun _ _ _ _ _ => de_call (S := sg_law_right) (E := nE) (ok_law_right T) B.hr (by decide) (by rfl) T.m_law_right T.k_law_right T.B_law_right takesW0 rfl (by decide) (dm_cons (de_call (S := sg_law_pot) (E := nE) (ok_law_pot T) B.hr (by decide) (by rfl) T.m_law_pot T.k_law_pot T.B_law_pot takesW0 rfl (by decide) (dm_cons (de_var (i := 0) rfl rfl (by first | exact .inl rfl | exact .inr (.inl rfl) | exact .inr (.inr rfl))) (dm_cons (de_var (i := 1) rfl rfl (by first | exact .inl rfl | exact .inr (.inl rfl) | exact .inr (.inr rfl))) dm_nil))) dm_nil)))) da_nil)))
end
/-! ### all facts -/
theorem all_mk {l : PySem.W.OpenLaw} {w : World} {K : PySem.W.Frag} {h : Heap} {mg : Str → Option Value} {fa : Addr} (X : K.In h) (G : h.Ns mainGlobals mg) (hfa : mg "law" = some (.ref fa))
    {a_Yard : Addr} {t_AHEAD : Tok} {t_DAYS : Tok} {t_GONE : Tok} {t_LETTERS : Tok} {t_LONGEST_BOX : Tok} {t_MOST_DAYS : Tok} {f_law_draw : Addr} {od_law_draw an_law_draw : Option Addr} {sl_law_draw : Array (Option Value)} {oc_law_draw kV_law_draw dc_law_draw pm_law_draw cd_law_draw ct_law_draw : Value} {f_law_pick : Addr} {od_law_pick an_law_pick : Option Addr} {sl_law_pick : Array (Option Value)} {oc_law_pick kV_law_pick dc_law_pick pm_law_pick cd_law_pick ct_law_pick : Value} {f_law_folk : Addr} {od_law_folk an_law_folk : Option Addr} {sl_law_folk : Array (Option Value)} {oc_law_folk kV_law_folk dc_law_folk pm_law_folk cd_law_folk ct_law_folk : Value} {f_law_fact : Addr} {od_law_fact an_law_fact : Option Addr} {sl_law_fact : Array (Option Value)} {oc_law_fact kV_law_fact dc_law_fact pm_law_fact cd_law_fact ct_law_fact : Value} {f_is_list : Addr} {od_is_list an_is_list : Option Addr} {sl_is_list : Array (Option Value)} {oc_is_list kV_is_list dc_is_list pm_is_list cd_is_list ct_is_list : Value} {f_is_box : Addr} {od_is_box an_is_box : Option Addr} {sl_is_box : Array (Option Value)} {oc_is_box kV_is_box dc_is_box pm_is_box cd_is_box ct_is_box : Value} {f_want_boxes : Addr} {od_want_boxes an_want_boxes : Option Addr} {sl_want_boxes : Array (Option Value)} {oc_want_boxes kV_want_boxes dc_want_boxes pm_want_boxes cd_want_boxes ct_want_boxes : Value} {f_is_integer : Addr} {od_is_integer an_is_integer : Option Addr} {sl_is_integer : Array (Option Value)} {oc_is_integer kV_is_integer dc_is_integer pm_is_integer cd_is_integer ct_is_integer : Value} {f_want_days : Addr} {od_want_days an_want_days : Option Addr} {sl_want_days : Array (Option Value)} {oc_want_days kV_want_days dc_want_days pm_want_days cd_want_days ct_want_days : Value} {f_is_known : Addr} {od_is_known an_is_known : Option Addr} {sl_is_known : Array (Option Value)} {oc_is_known kV_is_known dc_is_known pm_is_known cd_is_known ct_is_known : Value} {f_is_ahead_told : Addr} {od_is_ahead_told an_is_ahead_told : Option Addr} {sl_is_ahead_told : Array (Option Value)} {oc_is_ahead_told kV_is_ahead_told dc_is_ahead_told pm_is_ahead_told cd_is_ahead_told ct_is_ahead_told : Value} {f_are_days_told : Addr} {od_are_days_told an_are_days_told : Option Addr} {sl_are_days_told : Array (Option Value)} {oc_are_days_told kV_are_days_told dc_are_days_told pm_are_days_told cd_are_days_told ct_are_days_told : Value} {f_is_count : Addr} {od_is_count an_is_count : Option Addr} {sl_is_count : Array (Option Value)} {oc_is_count kV_is_count dc_is_count pm_is_count cd_is_count ct_is_count : Value} {f_is_gone_told : Addr} {od_is_gone_told an_is_gone_told : Option Addr} {sl_is_gone_told : Array (Option Value)} {oc_is_gone_told kV_is_gone_told dc_is_gone_told pm_is_gone_told cd_is_gone_told ct_is_gone_told : Value} {f_is_fact : Addr} {od_is_fact an_is_fact : Option Addr} {sl_is_fact : Array (Option Value)} {oc_is_fact kV_is_fact dc_is_fact pm_is_fact cd_is_fact ct_is_fact : Value} {f_want_facts : Addr} {od_want_facts an_want_facts : Option Addr} {sl_want_facts : Array (Option Value)} {oc_want_facts kV_want_facts dc_want_facts pm_want_facts cd_want_facts ct_want_facts : Value} {f_Yardu_initu : Addr} {od_Yardu_initu an_Yardu_initu : Option Addr} {sl_Yardu_initu : Array (Option Value)} {oc_Yardu_initu kV_Yardu_initu dc_Yardu_initu pm_Yardu_initu cd_Yardu_initu ct_Yardu_initu : Value} {f_Yard_facts : Addr} {od_Yard_facts an_Yard_facts : Option Addr} {sl_Yard_facts : Array (Option Value)} {oc_Yard_facts kV_Yard_facts dc_Yard_facts pm_Yard_facts cd_Yard_facts ct_Yard_facts : Value} {f_want_number : Addr} {od_want_number an_want_number : Option Addr} {sl_want_number : Array (Option Value)} {oc_want_number kV_want_number dc_want_number pm_want_number cd_want_number ct_want_number : Value} {f_Yard_days : Addr} {od_Yard_days an_Yard_days : Option Addr} {sl_Yard_days : Array (Option Value)} {oc_Yard_days kV_Yard_days dc_Yard_days pm_Yard_days cd_Yard_days ct_Yard_days : Value} {p_Yard_days : Addr} {rs_Yard_days : List Value} {f_Yardu_lenu : Addr} {od_Yardu_lenu an_Yardu_lenu : Option Addr} {sl_Yardu_lenu : Array (Option Value)} {oc_Yardu_lenu kV_Yardu_lenu dc_Yardu_lenu pm_Yardu_lenu cd_Yardu_lenu ct_Yardu_lenu : Value} {f_turns_of : Addr} {od_turns_of an_turns_of : Option Addr} {sl_turns_of : Array (Option Value)} {oc_turns_of kV_turns_of dc_turns_of pm_turns_of cd_turns_of ct_turns_of : Value} {f_turns : Addr} {od_turns an_turns : Option Addr} {sl_turns : Array (Option Value)} {oc_turns kV_turns dc_turns pm_turns cd_turns ct_turns : Value} {f_law_turns : Addr} {od_law_turns an_law_turns : Option Addr} {sl_law_turns : Array (Option Value)} {oc_law_turns kV_law_turns dc_law_turns pm_law_turns cd_law_turns ct_law_turns : Value} {f_Yardu_addu : Addr} {od_Yardu_addu an_Yardu_addu : Option Addr} {sl_Yardu_addu : Array (Option Value)} {oc_Yardu_addu kV_Yardu_addu dc_Yardu_addu pm_Yardu_addu cd_Yardu_addu ct_Yardu_addu : Value} {fo_Yard_add_tuple ro_Yard_add_tuple : Option Value} {f_law_mixed : Addr} {od_law_mixed an_law_mixed : Option Addr} {sl_law_mixed : Array (Option Value)} {oc_law_mixed kV_law_mixed dc_law_mixed pm_law_mixed cd_law_mixed ct_law_mixed : Value} {f_law_told : Addr} {od_law_told an_law_told : Option Addr} {sl_law_told : Array (Option Value)} {oc_law_told kV_law_told dc_law_told pm_law_told cd_law_told ct_law_told : Value} {f_is_list_of_days : Addr} {od_is_list_of_days an_is_list_of_days : Option Addr} {sl_is_list_of_days : Array (Option Value)} {oc_is_list_of_days kV_is_list_of_days dc_is_list_of_days pm_is_list_of_days cd_is_list_of_days ct_is_list_of_days : Value} {f_Yardu_containsu : Addr} {od_Yardu_containsu an_Yardu_containsu : Option Addr} {sl_Yardu_containsu : Array (Option Value)} {oc_Yardu_containsu kV_Yardu_containsu dc_Yardu_containsu pm_Yardu_containsu cd_Yardu_containsu ct_Yardu_containsu : Value} {f_first_wrong_day : Addr} {od_first_wrong_day an_first_wrong_day : Option Addr} {sl_first_wrong_day : Array (Option Value)} {oc_first_wrong_day kV_first_wrong_day dc_first_wrong_day pm_first_wrong_day cd_first_wrong_day ct_first_wrong_day : Value} {f_want_leaving : Addr} {od_want_leaving an_want_leaving : Option Addr} {sl_want_leaving : Array (Option Value)} {oc_want_leaving kV_want_leaving dc_want_leaving pm_want_leaving cd_want_leaving ct_want_leaving : Value} {f_Yard_boxes : Addr} {od_Yard_boxes an_Yard_boxes : Option Addr} {sl_Yard_boxes : Array (Option Value)} {oc_Yard_boxes kV_Yard_boxes dc_Yard_boxes pm_Yard_boxes cd_Yard_boxes ct_Yard_boxes : Value} {f_does_hold : Addr} {od_does_hold an_does_hold : Option Addr} {sl_does_hold : Array (Option Value)} {oc_does_hold kV_does_hold dc_does_hold pm_does_hold cd_does_hold ct_does_hold : Value} {f_spots_in : Addr} {od_spots_in an_spots_in : Option Addr} {sl_spots_in : Array (Option Value)} {oc_spots_in kV_spots_in dc_spots_in pm_spots_in cd_spots_in ct_spots_in : Value} {f_holds : Addr} {od_holds an_holds : Option Addr} {sl_holds : Array (Option Value)} {oc_holds kV_holds dc_holds pm_holds cd_holds ct_holds : Value} {f_Yardu_equ : Addr} {od_Yardu_equ an_Yardu_equ : Option Addr} {sl_Yardu_equ : Array (Option Value)} {oc_Yardu_equ kV_Yardu_equ dc_Yardu_equ pm_Yardu_equ cd_Yardu_equ ct_Yardu_equ : Value} {f_law_right : Addr} {od_law_right an_law_right : Option Addr} {sl_law_right : Array (Option Value)} {oc_law_right kV_law_right dc_law_right pm_law_right cd_law_right ct_law_right : Value} {f_law_pot : Addr} {od_law_pot an_law_pot : Option Addr} {sl_law_pot : Array (Option Value)} {oc_law_pot kV_law_pot dc_law_pot pm_law_pot cd_law_pot ct_law_pot : Value} {f_law : Addr} {od_law an_law : Option Addr} {sl_law : Array (Option Value)} {oc_law kV_law dc_law pm_law cd_law ct_law : Value} {tv_Yard_MOST_BOXES : Tok} {tv_Yard_MOST_FACTS : Tok}
    (h_g_Yard : PySem.W.nsIn K mainGlobals "Yard" = some (some (.ref a_Yard)))
    (h_pg_Yard : PySem.W.plainGet K a_Yard Str.empty = true)
    (h_hd_Yard : PySem.W.hasDictIn K a_Yard = true)
    (h_po_Yard : PySem.W.plainOver K a_Yard = true)
    (h_sa_Yard : PySem.W.findIn K (.ref a_Yard) "__setattr__" = some (some (.builtin "object.__setattr__")))
    (h_n_abs : PySem.W.nsIn K mainGlobals "abs" = some none)
    (h_n_all : PySem.W.nsIn K mainGlobals "all" = some none)
    (h_n_bool : PySem.W.nsIn K mainGlobals "bool" = some none)
    (h_n_divmod : PySem.W.nsIn K mainGlobals "divmod" = some none)
    (h_n_enumerate : PySem.W.nsIn K mainGlobals "enumerate" = some none)
    (h_n_int : PySem.W.nsIn K mainGlobals "int" = some none)
    (h_n_isinstance : PySem.W.nsIn K mainGlobals "isinstance" = some none)
    (h_n_len : PySem.W.nsIn K mainGlobals "len" = some none)
    (h_n_list : PySem.W.nsIn K mainGlobals "list" = some none)
    (h_n_max : PySem.W.nsIn K mainGlobals "max" = some none)
    (h_n_min : PySem.W.nsIn K mainGlobals "min" = some none)
    (h_n_range : PySem.W.nsIn K mainGlobals "range" = some none)
    (h_n_repr : PySem.W.nsIn K mainGlobals "repr" = some none)
    (h_n_sorted : PySem.W.nsIn K mainGlobals "sorted" = some none)
    (h_n_str : PySem.W.nsIn K mainGlobals "str" = some none)
    (h_n_sum : PySem.W.nsIn K mainGlobals "sum" = some none)
    (h_n_tuple : PySem.W.nsIn K mainGlobals "tuple" = some none)
    (h_n_zip : PySem.W.nsIn K mainGlobals "zip" = some none)
    (h_g_AHEAD : PySem.W.nsIn K mainGlobals "AHEAD" = some (some (.str "ahead" t_AHEAD)))
    (h_g_DAYS : PySem.W.nsIn K mainGlobals "DAYS" = some (some (.str "days" t_DAYS)))
    (h_g_GONE : PySem.W.nsIn K mainGlobals "GONE" = some (some (.str "gone" t_GONE)))
    (h_g_LETTERS : PySem.W.nsIn K mainGlobals "LETTERS" = some (some (.str "abcdefghijklmnopqrstuvwxyz" t_LETTERS)))
    (h_g_LONGEST_BOX : PySem.W.nsIn K mainGlobals "LONGEST_BOX" = some (some (.int 6 t_LONGEST_BOX)))
    (h_g_MOST_DAYS : PySem.W.nsIn K mainGlobals "MOST_DAYS" = some (some (.int 9 t_MOST_DAYS)))
    (h_m_law_draw : PySem.W.nsIn K mainGlobals "_law_draw" = some (some (.ref f_law_draw)))
    (l_law_draw : K.lookup f_law_draw = some ⟨oc_law_draw, od_law_draw, .func (PySem.W.fnOf "_law_draw" "_law_draw" (defArgs s_law_draw) (defBody s_law_draw) (defScope s_law_draw) .none kV_law_draw dc_law_draw pm_law_draw an_law_draw cd_law_draw ct_law_draw), sl_law_draw⟩)
    (cc_law_draw : PySem.W.codeIn K cd_law_draw "_law_draw" = true)
    (kk_law_draw : PySem.W.keepIn K (.ref f_law_draw) = true)
    (h_m_law_pick : PySem.W.nsIn K mainGlobals "_law_pick" = some (some (.ref f_law_pick)))
    (l_law_pick : K.lookup f_law_pick = some ⟨oc_law_pick, od_law_pick, .func (PySem.W.fnOf "_law_pick" "_law_pick" (defArgs s_law_pick) (defBody s_law_pick) (defScope s_law_pick) .none kV_law_pick dc_law_pick pm_law_pick an_law_pick cd_law_pick ct_law_pick), sl_law_pick⟩)
    (cc_law_pick : PySem.W.codeIn K cd_law_pick "_law_pick" = true)
    (kk_law_pick : PySem.W.keepIn K (.ref f_law_pick) = true)
    (h_m_law_folk : PySem.W.nsIn K mainGlobals "_law_folk" = some (some (.ref f_law_folk)))
    (l_law_folk : K.lookup f_law_folk = some ⟨oc_law_folk, od_law_folk, .func (PySem.W.fnOf "_law_folk" "_law_folk" (defArgs s_law_folk) (defBody s_law_folk) (defScope s_law_folk) .none kV_law_folk dc_law_folk pm_law_folk an_law_folk cd_law_folk ct_law_folk), sl_law_folk⟩)
    (cc_law_folk : PySem.W.codeIn K cd_law_folk "_law_folk" = true)
    (kk_law_folk : PySem.W.keepIn K (.ref f_law_folk) = true)
    (h_m_law_fact : PySem.W.nsIn K mainGlobals "_law_fact" = some (some (.ref f_law_fact)))
    (l_law_fact : K.lookup f_law_fact = some ⟨oc_law_fact, od_law_fact, .func (PySem.W.fnOf "_law_fact" "_law_fact" (defArgs s_law_fact) (defBody s_law_fact) (defScope s_law_fact) .none kV_law_fact dc_law_fact pm_law_fact an_law_fact cd_law_fact ct_law_fact), sl_law_fact⟩)
    (cc_law_fact : PySem.W.codeIn K cd_law_fact "_law_fact" = true)
    (kk_law_fact : PySem.W.keepIn K (.ref f_law_fact) = true)
    (h_m_is_list : PySem.W.nsIn K mainGlobals "is_list" = some (some (.ref f_is_list)))
    (l_is_list : K.lookup f_is_list = some ⟨oc_is_list, od_is_list, .func (PySem.W.fnOf "is_list" "is_list" (defArgs s_is_list) (defBody s_is_list) (defScope s_is_list) .none kV_is_list dc_is_list pm_is_list an_is_list cd_is_list ct_is_list), sl_is_list⟩)
    (cc_is_list : PySem.W.codeIn K cd_is_list "is_list" = true)
    (kk_is_list : PySem.W.keepIn K (.ref f_is_list) = true)
    (h_m_is_box : PySem.W.nsIn K mainGlobals "is_box" = some (some (.ref f_is_box)))
    (l_is_box : K.lookup f_is_box = some ⟨oc_is_box, od_is_box, .func (PySem.W.fnOf "is_box" "is_box" (defArgs s_is_box) (defBody s_is_box) (defScope s_is_box) .none kV_is_box dc_is_box pm_is_box an_is_box cd_is_box ct_is_box), sl_is_box⟩)
    (cc_is_box : PySem.W.codeIn K cd_is_box "is_box" = true)
    (kk_is_box : PySem.W.keepIn K (.ref f_is_box) = true)
    (h_m_want_boxes : PySem.W.nsIn K mainGlobals "want_boxes" = some (some (.ref f_want_boxes)))
    (l_want_boxes : K.lookup f_want_boxes = some ⟨oc_want_boxes, od_want_boxes, .func (PySem.W.fnOf "want_boxes" "want_boxes" (defArgs s_want_boxes) (defBody s_want_boxes) (defScope s_want_boxes) .none kV_want_boxes dc_want_boxes pm_want_boxes an_want_boxes cd_want_boxes ct_want_boxes), sl_want_boxes⟩)
    (cc_want_boxes : PySem.W.codeIn K cd_want_boxes "want_boxes" = true)
    (kk_want_boxes : PySem.W.keepIn K (.ref f_want_boxes) = true)
    (h_m_is_integer : PySem.W.nsIn K mainGlobals "is_integer" = some (some (.ref f_is_integer)))
    (l_is_integer : K.lookup f_is_integer = some ⟨oc_is_integer, od_is_integer, .func (PySem.W.fnOf "is_integer" "is_integer" (defArgs s_is_integer) (defBody s_is_integer) (defScope s_is_integer) .none kV_is_integer dc_is_integer pm_is_integer an_is_integer cd_is_integer ct_is_integer), sl_is_integer⟩)
    (cc_is_integer : PySem.W.codeIn K cd_is_integer "is_integer" = true)
    (kk_is_integer : PySem.W.keepIn K (.ref f_is_integer) = true)
    (h_m_want_days : PySem.W.nsIn K mainGlobals "want_days" = some (some (.ref f_want_days)))
    (l_want_days : K.lookup f_want_days = some ⟨oc_want_days, od_want_days, .func (PySem.W.fnOf "want_days" "want_days" (defArgs s_want_days) (defBody s_want_days) (defScope s_want_days) .none kV_want_days dc_want_days pm_want_days an_want_days cd_want_days ct_want_days), sl_want_days⟩)
    (cc_want_days : PySem.W.codeIn K cd_want_days "want_days" = true)
    (kk_want_days : PySem.W.keepIn K (.ref f_want_days) = true)
    (h_m_is_known : PySem.W.nsIn K mainGlobals "is_known" = some (some (.ref f_is_known)))
    (l_is_known : K.lookup f_is_known = some ⟨oc_is_known, od_is_known, .func (PySem.W.fnOf "is_known" "is_known" (defArgs s_is_known) (defBody s_is_known) (defScope s_is_known) .none kV_is_known dc_is_known pm_is_known an_is_known cd_is_known ct_is_known), sl_is_known⟩)
    (cc_is_known : PySem.W.codeIn K cd_is_known "is_known" = true)
    (kk_is_known : PySem.W.keepIn K (.ref f_is_known) = true)
    (h_m_is_ahead_told : PySem.W.nsIn K mainGlobals "is_ahead_told" = some (some (.ref f_is_ahead_told)))
    (l_is_ahead_told : K.lookup f_is_ahead_told = some ⟨oc_is_ahead_told, od_is_ahead_told, .func (PySem.W.fnOf "is_ahead_told" "is_ahead_told" (defArgs s_is_ahead_told) (defBody s_is_ahead_told) (defScope s_is_ahead_told) .none kV_is_ahead_told dc_is_ahead_told pm_is_ahead_told an_is_ahead_told cd_is_ahead_told ct_is_ahead_told), sl_is_ahead_told⟩)
    (cc_is_ahead_told : PySem.W.codeIn K cd_is_ahead_told "is_ahead_told" = true)
    (kk_is_ahead_told : PySem.W.keepIn K (.ref f_is_ahead_told) = true)
    (h_m_are_days_told : PySem.W.nsIn K mainGlobals "are_days_told" = some (some (.ref f_are_days_told)))
    (l_are_days_told : K.lookup f_are_days_told = some ⟨oc_are_days_told, od_are_days_told, .func (PySem.W.fnOf "are_days_told" "are_days_told" (defArgs s_are_days_told) (defBody s_are_days_told) (defScope s_are_days_told) .none kV_are_days_told dc_are_days_told pm_are_days_told an_are_days_told cd_are_days_told ct_are_days_told), sl_are_days_told⟩)
    (cc_are_days_told : PySem.W.codeIn K cd_are_days_told "are_days_told" = true)
    (kk_are_days_told : PySem.W.keepIn K (.ref f_are_days_told) = true)
    (h_m_is_count : PySem.W.nsIn K mainGlobals "is_count" = some (some (.ref f_is_count)))
    (l_is_count : K.lookup f_is_count = some ⟨oc_is_count, od_is_count, .func (PySem.W.fnOf "is_count" "is_count" (defArgs s_is_count) (defBody s_is_count) (defScope s_is_count) .none kV_is_count dc_is_count pm_is_count an_is_count cd_is_count ct_is_count), sl_is_count⟩)
    (cc_is_count : PySem.W.codeIn K cd_is_count "is_count" = true)
    (kk_is_count : PySem.W.keepIn K (.ref f_is_count) = true)
    (h_m_is_gone_told : PySem.W.nsIn K mainGlobals "is_gone_told" = some (some (.ref f_is_gone_told)))
    (l_is_gone_told : K.lookup f_is_gone_told = some ⟨oc_is_gone_told, od_is_gone_told, .func (PySem.W.fnOf "is_gone_told" "is_gone_told" (defArgs s_is_gone_told) (defBody s_is_gone_told) (defScope s_is_gone_told) .none kV_is_gone_told dc_is_gone_told pm_is_gone_told an_is_gone_told cd_is_gone_told ct_is_gone_told), sl_is_gone_told⟩)
    (cc_is_gone_told : PySem.W.codeIn K cd_is_gone_told "is_gone_told" = true)
    (kk_is_gone_told : PySem.W.keepIn K (.ref f_is_gone_told) = true)
    (h_m_is_fact : PySem.W.nsIn K mainGlobals "is_fact" = some (some (.ref f_is_fact)))
    (l_is_fact : K.lookup f_is_fact = some ⟨oc_is_fact, od_is_fact, .func (PySem.W.fnOf "is_fact" "is_fact" (defArgs s_is_fact) (defBody s_is_fact) (defScope s_is_fact) .none kV_is_fact dc_is_fact pm_is_fact an_is_fact cd_is_fact ct_is_fact), sl_is_fact⟩)
    (cc_is_fact : PySem.W.codeIn K cd_is_fact "is_fact" = true)
    (kk_is_fact : PySem.W.keepIn K (.ref f_is_fact) = true)
    (h_m_want_facts : PySem.W.nsIn K mainGlobals "want_facts" = some (some (.ref f_want_facts)))
    (l_want_facts : K.lookup f_want_facts = some ⟨oc_want_facts, od_want_facts, .func (PySem.W.fnOf "want_facts" "want_facts" (defArgs s_want_facts) (defBody s_want_facts) (defScope s_want_facts) .none kV_want_facts dc_want_facts pm_want_facts an_want_facts cd_want_facts ct_want_facts), sl_want_facts⟩)
    (cc_want_facts : PySem.W.codeIn K cd_want_facts "want_facts" = true)
    (kk_want_facts : PySem.W.keepIn K (.ref f_want_facts) = true)
    (h_at_Yardu_initu : PySem.W.findIn K (.ref a_Yard) "__init__" = some (some (.ref f_Yardu_initu)))
    (l_Yardu_initu : K.lookup f_Yardu_initu = some ⟨oc_Yardu_initu, od_Yardu_initu, .func (PySem.W.fnOf "__init__" "Yard.__init__" (defArgs s_Yardu_initu) (defBody s_Yardu_initu) (defScope s_Yardu_initu) .none kV_Yardu_initu dc_Yardu_initu pm_Yardu_initu an_Yardu_initu cd_Yardu_initu ct_Yardu_initu), sl_Yardu_initu⟩)
    (cc_Yardu_initu : PySem.W.codeIn K cd_Yardu_initu "Yard.__init__" = true)
    (kk_Yardu_initu : PySem.W.keepIn K (.ref f_Yardu_initu) = true)
    (h_fn_Yardu_initu : PySem.W.isFn K (.ref f_Yardu_initu) = true)
    (h_mk_Yard : PySem.W.makesIn K a_Yard = true)
    (h_kc_Yard : PySem.W.keepIn K (.ref a_Yard) = true)
    (h_at_Yard_facts : PySem.W.findIn K (.ref a_Yard) "facts" = some (some (.ref f_Yard_facts)))
    (l_Yard_facts : K.lookup f_Yard_facts = some ⟨oc_Yard_facts, od_Yard_facts, .func (PySem.W.fnOf "facts" "Yard.facts" (defArgs s_Yard_facts) (defBody s_Yard_facts) (defScope s_Yard_facts) .none kV_Yard_facts dc_Yard_facts pm_Yard_facts an_Yard_facts cd_Yard_facts ct_Yard_facts), sl_Yard_facts⟩)
    (cc_Yard_facts : PySem.W.codeIn K cd_Yard_facts "Yard.facts" = true)
    (kk_Yard_facts : PySem.W.keepIn K (.ref f_Yard_facts) = true)
    (h_fn_Yard_facts : PySem.W.isFn K (.ref f_Yard_facts) = true)
    (h_m_want_number : PySem.W.nsIn K mainGlobals "want_number" = some (some (.ref f_want_number)))
    (l_want_number : K.lookup f_want_number = some ⟨oc_want_number, od_want_number, .func (PySem.W.fnOf "want_number" "want_number" (defArgs s_want_number) (defBody s_want_number) (defScope s_want_number) .none kV_want_number dc_want_number pm_want_number an_want_number cd_want_number ct_want_number), sl_want_number⟩)
    (cc_want_number : PySem.W.codeIn K cd_want_number "want_number" = true)
    (kk_want_number : PySem.W.keepIn K (.ref f_want_number) = true)
    (hp_at_Yard_days : PySem.W.findIn K (.ref a_Yard) "days" = some (some (.ref p_Yard_days)))
    (hp_rec_Yard_days : PySem.W.recIn K p_Yard_days "property" = some (.ref f_Yard_days :: rs_Yard_days))
    (l_Yard_days : K.lookup f_Yard_days = some ⟨oc_Yard_days, od_Yard_days, .func (PySem.W.fnOf "days" "Yard.days" (defArgs s_Yard_days) (defBody s_Yard_days) (defScope s_Yard_days) .none kV_Yard_days dc_Yard_days pm_Yard_days an_Yard_days cd_Yard_days ct_Yard_days), sl_Yard_days⟩)
    (cc_Yard_days : PySem.W.codeIn K cd_Yard_days "Yard.days" = true)
    (kk_Yard_days : PySem.W.keepIn K (.ref f_Yard_days) = true)
    (hp_get_Yard_days : PySem.W.specialIn K (.ref p_Yard_days) "__get__" = some (some (.builtin "property.__get__")))
    (hp_tak_Yard_days : PySem.W.takesIn K (.ref p_Yard_days) = some true)
    (h_at_Yardu_lenu : PySem.W.findIn K (.ref a_Yard) "__len__" = some (some (.ref f_Yardu_lenu)))
    (l_Yardu_lenu : K.lookup f_Yardu_lenu = some ⟨oc_Yardu_lenu, od_Yardu_lenu, .func (PySem.W.fnOf "__len__" "Yard.__len__" (defArgs s_Yardu_lenu) (defBody s_Yardu_lenu) (defScope s_Yardu_lenu) .none kV_Yardu_lenu dc_Yardu_lenu pm_Yardu_lenu an_Yardu_lenu cd_Yardu_lenu ct_Yardu_lenu), sl_Yardu_lenu⟩)
    (cc_Yardu_lenu : PySem.W.codeIn K cd_Yardu_lenu "Yard.__len__" = true)
    (kk_Yardu_lenu : PySem.W.keepIn K (.ref f_Yardu_lenu) = true)
    (h_fn_Yardu_lenu : PySem.W.isFn K (.ref f_Yardu_lenu) = true)
    (h_m_turns_of : PySem.W.nsIn K mainGlobals "turns_of" = some (some (.ref f_turns_of)))
    (l_turns_of : K.lookup f_turns_of = some ⟨oc_turns_of, od_turns_of, .func (PySem.W.fnOf "turns_of" "turns_of" (defArgs s_turns_of) (defBody s_turns_of) (defScope s_turns_of) .none kV_turns_of dc_turns_of pm_turns_of an_turns_of cd_turns_of ct_turns_of), sl_turns_of⟩)
    (cc_turns_of : PySem.W.codeIn K cd_turns_of "turns_of" = true)
    (kk_turns_of : PySem.W.keepIn K (.ref f_turns_of) = true)
    (h_m_turns : PySem.W.nsIn K mainGlobals "turns" = some (some (.ref f_turns)))
    (l_turns : K.lookup f_turns = some ⟨oc_turns, od_turns, .func (PySem.W.fnOf "turns" "turns" (defArgs s_turns) (defBody s_turns) (defScope s_turns) .none kV_turns dc_turns pm_turns an_turns cd_turns ct_turns), sl_turns⟩)
    (cc_turns : PySem.W.codeIn K cd_turns "turns" = true)
    (kk_turns : PySem.W.keepIn K (.ref f_turns) = true)
    (h_m_law_turns : PySem.W.nsIn K mainGlobals "_law_turns" = some (some (.ref f_law_turns)))
    (l_law_turns : K.lookup f_law_turns = some ⟨oc_law_turns, od_law_turns, .func (PySem.W.fnOf "_law_turns" "_law_turns" (defArgs s_law_turns) (defBody s_law_turns) (defScope s_law_turns) .none kV_law_turns dc_law_turns pm_law_turns an_law_turns cd_law_turns ct_law_turns), sl_law_turns⟩)
    (cc_law_turns : PySem.W.codeIn K cd_law_turns "_law_turns" = true)
    (kk_law_turns : PySem.W.keepIn K (.ref f_law_turns) = true)
    (h_at_Yardu_addu : PySem.W.findIn K (.ref a_Yard) "__add__" = some (some (.ref f_Yardu_addu)))
    (l_Yardu_addu : K.lookup f_Yardu_addu = some ⟨oc_Yardu_addu, od_Yardu_addu, .func (PySem.W.fnOf "__add__" "Yard.__add__" (defArgs s_Yardu_addu) (defBody s_Yardu_addu) (defScope s_Yardu_addu) .none kV_Yardu_addu dc_Yardu_addu pm_Yardu_addu an_Yardu_addu cd_Yardu_addu ct_Yardu_addu), sl_Yardu_addu⟩)
    (cc_Yardu_addu : PySem.W.codeIn K cd_Yardu_addu "Yard.__add__" = true)
    (kk_Yardu_addu : PySem.W.keepIn K (.ref f_Yardu_addu) = true)
    (h_fn_Yardu_addu : PySem.W.isFn K (.ref f_Yardu_addu) = true)
    (h_bf_Yard_add_tuple : PySem.W.selfFirst K a_Yard = true)
    (h_br_Yard_add_tuple : PySem.W.findIn K (.ref a_Yard) (dunderR "add") = some none)
    (h_bo_Yard_add_tuple : PySem.W.findIn K (.type "tuple") (PySem.dunder "add") = some fo_Yard_add_tuple)
    (h_bp_Yard_add_tuple : PySem.W.findIn K (.type "tuple") (dunderR "add") = some ro_Yard_add_tuple)
    (h_bs_Yard_add_tuple : PySem.W.subIn K (.type "tuple") (.ref a_Yard) = some false)
    (h_m_law_mixed : PySem.W.nsIn K mainGlobals "_law_mixed" = some (some (.ref f_law_mixed)))
    (l_law_mixed : K.lookup f_law_mixed = some ⟨oc_law_mixed, od_law_mixed, .func (PySem.W.fnOf "_law_mixed" "_law_mixed" (defArgs s_law_mixed) (defBody s_law_mixed) (defScope s_law_mixed) .none kV_law_mixed dc_law_mixed pm_law_mixed an_law_mixed cd_law_mixed ct_law_mixed), sl_law_mixed⟩)
    (cc_law_mixed : PySem.W.codeIn K cd_law_mixed "_law_mixed" = true)
    (kk_law_mixed : PySem.W.keepIn K (.ref f_law_mixed) = true)
    (h_m_law_told : PySem.W.nsIn K mainGlobals "_law_told" = some (some (.ref f_law_told)))
    (l_law_told : K.lookup f_law_told = some ⟨oc_law_told, od_law_told, .func (PySem.W.fnOf "_law_told" "_law_told" (defArgs s_law_told) (defBody s_law_told) (defScope s_law_told) .none kV_law_told dc_law_told pm_law_told an_law_told cd_law_told ct_law_told), sl_law_told⟩)
    (cc_law_told : PySem.W.codeIn K cd_law_told "_law_told" = true)
    (kk_law_told : PySem.W.keepIn K (.ref f_law_told) = true)
    (h_m_is_list_of_days : PySem.W.nsIn K mainGlobals "is_list_of_days" = some (some (.ref f_is_list_of_days)))
    (l_is_list_of_days : K.lookup f_is_list_of_days = some ⟨oc_is_list_of_days, od_is_list_of_days, .func (PySem.W.fnOf "is_list_of_days" "is_list_of_days" (defArgs s_is_list_of_days) (defBody s_is_list_of_days) (defScope s_is_list_of_days) .none kV_is_list_of_days dc_is_list_of_days pm_is_list_of_days an_is_list_of_days cd_is_list_of_days ct_is_list_of_days), sl_is_list_of_days⟩)
    (cc_is_list_of_days : PySem.W.codeIn K cd_is_list_of_days "is_list_of_days" = true)
    (kk_is_list_of_days : PySem.W.keepIn K (.ref f_is_list_of_days) = true)
    (h_at_Yardu_containsu : PySem.W.findIn K (.ref a_Yard) "__contains__" = some (some (.ref f_Yardu_containsu)))
    (l_Yardu_containsu : K.lookup f_Yardu_containsu = some ⟨oc_Yardu_containsu, od_Yardu_containsu, .func (PySem.W.fnOf "__contains__" "Yard.__contains__" (defArgs s_Yardu_containsu) (defBody s_Yardu_containsu) (defScope s_Yardu_containsu) .none kV_Yardu_containsu dc_Yardu_containsu pm_Yardu_containsu an_Yardu_containsu cd_Yardu_containsu ct_Yardu_containsu), sl_Yardu_containsu⟩)
    (cc_Yardu_containsu : PySem.W.codeIn K cd_Yardu_containsu "Yard.__contains__" = true)
    (kk_Yardu_containsu : PySem.W.keepIn K (.ref f_Yardu_containsu) = true)
    (h_fn_Yardu_containsu : PySem.W.isFn K (.ref f_Yardu_containsu) = true)
    (h_m_first_wrong_day : PySem.W.nsIn K mainGlobals "first_wrong_day" = some (some (.ref f_first_wrong_day)))
    (l_first_wrong_day : K.lookup f_first_wrong_day = some ⟨oc_first_wrong_day, od_first_wrong_day, .func (PySem.W.fnOf "first_wrong_day" "first_wrong_day" (defArgs s_first_wrong_day) (defBody s_first_wrong_day) (defScope s_first_wrong_day) .none kV_first_wrong_day dc_first_wrong_day pm_first_wrong_day an_first_wrong_day cd_first_wrong_day ct_first_wrong_day), sl_first_wrong_day⟩)
    (cc_first_wrong_day : PySem.W.codeIn K cd_first_wrong_day "first_wrong_day" = true)
    (kk_first_wrong_day : PySem.W.keepIn K (.ref f_first_wrong_day) = true)
    (h_m_want_leaving : PySem.W.nsIn K mainGlobals "want_leaving" = some (some (.ref f_want_leaving)))
    (l_want_leaving : K.lookup f_want_leaving = some ⟨oc_want_leaving, od_want_leaving, .func (PySem.W.fnOf "want_leaving" "want_leaving" (defArgs s_want_leaving) (defBody s_want_leaving) (defScope s_want_leaving) .none kV_want_leaving dc_want_leaving pm_want_leaving an_want_leaving cd_want_leaving ct_want_leaving), sl_want_leaving⟩)
    (cc_want_leaving : PySem.W.codeIn K cd_want_leaving "want_leaving" = true)
    (kk_want_leaving : PySem.W.keepIn K (.ref f_want_leaving) = true)
    (h_at_Yard_boxes : PySem.W.findIn K (.ref a_Yard) "boxes" = some (some (.ref f_Yard_boxes)))
    (l_Yard_boxes : K.lookup f_Yard_boxes = some ⟨oc_Yard_boxes, od_Yard_boxes, .func (PySem.W.fnOf "boxes" "Yard.boxes" (defArgs s_Yard_boxes) (defBody s_Yard_boxes) (defScope s_Yard_boxes) .none kV_Yard_boxes dc_Yard_boxes pm_Yard_boxes an_Yard_boxes cd_Yard_boxes ct_Yard_boxes), sl_Yard_boxes⟩)
    (cc_Yard_boxes : PySem.W.codeIn K cd_Yard_boxes "Yard.boxes" = true)
    (kk_Yard_boxes : PySem.W.keepIn K (.ref f_Yard_boxes) = true)
    (h_fn_Yard_boxes : PySem.W.isFn K (.ref f_Yard_boxes) = true)
    (h_m_does_hold : PySem.W.nsIn K mainGlobals "does_hold" = some (some (.ref f_does_hold)))
    (l_does_hold : K.lookup f_does_hold = some ⟨oc_does_hold, od_does_hold, .func (PySem.W.fnOf "does_hold" "does_hold" (defArgs s_does_hold) (defBody s_does_hold) (defScope s_does_hold) .none kV_does_hold dc_does_hold pm_does_hold an_does_hold cd_does_hold ct_does_hold), sl_does_hold⟩)
    (cc_does_hold : PySem.W.codeIn K cd_does_hold "does_hold" = true)
    (kk_does_hold : PySem.W.keepIn K (.ref f_does_hold) = true)
    (h_m_spots_in : PySem.W.nsIn K mainGlobals "spots_in" = some (some (.ref f_spots_in)))
    (l_spots_in : K.lookup f_spots_in = some ⟨oc_spots_in, od_spots_in, .func (PySem.W.fnOf "spots_in" "spots_in" (defArgs s_spots_in) (defBody s_spots_in) (defScope s_spots_in) .none kV_spots_in dc_spots_in pm_spots_in an_spots_in cd_spots_in ct_spots_in), sl_spots_in⟩)
    (cc_spots_in : PySem.W.codeIn K cd_spots_in "spots_in" = true)
    (kk_spots_in : PySem.W.keepIn K (.ref f_spots_in) = true)
    (h_m_holds : PySem.W.nsIn K mainGlobals "holds" = some (some (.ref f_holds)))
    (l_holds : K.lookup f_holds = some ⟨oc_holds, od_holds, .func (PySem.W.fnOf "holds" "holds" (defArgs s_holds) (defBody s_holds) (defScope s_holds) .none kV_holds dc_holds pm_holds an_holds cd_holds ct_holds), sl_holds⟩)
    (cc_holds : PySem.W.codeIn K cd_holds "holds" = true)
    (kk_holds : PySem.W.keepIn K (.ref f_holds) = true)
    (h_at_Yardu_equ : PySem.W.findIn K (.ref a_Yard) "__eq__" = some (some (.ref f_Yardu_equ)))
    (l_Yardu_equ : K.lookup f_Yardu_equ = some ⟨oc_Yardu_equ, od_Yardu_equ, .func (PySem.W.fnOf "__eq__" "Yard.__eq__" (defArgs s_Yardu_equ) (defBody s_Yardu_equ) (defScope s_Yardu_equ) .none kV_Yardu_equ dc_Yardu_equ pm_Yardu_equ an_Yardu_equ cd_Yardu_equ ct_Yardu_equ), sl_Yardu_equ⟩)
    (cc_Yardu_equ : PySem.W.codeIn K cd_Yardu_equ "Yard.__eq__" = true)
    (kk_Yardu_equ : PySem.W.keepIn K (.ref f_Yardu_equ) = true)
    (h_fn_Yardu_equ : PySem.W.isFn K (.ref f_Yardu_equ) = true)
    (h_sub_Yard_NoneType : PySem.W.subIn K (.type "NoneType") (.ref a_Yard) = some false)
    (h_sub_Yard_bool : PySem.W.subIn K (.type "bool") (.ref a_Yard) = some false)
    (h_sub_Yard_int : PySem.W.subIn K (.type "int") (.ref a_Yard) = some false)
    (h_sub_Yard_str : PySem.W.subIn K (.type "str") (.ref a_Yard) = some false)
    (h_sub_Yard_list : PySem.W.subIn K (.type "list") (.ref a_Yard) = some false)
    (h_sub_Yard_tuple : PySem.W.subIn K (.type "tuple") (.ref a_Yard) = some false)
    (h_m_law_right : PySem.W.nsIn K mainGlobals "_law_right" = some (some (.ref f_law_right)))
    (l_law_right : K.lookup f_law_right = some ⟨oc_law_right, od_law_right, .func (PySem.W.fnOf "_law_right" "_law_right" (defArgs s_law_right) (defBody s_law_right) (defScope s_law_right) .none kV_law_right dc_law_right pm_law_right an_law_right cd_law_right ct_law_right), sl_law_right⟩)
    (cc_law_right : PySem.W.codeIn K cd_law_right "_law_right" = true)
    (kk_law_right : PySem.W.keepIn K (.ref f_law_right) = true)
    (h_m_law_pot : PySem.W.nsIn K mainGlobals "_law_pot" = some (some (.ref f_law_pot)))
    (l_law_pot : K.lookup f_law_pot = some ⟨oc_law_pot, od_law_pot, .func (PySem.W.fnOf "_law_pot" "_law_pot" (defArgs s_law_pot) (defBody s_law_pot) (defScope s_law_pot) .none kV_law_pot dc_law_pot pm_law_pot an_law_pot cd_law_pot ct_law_pot), sl_law_pot⟩)
    (cc_law_pot : PySem.W.codeIn K cd_law_pot "_law_pot" = true)
    (kk_law_pot : PySem.W.keepIn K (.ref f_law_pot) = true)
    (h_m_law : PySem.W.nsIn K mainGlobals "law" = some (some (.ref f_law)))
    (l_law : K.lookup f_law = some ⟨oc_law, od_law, .func (PySem.W.fnOf "law" "law" (defArgs s_law) (defBody s_law) (defScope s_law) .none kV_law dc_law pm_law an_law cd_law ct_law), sl_law⟩)
    (cc_law : PySem.W.codeIn K cd_law "law" = true)
    (kk_law : PySem.W.keepIn K (.ref f_law) = true)
    (h_na_Yard_own_boxes : PySem.W.findIn K (.ref a_Yard) "own_boxes" = some none)
    (h_na_Yard_own_days : PySem.W.findIn K (.ref a_Yard) "own_days" = some none)
    (h_na_Yard_own_facts : PySem.W.findIn K (.ref a_Yard) "own_facts" = some none)
    (h_rd_Yard : PySem.W.readsIn K a_Yard (.type "type") = true)
    (h_ga_Yard : PySem.W.specialIn K (.ref a_Yard) "__getattribute__" = some (some (.builtin "type.__getattribute__")))
    (h_cv_Yard_MOST_BOXES : PySem.W.findCls K (.ref a_Yard) (.type "type") "MOST_BOXES" = some (.val (.int 10 tv_Yard_MOST_BOXES)))
    (h_cv_Yard_MOST_FACTS : PySem.W.findCls K (.ref a_Yard) (.type "type") "MOST_FACTS" = some (.val (.int 40 tv_Yard_MOST_FACTS)))
    (h_ic_Yard : PySem.W.findIn K (.ref a_Yard) "__class__" = some (some (.builtin "object.__class__")))
    (h_in_Yard : PySem.W.specialIn K (.builtin "object.__class__") "__get__" = some (some (.builtin "getset_descriptor.__get__")))
    (h_it_Yard : PySem.W.takesIn K (.builtin "object.__class__") = some true)
    (h_im_Yard : PySem.W.mroIn K a_Yard (.type "object") = some true)
    (h_ty_Yard : PySem.W.typeIn K (.ref a_Yard) = some (.type "type"))
    : ∃ T : Txt K mg, T.f_law = fa ∧ (∀ (s : Shared) (v : Value), BindsTo s T.d_law ⟨[v], []⟩ [("_law_script", v)]) := by
  have e := hfa.symm.trans (PySem.W.mg_of X G h_m_law)
  cases e
  exact ⟨Txt.mk a_Yard (PySem.W.mg_of X G h_g_Yard) ⟨h_pg_Yard, h_hd_Yard, h_po_Yard, h_sa_Yard⟩ (PySem.W.mg_none_of X G h_n_abs) (PySem.W.mg_none_of X G h_n_all) (PySem.W.mg_none_of X G h_n_bool) (PySem.W.mg_none_of X G h_n_divmod) (PySem.W.mg_none_of X G h_n_enumerate) (PySem.W.mg_none_of X G h_n_int) (PySem.W.mg_none_of X G h_n_isinstance) (PySem.W.mg_none_of X G h_n_len) (PySem.W.mg_none_of X G h_n_list) (PySem.W.mg_none_of X G h_n_max) (PySem.W.mg_none_of X G h_n_min) (PySem.W.mg_none_of X G h_n_range) (PySem.W.mg_none_of X G h_n_repr) (PySem.W.mg_none_of X G h_n_sorted) (PySem.W.mg_none_of X G h_n_str) (PySem.W.mg_none_of X G h_n_sum) (PySem.W.mg_none_of X G h_n_tuple) (PySem.W.mg_none_of X G h_n_zip) t_AHEAD (PySem.W.mg_of X G h_g_AHEAD) t_DAYS (PySem.W.mg_of X G h_g_DAYS) t_GONE (PySem.W.mg_of X G h_g_GONE) t_LETTERS (PySem.W.mg_of X G h_g_LETTERS) t_LONGEST_BOX (PySem.W.mg_of X G h_g_LONGEST_BOX) t_MOST_DAYS (PySem.W.mg_of X G h_g_MOST_DAYS) f_law_draw _ (fun_mk (st := s_law_draw) l_law_draw cc_law_draw kk_law_draw) ((fun_mk (st := s_law_draw) l_law_draw cc_law_draw kk_law_draw).binds (ps := ["_law_pot_here", "_law_size"]) fun _ _ _ _ _ _ us hl => match us, hl with | [_, _], _ => rfl) (PySem.W.mg_of X G h_m_law_draw) kk_law_draw f_law_pick _ (fun_mk (st := s_law_pick) l_law_pick cc_law_pick kk_law_pick) ((fun_mk (st := s_law_pick) l_law_pick cc_law_pick kk_law_pick).binds (ps := ["_law_pot_here", "_law_some"]) fun _ _ _ _ _ _ us hl => match us, hl with | [_, _], _ => rfl) (PySem.W.mg_of X G h_m_law_pick) kk_law_pick f_law_folk _ (fun_mk (st := s_law_folk) l_law_folk cc_law_folk kk_law_folk) ((fun_mk (st := s_law_folk) l_law_folk cc_law_folk kk_law_folk).binds (ps := ["_law_pot_here", "_law_size"]) fun _ _ _ _ _ _ us hl => match us, hl with | [_, _], _ => rfl) (PySem.W.mg_of X G h_m_law_folk) kk_law_folk f_law_fact _ (fun_mk (st := s_law_fact) l_law_fact cc_law_fact kk_law_fact) ((fun_mk (st := s_law_fact) l_law_fact cc_law_fact kk_law_fact).binds (ps := ["_law_pot_here", "_law_folk_here", "_law_span"]) fun _ _ _ _ _ _ us hl => match us, hl with | [_, _, _], _ => rfl) (PySem.W.mg_of X G h_m_law_fact) kk_law_fact f_is_list _ (fun_mk (st := s_is_list) l_is_list cc_is_list kk_is_list) ((fun_mk (st := s_is_list) l_is_list cc_is_list kk_is_list).binds (ps := ["value"]) fun _ _ _ _ _ _ us hl => match us, hl with | [_], _ => rfl) (PySem.W.mg_of X G h_m_is_list) kk_is_list f_is_box _ (fun_mk (st := s_is_box) l_is_box cc_is_box kk_is_box) ((fun_mk (st := s_is_box) l_is_box cc_is_box kk_is_box).binds (ps := ["value"]) fun _ _ _ _ _ _ us hl => match us, hl with | [_], _ => rfl) (PySem.W.mg_of X G h_m_is_box) kk_is_box f_want_boxes _ (fun_mk (st := s_want_boxes) l_want_boxes cc_want_boxes kk_want_boxes) ((fun_mk (st := s_want_boxes) l_want_boxes cc_want_boxes kk_want_boxes).binds (ps := ["value"]) fun _ _ _ _ _ _ us hl => match us, hl with | [_], _ => rfl) (PySem.W.mg_of X G h_m_want_boxes) kk_want_boxes f_is_integer _ (fun_mk (st := s_is_integer) l_is_integer cc_is_integer kk_is_integer) ((fun_mk (st := s_is_integer) l_is_integer cc_is_integer kk_is_integer).binds (ps := ["value"]) fun _ _ _ _ _ _ us hl => match us, hl with | [_], _ => rfl) (PySem.W.mg_of X G h_m_is_integer) kk_is_integer f_want_days _ (fun_mk (st := s_want_days) l_want_days cc_want_days kk_want_days) ((fun_mk (st := s_want_days) l_want_days cc_want_days kk_want_days).binds (ps := ["value"]) fun _ _ _ _ _ _ us hl => match us, hl with | [_], _ => rfl) (PySem.W.mg_of X G h_m_want_days) kk_want_days f_is_known _ (fun_mk (st := s_is_known) l_is_known cc_is_known kk_is_known) ((fun_mk (st := s_is_known) l_is_known cc_is_known kk_is_known).binds (ps := ["boxes", "value"]) fun _ _ _ _ _ _ us hl => match us, hl with | [_, _], _ => rfl) (PySem.W.mg_of X G h_m_is_known) kk_is_known f_is_ahead_told _ (fun_mk (st := s_is_ahead_told) l_is_ahead_told cc_is_ahead_told kk_is_ahead_told) ((fun_mk (st := s_is_ahead_told) l_is_ahead_told cc_is_ahead_told kk_is_ahead_told).binds (ps := ["boxes", "rest"]) fun _ _ _ _ _ _ us hl => match us, hl with | [_, _], _ => rfl) (PySem.W.mg_of X G h_m_is_ahead_told) kk_is_ahead_told f_are_days_told _ (fun_mk (st := s_are_days_told) l_are_days_told cc_are_days_told kk_are_days_told) ((fun_mk (st := s_are_days_told) l_are_days_told cc_are_days_told kk_are_days_told).binds (ps := ["boxes", "days", "rest"]) fun _ _ _ _ _ _ us hl => match us, hl with | [_, _, _], _ => rfl) (PySem.W.mg_of X G h_m_are_days_told) kk_are_days_told f_is_count _ (fun_mk (st := s_is_count) l_is_count cc_is_count kk_is_count) ((fun_mk (st := s_is_count) l_is_count cc_is_count kk_is_count).binds (ps := ["value"]) fun _ _ _ _ _ _ us hl => match us, hl with | [_], _ => rfl) (PySem.W.mg_of X G h_m_is_count) kk_is_count f_is_gone_told _ (fun_mk (st := s_is_gone_told) l_is_gone_told cc_is_gone_told kk_is_gone_told) ((fun_mk (st := s_is_gone_told) l_is_gone_told cc_is_gone_told kk_is_gone_told).binds (ps := ["many", "days", "rest"]) fun _ _ _ _ _ _ us hl => match us, hl with | [_, _, _], _ => rfl) (PySem.W.mg_of X G h_m_is_gone_told) kk_is_gone_told f_is_fact _ (fun_mk (st := s_is_fact) l_is_fact cc_is_fact kk_is_fact) ((fun_mk (st := s_is_fact) l_is_fact cc_is_fact kk_is_fact).binds (ps := ["boxes", "days", "value"]) fun _ _ _ _ _ _ us hl => match us, hl with | [_, _, _], _ => rfl) (PySem.W.mg_of X G h_m_is_fact) kk_is_fact f_want_facts _ (fun_mk (st := s_want_facts) l_want_facts cc_want_facts kk_want_facts) ((fun_mk (st := s_want_facts) l_want_facts cc_want_facts kk_want_facts).binds (ps := ["boxes", "days", "value"]) fun _ _ _ _ _ _ us hl => match us, hl with | [_, _, _], _ => rfl) (PySem.W.mg_of X G h_m_want_facts) kk_want_facts f_Yardu_initu _ (fun_mk (st := s_Yardu_initu) l_Yardu_initu cc_Yardu_initu kk_Yardu_initu) ((fun_mk (st := s_Yardu_initu) l_Yardu_initu cc_Yardu_initu kk_Yardu_initu).binds (ps := ["self", "boxes", "days", "facts"]) fun _ _ _ _ _ _ us hl => match us, hl with | [_, _, _, _], _ => rfl) ⟨h_mk_Yard, h_at_Yardu_initu, h_fn_Yardu_initu, h_kc_Yard⟩ f_Yard_facts _ (fun_mk (st := s_Yard_facts) l_Yard_facts cc_Yard_facts kk_Yard_facts) ((fun_mk (st := s_Yard_facts) l_Yard_facts cc_Yard_facts kk_Yard_facts).binds (ps := ["self"]) fun _ _ _ _ _ _ us hl => match us, hl with | [_], _ => rfl) ⟨h_at_Yard_facts, h_fn_Yard_facts, kk_Yard_facts⟩ f_want_number _ (fun_mk (st := s_want_number) l_want_number cc_want_number kk_want_number) ((fun_mk (st := s_want_number) l_want_number cc_want_number kk_want_number).binds (ps := ["yard", "value"]) fun _ _ _ _ _ _ us hl => match us, hl with | [_, _], _ => rfl) (PySem.W.mg_of X G h_m_want_number) kk_want_number f_Yard_days _ (fun_mk (st := s_Yard_days) l_Yard_days cc_Yard_days kk_Yard_days) ((fun_mk (st := s_Yard_days) l_Yard_days cc_Yard_days kk_Yard_days).binds (ps := ["self"]) fun _ _ _ _ _ _ us hl => match us, hl with | [_], _ => rfl) p_Yard_days ⟨hp_at_Yard_days, hp_get_Yard_days, hp_tak_Yard_days, rs_Yard_days, hp_rec_Yard_days⟩ f_Yardu_lenu _ (fun_mk (st := s_Yardu_lenu) l_Yardu_lenu cc_Yardu_lenu kk_Yardu_lenu) ((fun_mk (st := s_Yardu_lenu) l_Yardu_lenu cc_Yardu_lenu kk_Yardu_lenu).binds (ps := ["self"]) fun _ _ _ _ _ _ us hl => match us, hl with | [_], _ => rfl) ⟨h_at_Yardu_lenu, h_fn_Yardu_lenu⟩ f_turns_of _ (fun_mk (st := s_turns_of) l_turns_of cc_turns_of kk_turns_of) ((fun_mk (st := s_turns_of) l_turns_of cc_turns_of kk_turns_of).binds (ps := ["yard", "fact"]) fun _ _ _ _ _ _ us hl => match us, hl with | [_, _], _ => rfl) (PySem.W.mg_of X G h_m_turns_of) kk_turns_of f_turns _ (fun_mk (st := s_turns) l_turns cc_turns kk_turns) ((fun_mk (st := s_turns) l_turns cc_turns kk_turns).binds (ps := ["yard", "number"]) fun _ _ _ _ _ _ us hl => match us, hl with | [_, _], _ => rfl) (PySem.W.mg_of X G h_m_turns) kk_turns f_law_turns _ (fun_mk (st := s_law_turns) l_law_turns cc_law_turns kk_law_turns) ((fun_mk (st := s_law_turns) l_law_turns cc_law_turns kk_law_turns).binds (ps := ["_law_folk_here", "_law_span", "_law_row"]) fun _ _ _ _ _ _ us hl => match us, hl with | [_, _, _], _ => rfl) (PySem.W.mg_of X G h_m_law_turns) kk_law_turns f_Yardu_addu _ (fun_mk (st := s_Yardu_addu) l_Yardu_addu cc_Yardu_addu kk_Yardu_addu) ((fun_mk (st := s_Yardu_addu) l_Yardu_addu cc_Yardu_addu kk_Yardu_addu).binds (ps := ["self", "other"]) fun _ _ _ _ _ _ us hl => match us, hl with | [_, _], _ => rfl) ⟨h_bf_Yard_add_tuple, h_at_Yardu_addu, h_fn_Yardu_addu, ⟨none, h_br_Yard_add_tuple, .inl rfl⟩, ⟨_, h_bo_Yard_add_tuple⟩, ⟨_, h_bp_Yard_add_tuple⟩, h_bs_Yard_add_tuple⟩ f_law_mixed _ (fun_mk (st := s_law_mixed) l_law_mixed cc_law_mixed kk_law_mixed) ((fun_mk (st := s_law_mixed) l_law_mixed cc_law_mixed kk_law_mixed).binds (ps := ["_law_pot_here", "_law_some"]) fun _ _ _ _ _ _ us hl => match us, hl with | [_, _], _ => rfl) (PySem.W.mg_of X G h_m_law_mixed) kk_law_mixed f_law_told _ (fun_mk (st := s_law_told) l_law_told cc_law_told kk_law_told) ((fun_mk (st := s_law_told) l_law_told cc_law_told kk_law_told).binds (ps := ["_law_pot_here", "_law_folk_here", "_law_span"]) fun _ _ _ _ _ _ us hl => match us, hl with | [_, _, _], _ => rfl) (PySem.W.mg_of X G h_m_law_told) kk_law_told f_is_list_of_days _ (fun_mk (st := s_is_list_of_days) l_is_list_of_days cc_is_list_of_days kk_is_list_of_days) ((fun_mk (st := s_is_list_of_days) l_is_list_of_days cc_is_list_of_days kk_is_list_of_days).binds (ps := ["yard", "value"]) fun _ _ _ _ _ _ us hl => match us, hl with | [_, _], _ => rfl) (PySem.W.mg_of X G h_m_is_list_of_days) kk_is_list_of_days f_Yardu_containsu _ (fun_mk (st := s_Yardu_containsu) l_Yardu_containsu cc_Yardu_containsu kk_Yardu_containsu) ((fun_mk (st := s_Yardu_containsu) l_Yardu_containsu cc_Yardu_containsu kk_Yardu_containsu).binds (ps := ["self", "value"]) fun _ _ _ _ _ _ us hl => match us, hl with | [_, _], _ => rfl) ⟨h_at_Yardu_containsu, h_fn_Yardu_containsu⟩ f_first_wrong_day _ (fun_mk (st := s_first_wrong_day) l_first_wrong_day cc_first_wrong_day kk_first_wrong_day) ((fun_mk (st := s_first_wrong_day) l_first_wrong_day cc_first_wrong_day kk_first_wrong_day).binds (ps := ["yard", "value"]) fun _ _ _ _ _ _ us hl => match us, hl with | [_, _], _ => rfl) (PySem.W.mg_of X G h_m_first_wrong_day) kk_first_wrong_day f_want_leaving _ (fun_mk (st := s_want_leaving) l_want_leaving cc_want_leaving kk_want_leaving) ((fun_mk (st := s_want_leaving) l_want_leaving cc_want_leaving kk_want_leaving).binds (ps := ["yard", "value"]) fun _ _ _ _ _ _ us hl => match us, hl with | [_, _], _ => rfl) (PySem.W.mg_of X G h_m_want_leaving) kk_want_leaving f_Yard_boxes _ (fun_mk (st := s_Yard_boxes) l_Yard_boxes cc_Yard_boxes kk_Yard_boxes) ((fun_mk (st := s_Yard_boxes) l_Yard_boxes cc_Yard_boxes kk_Yard_boxes).binds (ps := ["self"]) fun _ _ _ _ _ _ us hl => match us, hl with | [_], _ => rfl) ⟨h_at_Yard_boxes, h_fn_Yard_boxes, kk_Yard_boxes⟩ f_does_hold _ (fun_mk (st := s_does_hold) l_does_hold cc_does_hold kk_does_hold) ((fun_mk (st := s_does_hold) l_does_hold cc_does_hold kk_does_hold).binds (ps := ["leaving", "spots", "fact"]) fun _ _ _ _ _ _ us hl => match us, hl with | [_, _, _], _ => rfl) (PySem.W.mg_of X G h_m_does_hold) kk_does_hold f_spots_in _ (fun_mk (st := s_spots_in) l_spots_in cc_spots_in kk_spots_in) ((fun_mk (st := s_spots_in) l_spots_in cc_spots_in kk_spots_in).binds (ps := ["leaving"]) fun _ _ _ _ _ _ us hl => match us, hl with | [_], _ => rfl) (PySem.W.mg_of X G h_m_spots_in) kk_spots_in f_holds _ (fun_mk (st := s_holds) l_holds cc_holds kk_holds) ((fun_mk (st := s_holds) l_holds cc_holds kk_holds).binds (ps := ["yard", "leaving", "fact"]) fun _ _ _ _ _ _ us hl => match us, hl with | [_, _, _], _ => rfl) (PySem.W.mg_of X G h_m_holds) kk_holds f_Yardu_equ _ (fun_mk (st := s_Yardu_equ) l_Yardu_equ cc_Yardu_equ kk_Yardu_equ) ((fun_mk (st := s_Yardu_equ) l_Yardu_equ cc_Yardu_equ kk_Yardu_equ).binds (ps := ["self", "other"]) fun _ _ _ _ _ _ us hl => match us, hl with | [_, _], _ => rfl) ⟨h_at_Yardu_equ, h_fn_Yardu_equ, sub6 h_sub_Yard_NoneType h_sub_Yard_bool h_sub_Yard_int h_sub_Yard_str h_sub_Yard_list h_sub_Yard_tuple⟩ f_law_right _ (fun_mk (st := s_law_right) l_law_right cc_law_right kk_law_right) ((fun_mk (st := s_law_right) l_law_right cc_law_right kk_law_right).binds (ps := ["_law_pot_here"]) fun _ _ _ _ _ _ us hl => match us, hl with | [_], _ => rfl) (PySem.W.mg_of X G h_m_law_right) kk_law_right f_law_pot _ (fun_mk (st := s_law_pot) l_law_pot cc_law_pot kk_law_pot) ((fun_mk (st := s_law_pot) l_law_pot cc_law_pot kk_law_pot).binds (ps := ["_law_script", "_law_k"]) fun _ _ _ _ _ _ us hl => match us, hl with | [_, _], _ => rfl) (PySem.W.mg_of X G h_m_law_pot) kk_law_pot fa _ (fun_mk (st := s_law) l_law cc_law kk_law) ((fun_mk (st := s_law) l_law cc_law kk_law).binds (ps := ["_law_script"]) fun _ _ _ _ _ _ us hl => match us, hl with | [_], _ => rfl) (PySem.W.mg_of X G h_m_law) kk_law h_na_Yard_own_boxes h_na_Yard_own_days h_na_Yard_own_facts ⟨h_rd_Yard, h_ga_Yard⟩ tv_Yard_MOST_BOXES ⟨h_cv_Yard_MOST_BOXES, ⟨_, rfl⟩⟩ tv_Yard_MOST_FACTS ⟨h_cv_Yard_MOST_FACTS, ⟨_, rfl⟩⟩ ⟨⟨h_pg_Yard, h_hd_Yard, h_po_Yard, h_sa_Yard⟩, h_ic_Yard, h_in_Yard, h_it_Yard, h_im_Yard, kit6 (kitC h_hd_Yard h_ty_Yard h_sub_Yard_NoneType) (kitC h_hd_Yard h_ty_Yard h_sub_Yard_bool) (kitC h_hd_Yard h_ty_Yard h_sub_Yard_int) (kitC h_hd_Yard h_ty_Yard h_sub_Yard_str) (kitC h_hd_Yard h_ty_Yard h_sub_Yard_list) (kitC h_hd_Yard h_ty_Yard h_sub_Yard_tuple)⟩ (kb_of (by decide) fun us ws h1 h2 => match us, ws, h1, h2 with | [], [_, _], _, _ => rfl), rfl, fun s v => .of_eq rfl⟩
end K70
set_option Elab.async false
set_option linter.all false
set_option autoImplicit false
namespace K70
open PySem PySem.Spec PyProof.Rows L2 DL
/-- the law's pot -/
def Pot (d : D) : Prop := ∃ a b : Int, d = .lst [.int a, .int b] ∧ 0 ≤ a ∧ 0 ≤ b ∧ b < 4294967296
theorem integer_int (n : Int) : mir_is_integer [.int n] = .ok (.bl true) [none] := by
  simp [mir_is_integer, mkF_ap, b_is_integer]
theorem draw_ok {d : D} (h : Pot d) {n : Int} (h0 : 0 < n) (h1 : n < 1073741824) : ∃ k d', mir_law_draw [d, .int n] = .ok (.int k) [some d', none] ∧ 0 ≤ k ∧ k < n ∧ Pot d' := by
  obtain ⟨a, b, rfl, ha, hb, hb2⟩ := h
  by_cases hp : 0 < a
  · refine ⟨a % n, .lst [.int (a / n), .int b], ?_, Int.emod_nonneg _ (by omega), Int.emod_lt_of_pos _ h0, a / n, b, rfl, Int.ediv_nonneg ha (by omega), hb, hb2⟩
    simp [mir_law_draw, mkF_ap, b_law_draw, ixD, atI, ixN, hp, divmodD, h0, h1, setIx]
  · have hb3 : 0 ≤ (b * 39979 + 20021) % 2147483587 := Int.emod_nonneg _ (by decide)
    have hb4 : (b * 39979 + 20021) % 2147483587 < 2147483587 := Int.emod_lt_of_pos _ (by decide)
    have hm : (-(2 ^ 64) < b ∧ b < 2 ^ 64) := ⟨by omega, by omega⟩
    generalize hc : (b * 39979 + 20021) % 2147483587 = c at hb3 hb4
    have hm2 : (-(2 ^ 64) < c ∧ c < 2 ^ 64) := ⟨by omega, by omega⟩
    refine ⟨c * c % 2147483549 / 19 % n, .lst [.int a, .int c], ?_, Int.emod_nonneg _ (by omega), Int.emod_lt_of_pos _ h0, a, c, rfl, ha, hb3, by omega⟩
    have m1 : mulI (.int b) (.int 39979) = some (.int (b * 39979)) := by simp only [mulI]; rw [if_pos (.inl hm)]
    have m2 : mulI (.int c) (.int c) = some (.int (c * c)) := by simp only [mulI]; rw [if_pos (.inl hm2)]
    simp [mir_law_draw, mkF_ap, b_law_draw, ixD, atI, ixN, hp, modD, fdivD, setIx, m1, hc, m2, h0]
theorem lenD_lst (xs : List D) : lenD (.lst xs) = some (.int xs.length) := rfl
theorem ix_lst {xs : List D} {k : Int} (h0 : 0 ≤ k) (h1 : k < xs.length) : ∃ x, x ∈ xs ∧ ixD (.lst xs) (.int k) = some x := by
  have hk : k.toNat < xs.length := by omega
  refine ⟨xs[k.toNat], List.getElem_mem hk, ?_⟩
  simp [ixD, atI, ixN, h0, h1]
theorem pick_ok {d : D} (h : Pot d) {xs : List D} (h0 : xs ≠ []) (h1 : xs.length < 1000) : ∃ x d', mir_law_pick [d, .lst xs] = .ok x [some d', none] ∧ x ∈ xs ∧ Pot d' := by
  have hl : 0 < xs.length := List.length_pos_iff.mpr h0
  obtain ⟨k, d', e, k0, k1, p⟩ := draw_ok h (n := xs.length) (by omega) (by omega)
  obtain ⟨x, hx, ex⟩ := ix_lst k0 k1
  refine ⟨x, d', ?_, hx, p⟩
  simp [mir_law_pick, mkF_ap, b_law_pick, lenD_lst, e, ex]
def menu : List Str := ["a", "b", "c", "d", "kk", "zzzzzz", "ab", "ba", "ahead", "days", "gone", "put"]
def strL (bs : List Str) : List D := bs.map D.str
theorem strL_len (bs : List Str) : (strL bs).length = bs.length := by simp [strL]
theorem mem_strL {b : Str} {bs : List Str} : D.str b ∈ strL bs ↔ b ∈ bs := by simp [strL]
theorem menu_ok : ∀ b ∈ menu, PyData.strOk b = true := by decide +kernel
theorem pl_str {n : Nat} {b : Str} (h : PyData.strOk b = true) : pl n (.str b) = true := by cases n <;> simpa [pl] using h
theorem pl_strL {n : Nat} {bs : List Str} (h : ∀ b ∈ bs, b ∈ menu) : plL n (strL bs) = true := by
  rw [plL_all]
  intro x hx
  obtain ⟨b, hb, rfl⟩ := List.mem_map.mp hx
  exact pl_str (menu_ok b (h b hb))
theorem nin_str {x : Str} {bs : List Str} (hx : x ∈ menu) (h : ∀ b ∈ bs, b ∈ menu) : ninD (.str x) (.lst (strL bs)) = some (!decide (x ∈ bs)) := by
  unfold ninD
  rw [inD_lst (pl_str (menu_ok x hx)) (pl_strL h)]
  simp [mem_strL]
theorem filter_strL (p : Str → Bool) (q : D → Bool) (hq : ∀ x, q (.str x) = p x) (bs : List Str) : (strL bs).filter q = strL (bs.filter p) := by
  induction bs with
  | nil => rfl
  | cons b bs ih =>
    have e : strL (b :: bs) = .str b :: strL bs := rfl
    rw [e]
    simp only [List.filter_cons, hq, ih]
    split <;> rfl
def folkB : SS := sDrop (eMeth isLst 4 gAppend (aCons (eCall mir_law_pick [some 0, none] (mMv 0 (aCons (eLc (iE (eVar 3)) [5] (.nm 5) (tView (boolT (e2 (gB ninD) (eVar 5) (eVar 4)))) (eVar 5)) aNil))) aNil))
theorem folk_ok {d : D} (h : Pot d) {n : Int} (h0 : 1 ≤ n) (h1 : n ≤ 6) : ∃ bs d', mir_law_folk [d, .int n] = .ok (.lst (strL bs)) [some d', none] ∧ (bs.length : Int) = n ∧ bs.Nodup ∧ (∀ b ∈ bs, b ∈ menu) ∧ Pot d' := by
  have rg : rg1 [.int n] = some (rngD 0 n) := rg1_int (by simp [okI]; omega)
  have step : ∀ (i : Nat) (x : D) (r : DL.Env), (rngD 0 n)[i]? = some x → (∃ tt bs d', r = [some d', some (.int n), tt, some (.lst (strL menu)), some (.lst (strL bs)), none] ∧ bs.length = i ∧ bs.Nodup ∧ (∀ b ∈ bs, b ∈ menu) ∧ Pot d') →
      ∃ r1 r2, (Tg.nm 2).put x r = some r1 ∧ folkB r1 = .nx r2 ∧ ∃ tt bs d', r2 = [some d', some (.int n), tt, some (.lst (strL menu)), some (.lst (strL bs)), none] ∧ bs.length = i + 1 ∧ bs.Nodup ∧ (∀ b ∈ bs, b ∈ menu) ∧ Pot d' := by
    rintro i x r hx ⟨tt, bs, d', rfl, hl, hn, hm, hp⟩
    obtain ⟨rfl, hi⟩ := rng_get hx
    -- the names that are left
    have comp : lcL (.nm 5) [5] (tView (boolT (e2 (gB ninD) (eVar 5) (eVar 4)))) (eVar 5) (strL menu) [none, some (.int n), some (.int i), some (.lst (strL menu)), some (.lst (strL bs)), none] = .ok (strL (menu.filter fun m => !decide (m ∈ bs))) [none, some (.int n), some (.int i), some (.lst (strL menu)), some (.lst (strL bs)), none] := by
      have z := lcL_pure (t := .nm 5) (vs := [5]) (ts := tView (boolT (e2 (gB ninD) (eVar 5) (eVar 4)))) (f := eVar 5) (r := [none, some (.int n), some (.int i), some (.lst (strL menu)), some (.lst (strL bs)), none]) (fun x => match x with | .str s => !decide (s ∈ bs) | _ => false) id (items := strL menu) fun x hx => by
        obtain ⟨s, hs, rfl⟩ := List.mem_map.mp hx
        exact ⟨[none, some (.int n), some (.int i), some (.lst (strL menu)), some (.lst (strL bs)), some (.str s)], by simp, by simp [nin_str hs hm], by simp, by simp⟩
      rw [z, filter_strL (fun m => !decide (m ∈ bs)) _ (fun _ => rfl)]
      simp
    have ne : strL (menu.filter fun m => !decide (m ∈ bs)) ≠ [] := by
      intro z
      have z : menu.filter (fun m => !decide (m ∈ bs)) = [] := by simpa [strL] using z
      rw [List.filter_eq_nil_iff] at z
      have sub : ∀ m ∈ menu, m ∈ bs := fun m hm => by simpa using z m hm
      have := List.Nodup.length_le_of_subset (l₁ := menu) (l₂ := bs) (by decide +kernel) sub
      have h12 : menu.length = 12 := rfl
      omega
    obtain ⟨x, d2, e1, hx2, p2⟩ := pick_ok hp ne (by rw [strL_len]; exact Nat.lt_of_le_of_lt (List.length_filter_le _ _) (by decide))
    obtain ⟨s, hs, rfl⟩ := List.mem_map.mp hx2
    have hs := List.mem_filter.mp hs
    refine ⟨[some d', some (.int n), some (.int i), some (.lst (strL menu)), some (.lst (strL bs)), none], [some d2, some (.int n), some (.int i), some (.lst (strL menu)), some (.lst (strL (bs ++ [s]))), none], by simp, ?_, some (.int i), bs ++ [s], d2, rfl, by simp [hl], ?_, ?_, p2⟩
    · have hle : (menu.filter fun m => !decide (m ∈ bs)).length ≤ sizeLine := by
        exact Nat.le_trans (List.length_filter_le _ _) (by decide)
      have hle2 : bs.length < sizeLine := Nat.lt_of_lt_of_le (by omega : bs.length < 6) (by decide)
      simp [folkB, eLc_ap, comp, e1, hle, gAppend, strL_len, hle2]
      simp [strL]
    · refine List.nodup_append.mpr ⟨hn, by simp, ?_⟩
      intro a ha b hb e
      have hb : b = s := by simpa using hb
      subst hb e
      simp [ha] at hs
    · intro b hb
      rcases List.mem_append.mp hb with hb | hb
      · exact hm b hb
      · have hb : b = s := by simpa using hb
        subst hb
        exact hs.1
  obtain ⟨r', e, tt, bs, d', er, hl, hn, hm, hp⟩ := forL_inv (t := .nm 2) (body := folkB) (items := rngD 0 n) (r := [some d, some (.int n), none, some (.lst (strL menu)), some (.lst []), none]) _ ⟨none, [], d, rfl, rfl, .nil, by simp, h⟩ step
  rw [rng_len (by omega)] at hl
  refine ⟨bs, d', ?_, by omega, hn, hm, hp⟩
  have el : (List.map D.str menu) = strL menu := rfl
  have e12 : mkLst (strL menu) = some (.lst (strL menu)) := mkLst_le _ (by decide)
  subst er
  have e' : sFor (iRg1 (aCons (eVar 1) aNil)) (.nm 2) folkB [some d, some (.int n), none, some (.lst (strL menu)), some (.lst []), none] = .nx [some d', some (.int n), tt, some (.lst (strL menu)), some (.lst (strL bs)), none] := by
    rw [sFor_ap]
    simp [rg]
    exact e
  have e2 : sTup [3, 4] (aCons (eA mkLst (aCons (eC (.str "a")) (aCons (eC (.str "b")) (aCons (eC (.str "c")) (aCons (eC (.str "d")) (aCons (eC (.str "kk")) (aCons (eC (.str "zzzzzz")) (aCons (eC (.str "ab")) (aCons (eC (.str "ba")) (aCons (eC (.str "ahead")) (aCons (eC (.str "days")) (aCons (eC (.str "gone")) (aCons (eC (.str "put")) aNil))))))))))))) (aCons (eC (.lst [])) aNil)) [some d, some (.int n), none, none, none, none] = .nx [some d, some (.int n), none, some (.lst (strL menu)), some (.lst []), none] := by
    simp [sTup, Tg.putO, mkLst, sizeLine_eq, strL, menu]
  have e3 : b_law_folk [some d, some (.int n), none, none, none, none] = .rt (.lst (strL bs)) [some d', some (.int n), tt, some (.lst (strL menu)), none, none] := by
    unfold b_law_folk
    rw [sSeq_ap, e2, seq_nx, sSeq_ap]
    have e4 := e'
    unfold folkB at e4
    rw [e4]
    simp
  simp [mir_law_folk, mkF_ap]
  rw [e3]
  simp
end K70
set_option Elab.async false
set_option linter.all false
set_option autoImplicit false
namespace K70
open PySem PySem.Spec PyProof.Rows L2 DL
/-- a fact of the yard -/
inductive Fa where
  | ah (a b : Str)
  | dy (a : Str) (f l : Int)
  | gn (k f l : Int)
def Fa.d : Fa → D
  | .ah a b => .tup [.str "ahead", .str a, .str b]
  | .dy a f l => .tup [.str "days", .str a, .int f, .int l]
  | .gn k f l => .tup [.str "gone", .int k, .int f, .int l]
def Fa.ok (bs : List Str) (span : Int) : Fa → Prop
  | .ah a b => a ∈ bs ∧ b ∈ bs ∧ a ≠ b
  | .dy a f l => a ∈ bs ∧ 1 ≤ f ∧ f ≤ l ∧ l ≤ span
  | .gn k f l => 1 ≤ k ∧ k ≤ span ∧ 0 ≤ f ∧ f ≤ l ∧ l ≤ bs.length
def Fa.ts (n span : Int) : Fa → List Fa
  | .ah a b => [.ah b a]
  | .dy a f l => (if 1 < f then [.dy a 1 (f - 1)] else []) ++ (if l < span then [.dy a (l + 1) span] else [])
  | .gn k f l => (if 0 < f then [.gn k 0 (f - 1)] else []) ++ (if l < n then [.gn k (l + 1) n] else [])
structure Bs (bs : List Str) : Prop where
  l1 : 1 ≤ bs.length
  l6 : bs.length ≤ 6
  nd : bs.Nodup
  mn : ∀ b ∈ bs, b ∈ menu
def SomeC (c : List D → D) : Prop := c = .lst ∨ c = .tup
theorem known_ok {c : List D → D} (hc : SomeC c) {bs : List Str} (hm : ∀ b ∈ bs, b ∈ menu) {x : Str} (hx : x ∈ menu) : mir_is_known [c (strL bs), .str x] = .ok (.bl (decide (x ∈ bs))) [none, none] := by
  rcases hc with rfl | rfl
  · simp [mir_is_known, mkF_ap, b_is_known, inD_lst (pl_str (menu_ok x hx)) (pl_strL hm), mem_strL]
  · simp [mir_is_known, mkF_ap, b_is_known, inD_tup (pl_str (menu_ok x hx)) (pl_strL hm), mem_strL]
theorem eqD_str {a b : Str} (ha : PyData.strOk a = true) (hb : PyData.strOk b = true) : eqD (.str a) (.str b) = some (decide (a = b)) := by
  rw [eqD_pl (pl_str ha) (pl_str hb)]
  simp
theorem neD_str {a b : Str} (ha : PyData.strOk a = true) (hb : PyData.strOk b = true) : neD (.str a) (.str b) = some (!decide (a = b)) := by simp [neD, eqD_str ha hb]
theorem neD_int (a b : Int) : neD (.int a) (.int b) = some (!decide (a = b)) := by simp [neD, eqD_int]
theorem ahead_ok {c : List D → D} (hc : SomeC c) {bs : List Str} (hm : ∀ b ∈ bs, b ∈ menu) {a b : Str} (ha : a ∈ bs) (hb : b ∈ bs) (hab : a ≠ b) : mir_is_ahead_told [c (strL bs), .tup [.str a, .str b]] = .ok (.bl true) [none, none] := by
  simp [mir_is_ahead_told, mkF_ap, b_is_ahead_told, eqD_int, ix_tup0, ix_tup1, known_ok hc hm (hm a ha), known_ok hc hm (hm b hb), ha, hb, neD_str (menu_ok a (hm a ha)) (menu_ok b (hm b hb)), hab]
theorem days_ok {c : List D → D} (hc : SomeC c) {bs : List Str} (hm : ∀ b ∈ bs, b ∈ menu) {a : Str} {f l span : Int} (ha : a ∈ bs) (h1 : 1 ≤ f) (h2 : f ≤ l) (h3 : l ≤ span) : mir_are_days_told [c (strL bs), .int span, .tup [.str a, .int f, .int l]] = .ok (.bl true) [none, none, none] := by
  simp [mir_are_days_told, mkF_ap, b_are_days_told, neD_int, ix_tup0, ix_tup1, ix_tup2, known_ok hc hm (hm a ha), ha, integer_int, h1, h2, h3]
theorem count_int {n : Int} (h : 0 ≤ n) : mir_is_count [.int n] = .ok (.bl true) [none] := by
  simp [mir_is_count, mkF_ap, b_is_count, integer_int, h]
theorem gone_ok {many span k f l : Int} (h1 : 1 ≤ k) (h2 : k ≤ span) (h3 : 0 ≤ f) (h4 : f ≤ l) (h5 : l ≤ many) : mir_is_gone_told [.int many, .int span, .tup [.int k, .int f, .int l]] = .ok (.bl true) [none, none, none] := by
  have h6 : 0 ≤ k := by omega
  have h7 : 0 ≤ l := by omega
  have h8 : 3 ≤ sizeLine := by decide
  simp [mir_is_gone_told, mkF_ap, b_is_gone_told, neD_int, ix_tup0, ix_tup1, ix_tup2, eLc_ap, lcL, count_int h3, count_int h6, count_int h7, h8, h1, h2, h4, h5, allD, boolsD]
theorem k_ahead : PyData.strOk "ahead" = true := by decide +kernel
theorem k_days : PyData.strOk "days" = true := by decide +kernel
theorem k_gone : PyData.strOk "gone" = true := by decide +kernel
theorem ad : ("ahead" : Str) = "days" ↔ False := by decide +kernel
theorem ag : ("ahead" : Str) = "gone" ↔ False := by decide +kernel
theorem da : ("days" : Str) = "ahead" ↔ False := by decide +kernel
theorem dg : ("days" : Str) = "gone" ↔ False := by decide +kernel
theorem ga : ("gone" : Str) = "ahead" ↔ False := by decide +kernel
theorem gd : ("gone" : Str) = "days" ↔ False := by decide +kernel
theorem cut1 (x : D) (xs : List D) : cutD (x :: xs) (some 1) none = xs := by
  have := cut_from (xs := x :: xs) (n := 1) (by simp)
  simpa using this
theorem lenC {c : List D → D} (hc : SomeC c) (xs : List D) : lenD (c xs) = some (.int xs.length) := by rcases hc with rfl | rfl <;> rfl
theorem fact_is {c : List D → D} (hc : SomeC c) {bs : List Str} (hm : ∀ b ∈ bs, b ∈ menu) {span : Int} {f : Fa} (h : f.ok bs span) : mir_is_fact [c (strL bs), .int span, f.d] = .ok (.bl true) [none, none, none] := by
  cases f with
  | ah a b =>
    obtain ⟨h1, h2, h3⟩ := h
    simp [mir_is_fact, mkF_ap, b_is_fact, Fa.d, eqD_int, ix_tup0, eqD_str k_ahead k_ahead, cut1, ahead_ok hc hm h1 h2 h3]
  | dy a f l =>
    obtain ⟨h1, h2, h3, h4⟩ := h
    simp [mir_is_fact, mkF_ap, b_is_fact, Fa.d, eqD_int, ix_tup0, eqD_str k_days k_ahead, eqD_str k_days k_days, da, cut1, days_ok hc hm h1 h2 h3 h4]
  | gn k f l =>
    obtain ⟨h1, h2, h3, h4, h5⟩ := h
    simp [mir_is_fact, mkF_ap, b_is_fact, Fa.d, eqD_int, ix_tup0, eqD_str k_gone k_ahead, eqD_str k_gone k_days, eqD_str k_gone k_gone, gd, ga, cut1, lenC hc, strL_len, gone_ok h1 h2 h3 h4 h5]
theorem ts_ok {bs : List Str} {span : Int} {f : Fa} (h : f.ok bs span) {g : Fa} (hg : g ∈ f.ts bs.length span) : g.ok bs span := by
  cases f with
  | ah a b =>
    simp [Fa.ts] at hg
    subst hg
    exact ⟨h.2.1, h.1, fun e => h.2.2 e.symm⟩
  | dy a f l =>
    obtain ⟨h1, h2, h3, h4⟩ := h
    simp only [Fa.ts, List.mem_append] at hg
    rcases hg with hg | hg <;> split at hg <;> simp at hg <;> subst hg <;> exact ⟨h1, by omega, by omega, by omega⟩
  | gn k f l =>
    obtain ⟨h1, h2, h3, h4, h5⟩ := h
    simp only [Fa.ts, List.mem_append] at hg
    rcases hg with hg | hg <;> split at hg <;> simp at hg <;> subst hg <;> exact ⟨h1, h2, by omega, by omega, by omega⟩
theorem ix_str {bs : List Str} {k : Int} (h0 : 0 ≤ k) (h1 : k < bs.length) : ∃ b, b ∈ bs ∧ bs[k.toNat]? = some b ∧ ixD (.lst (strL bs)) (.int k) = some (.str b) := by
  have hk : k.toNat < bs.length := by omega
  refine ⟨bs[k.toNat], List.getElem_mem hk, by simp [hk], ?_⟩
  simp [ixD, atI, ixN, h0, h1, strL, hk]
theorem law_fact_ok {d : D} (h : Pot d) {bs : List Str} (hb : Bs bs) {span : Int} (s1 : 1 ≤ span) (s9 : span ≤ 9) : ∃ f d', mir_law_fact [d, .lst (strL bs), .int span] = .ok (Fa.d f) [some d', none, none] ∧ f.ok bs span ∧ Pot d' := by
  have l1 := hb.l1
  have l6 := hb.l6
  obtain ⟨w, d1, e1, w0, w5, p1⟩ := draw_ok h (n := 5) (by omega) (by omega)
  have h3 : 3 ≤ sizeLine := by decide
  have h4 : 4 ≤ sizeLine := by decide
  by_cases c1 : w < 2 ∧ (1 : Int) < bs.length
  · obtain ⟨a, d2, e2, a0, an, p2⟩ := draw_ok p1 (n := bs.length) (by omega) (by omega)
    obtain ⟨b, d3, e3, b0, bn, p3⟩ := draw_ok p2 (n := bs.length - 1) (by omega) (by omega)
    obtain ⟨x, hx, gx, ex⟩ := ix_str (bs := bs) a0 an
    have m0 : 0 ≤ (a + 1 + b) % bs.length := Int.emod_nonneg _ (by omega)
    have mn : (a + 1 + b) % bs.length < bs.length := Int.emod_lt_of_pos _ (by omega)
    obtain ⟨y, hy, gy, ey⟩ := ix_str (bs := bs) m0 mn
    refine ⟨.ah x y, d3, ?_, ⟨hx, hy, ?_⟩, p3⟩
    · have nz : 0 < bs.length := by omega
      simp [mir_law_fact, mkF_ap, b_law_fact, e1, c1.1, c1.2, strL_len, e2, e3, ex, ey, modD, h3, Fa.d, nz]
    · intro e
      have e' : a.toNat = ((a + 1 + b) % bs.length).toNat := by
        refine (List.getElem?_inj (l := bs) (by omega) hb.nd).mp ?_
        rw [gx, gy, e]
      have e'' : a = (a + 1 + b) % bs.length := by omega
      have := Int.emod_add_mul_ediv (a + 1 + b) bs.length
      generalize hq : (a + 1 + b) / (bs.length : Int) = q at this
      rw [← e''] at this
      have h5 : (bs.length : Int) * q = 1 + b := by omega
      rcases Int.lt_or_le q 1 with h6 | h6
      · have : (bs.length : Int) * q ≤ 0 := Int.mul_nonpos_of_nonneg_of_nonpos (by omega) (by omega)
        omega
      · have : (bs.length : Int) * 1 ≤ bs.length * q := Int.mul_le_mul_of_nonneg_left h6 (by omega)
        omega
  · by_cases c2 : w < 4
    · obtain ⟨a, d2, e2, a0, an, p2⟩ := draw_ok p1 (n := span) (by omega) (by omega)
      obtain ⟨x, d3, e3, hx, p3⟩ := pick_ok p2 (xs := strL bs) (by intro z; simp [strL] at z; subst z; simp at l1) (by rw [strL_len]; omega)
      obtain ⟨x, hx2, rfl⟩ := List.mem_map.mp hx
      obtain ⟨b, d4, e4, b0, bn, p4⟩ := draw_ok p3 (n := span - (1 + a) + 1) (by omega) (by omega)
      refine ⟨.dy x (1 + a) (1 + a + b), d4, ?_, ⟨hx2, by omega, by omega, by omega⟩, p4⟩
      by_cases c3 : w < 2
      · have c4 : ¬ ((1 : Int) < bs.length) := fun z => c1 ⟨c3, z⟩
        simp [mir_law_fact, mkF_ap, b_law_fact, e1, c3, c4, strL_len, e2, e3, e4, h4, Fa.d, c2]
      · simp [mir_law_fact, mkF_ap, b_law_fact, e1, c3, strL_len, e2, e3, e4, h4, Fa.d, c2]
    · obtain ⟨a, d2, e2, a0, an, p2⟩ := draw_ok p1 (n := bs.length + 1) (by omega) (by omega)
      obtain ⟨b, d3, e3, b0, bn, p3⟩ := draw_ok p2 (n := span) (by omega) (by omega)
      obtain ⟨x, d4, e4, x0, xn, p4⟩ := draw_ok p3 (n := bs.length - a + 1) (by omega) (by omega)
      refine ⟨.gn (1 + b) a (a + x), d4, ?_, ⟨by omega, by omega, by omega, by omega, by omega⟩, p4⟩
      by_cases c3 : w < 2
      · have c4 : ¬ ((1 : Int) < bs.length) := fun z => c1 ⟨c3, z⟩
        simp [mir_law_fact, mkF_ap, b_law_fact, e1, c3, c4, strL_len, e2, e3, e4, h4, Fa.d, c2]
      · simp [mir_law_fact, mkF_ap, b_law_fact, e1, c3, strL_len, e2, e3, e4, h4, Fa.d, c2]
end K70
set_option Elab.async false
set_option linter.all false
set_option autoImplicit false
namespace K70
open PySem PySem.Spec PyProof.Rows L2 DL
def isT1 : Out → Bool
  | .ok (.bl true) [none] => true
  | _ => false
theorem isT1_eq {o : Out} (h : isT1 o = true) : o = .ok (.bl true) [none] := by
  unfold isT1 at h
  split at h
  · rfl
  · simp at h
theorem box_ok : ∀ b ∈ menu, mir_is_box [.str b] = .ok (.bl true) [none] := fun b hb => isT1_eq ((by decide +kernel : ∀ b ∈ menu, isT1 (mir_is_box [.str b]) = true) b hb)
theorem list_ok {c : List D → D} (hc : SomeC c) (xs : List D) : mir_is_list [c xs] = .ok (.bl true) [none] := by
  rcases hc with rfl | rfl <;> simp [mir_is_list, mkF_ap, b_is_list]
theorem enAC {c : List D → D} (hc : SomeC c) (n : Int) (xs : List D) : enA n [c xs] = some (enD n xs) := by rcases hc with rfl | rfl <;> rfl
theorem slC {c : List D → D} (hc : SomeC c) (xs : List D) (lo hi : Option Int) : slD (c xs) lo hi = some (c (cutD xs lo hi)) := by rcases hc with rfl | rfl <;> rfl
theorem inC_str {c : List D → D} (hc : SomeC c) {x : Str} {bs : List Str} (hx : x ∈ menu) (h : ∀ b ∈ bs, b ∈ menu) : inD (.str x) (c (strL bs)) = some (decide (x ∈ bs)) := by
  rcases hc with rfl | rfl
  · simp [inD_lst (pl_str (menu_ok x hx)) (pl_strL h), mem_strL]
  · simp [inD_tup (pl_str (menu_ok x hx)) (pl_strL h), mem_strL]
theorem strL_get {bs : List Str} {i : Nat} {x : D} (h : (strL bs)[i]? = some x) : ∃ b, bs[i]? = some b ∧ x = .str b := by
  unfold strL at h
  rw [List.getElem?_map, Option.map_eq_some_iff] at h
  obtain ⟨b, h1, h2⟩ := h
  exact ⟨b, h1, h2.symm⟩
theorem boxes_ok {c : List D → D} (hc : SomeC c) {bs : List Str} (hb : Bs bs) : mir_want_boxes [c (strL bs)] = .ok .non [none] := by
  have l1 := hb.l1
  have l6 := hb.l6
  have l1' : (1 : Int) ≤ bs.length := by omega
  have l10 : (bs.length : Int) ≤ 10 := by omega
  simp [mir_want_boxes, mkF_ap, b_want_boxes, list_ok hc, lenC hc, strL_len, l1, l10, l1', sFor_ap, enAC hc]
  obtain ⟨r', e, a, b, er⟩ := forL_inv (t := .tp [.nm 1, .nm 2]) (items := enD 0 (strL bs)) (body := sIf (tOr (tNot (tE (eCall mir_is_box [none] (aCons (eVar 2) aNil)))) (boolT (e2 (gB inD) (eVar 2) (eSl (eVar 0) oNone (oInt (eVar 1)))))) sStk sNx) (r := [some (c (strL bs)), none, none]) (fun _ r => ∃ a b, r = [some (c (strL bs)), a, b]) ⟨none, none, rfl⟩ (by
    rintro i x r hx ⟨a, b, rfl⟩
    obtain ⟨y, hy, rfl⟩ := en_get hx
    obtain ⟨s, hs, rfl⟩ := strL_get hy
    obtain ⟨hi, hs'⟩ := List.getElem?_eq_some_iff.mp hs
    have mb : s ∈ bs := List.mem_of_getElem? hs
    refine ⟨[some (c (strL bs)), some (.int i), some (.str s)], [some (c (strL bs)), some (.int i), some (.str s)], by simp, ?_, some (.int i), some (.str s), rfl⟩
    have ct : cutD (strL bs) none (some (i : Int)) = strL (bs.take i) := by
      rw [cut_to (by rw [strL_len]; omega)]
      simp [strL, List.map_take]
    have nin : ¬ s ∈ bs.take i := by
      intro z
      obtain ⟨j, hj, ej⟩ := List.getElem_of_mem z
      rw [List.length_take] at hj
      have := (List.getElem?_inj (l := bs) (i := j) (j := i) (by omega) hb.nd).mp (by rw [hs]; rw [List.getElem_take] at ej; rw [List.getElem?_eq_getElem (by omega)]; exact congrArg some ej)
      omega
    have sub : ∀ b ∈ bs.take i, b ∈ menu := fun b hx => hb.mn b (List.mem_of_mem_take hx)
    simp [box_ok s (hb.mn s mb), slC hc, ct, inC_str hc (hb.mn s mb) sub, nin])
  rw [e, er]
  simp
theorem wdays_ok {n : Int} (h1 : 1 ≤ n) (h9 : n ≤ 9) : mir_want_days [.int n] = .ok .non [none] := by
  simp [mir_want_days, mkF_ap, b_want_days, integer_int, h1, h9]
def faL (fs : List Fa) : List D := fs.map Fa.d
theorem faL_get {bs : List Fa} {i : Nat} {x : D} (h : (faL bs)[i]? = some x) : ∃ b, bs[i]? = some b ∧ x = b.d := by
  unfold faL at h
  rw [List.getElem?_map, Option.map_eq_some_iff] at h
  obtain ⟨b, h1, h2⟩ := h
  exact ⟨b, h1, h2.symm⟩
theorem faL_len (fs : List Fa) : (faL fs).length = fs.length := by simp [faL]
theorem facts_ok {c e : List D → D} (hc : SomeC c) (he : SomeC e) {bs : List Str} (hm : ∀ b ∈ bs, b ∈ menu) {span : Int} {fs : List Fa} (hf : ∀ f ∈ fs, f.ok bs span) : mir_want_facts [c (strL bs), .int span, e (faL fs)] = .ok .non [none, none, none] := by
  simp [mir_want_facts, mkF_ap, b_want_facts, list_ok he, sFor_ap, enAC he]
  obtain ⟨r', e, a, b, er⟩ := forL_inv (t := .tp [.nm 3, .nm 4]) (items := enD 0 (faL fs)) (body := sIf (tNot (tE (eCall mir_is_fact [none, none, none] (aCons (eVar 0) (aCons (eVar 1) (aCons (eVar 4) aNil)))))) sStk sNx) (r := [some (c (strL bs)), some (.int span), some (e (faL fs)), none, none]) (fun _ r => ∃ a b, r = [some (c (strL bs)), some (.int span), some (e (faL fs)), a, b]) ⟨none, none, rfl⟩ (by
    rintro i x r hx ⟨a, b, rfl⟩
    obtain ⟨y, hy, rfl⟩ := en_get hx
    obtain ⟨f, hs, rfl⟩ := faL_get hy
    refine ⟨[some (c (strL bs)), some (.int span), some (e (faL fs)), some (.int i), some f.d], [some (c (strL bs)), some (.int span), some (e (faL fs)), some (.int i), some f.d], by simp, ?_, some (.int i), some f.d, rfl⟩
    simp [fact_is hc hm (hf f (List.mem_of_getElem? hs))])
  rw [e, er]
  simp
def Yd (bs : List Str) (span : Int) (fs : List Fa) : D := .ins "Yard" [("own_boxes", .tup (strL bs)), ("own_days", .int span), ("own_facts", .tup (faL fs))]
theorem n1 : ("own_boxes" : Str) = "own_days" ↔ False := by decide +kernel
theorem n2 : ("own_boxes" : Str) = "own_facts" ↔ False := by decide +kernel
theorem n3 : ("own_days" : Str) = "own_facts" ↔ False := by decide +kernel
theorem n4 : ("own_days" : Str) = "own_boxes" ↔ False := by decide +kernel
theorem n5 : ("own_facts" : Str) = "own_boxes" ↔ False := by decide +kernel
theorem n6 : ("own_facts" : Str) = "own_days" ↔ False := by decide +kernel
theorem init_ok {c e : List D → D} (hc : SomeC c) (he : SomeC e) {bs : List Str} (hb : Bs bs) {span : Int} (s1 : 1 ≤ span) (s9 : span ≤ 9) {fs : List Fa} (hf : ∀ f ∈ fs, f.ok bs span) (hl : fs.length ≤ 40) : mir_Yardu_initu [.ins "Yard" [], c (strL bs), .int span, e (faL fs)] = .ok .non [some (Yd bs span fs), none, none, none] := by
  have hl' : ¬ ((40 : Int) < fs.length) := by omega
  have t1 : tupleD (c (strL bs)) = some (.tup (strL bs)) := by rcases hc with rfl | rfl <;> rfl
  have t2 : tupleD (e (faL fs)) = some (.tup (faL fs)) := by rcases he with rfl | rfl <;> rfl
  simp [mir_Yardu_initu, mkF_ap, b_Yardu_initu, boxes_ok hc hb, wdays_ok s1 s9, facts_ok hc he hb.mn hf, lenC he, faL_len, hl', t1, t2, putFD, n1, n2, n3, Yd]
@[simp] theorem f_boxes (bs : List Str) (span : Int) (fs : List Fa) : fldD "Yard" "own_boxes" (Yd bs span fs) = some (.tup (strL bs)) := by simp [Yd, lkF_cons]
@[simp] theorem f_days (bs : List Str) (span : Int) (fs : List Fa) : fldD "Yard" "own_days" (Yd bs span fs) = some (.int span) := by simp [Yd, lkF_cons, n4]
@[simp] theorem f_facts (bs : List Str) (span : Int) (fs : List Fa) : fldD "Yard" "own_facts" (Yd bs span fs) = some (.tup (faL fs)) := by simp [Yd, lkF_cons, n5, n6]
theorem yfacts (bs : List Str) (span : Int) (fs : List Fa) : mir_Yard_facts [Yd bs span fs] = .ok (.lst (faL fs)) [none] := by simp [mir_Yard_facts, mkF_ap, b_Yard_facts]
theorem ydays (bs : List Str) (span : Int) (fs : List Fa) : mir_Yard_days [Yd bs span fs] = .ok (.int span) [none] := by simp [mir_Yard_days, mkF_ap, b_Yard_days]
theorem yboxes (bs : List Str) (span : Int) (fs : List Fa) : mir_Yard_boxes [Yd bs span fs] = .ok (.lst (strL bs)) [none] := by simp [mir_Yard_boxes, mkF_ap, b_Yard_boxes]
theorem ylen (bs : List Str) (span : Int) (fs : List Fa) : mir_Yardu_lenu [Yd bs span fs] = .ok (.int bs.length) [none] := by simp [mir_Yardu_lenu, mkF_ap, b_Yardu_lenu, strL_len]
theorem yin {bs : List Str} (span : Int) (fs : List Fa) (hm : ∀ b ∈ bs, b ∈ menu) {x : Str} (hx : x ∈ menu) : mir_Yardu_containsu [Yd bs span fs, .str x] = .ok (.bl (decide (x ∈ bs))) [none, none] := by simp [mir_Yardu_containsu, mkF_ap, b_Yardu_containsu, known_ok (.inr rfl) hm hx]
theorem m1 : ("facts" : Str) = "own_boxes" ↔ False := by decide +kernel
theorem m2 : ("facts" : Str) = "own_days" ↔ False := by decide +kernel
theorem m3 : ("facts" : Str) = "own_facts" ↔ False := by decide +kernel
theorem m4 : ("boxes" : Str) = "own_boxes" ↔ False := by decide +kernel
theorem m5 : ("boxes" : Str) = "own_days" ↔ False := by decide +kernel
theorem m6 : ("boxes" : Str) = "own_facts" ↔ False := by decide +kernel
@[simp] theorem e_facts (bs : List Str) (span : Int) (fs : List Fa) (r : DL.Env) : methX "Yard" "facts" 1 mir_Yard_facts aNil (Yd bs span fs) r = .ok (.lst (faL fs)) r := by
  have := yfacts bs span fs
  unfold Yd at this ⊢
  simp [methX_ins, lkF_cons, m1, m2, m3, this]
@[simp] theorem e_boxes (bs : List Str) (span : Int) (fs : List Fa) (r : DL.Env) : methX "Yard" "boxes" 1 mir_Yard_boxes aNil (Yd bs span fs) r = .ok (.lst (strL bs)) r := by
  have := yboxes bs span fs
  unfold Yd at this ⊢
  simp [methX_ins, lkF_cons, m4, m5, m6, this]
@[simp] theorem e_days (bs : List Str) (span : Int) (fs : List Fa) (r : DL.Env) : propX "Yard" mir_Yard_days (Yd bs span fs) r = .ok (.int span) r := by
  have := ydays bs span fs
  unfold Yd at this ⊢
  simp [propX_ins, this]
theorem e_len {bs : List Str} (hb : bs.length ≤ 6) (span : Int) (fs : List Fa) (r : DL.Env) : lenX "Yard" mir_Yardu_lenu (Yd bs span fs) r = .ok (.int bs.length) r := by
  have := ylen bs span fs
  unfold Yd at this ⊢
  exact lenX_ins this (Nat.le_trans hb (by decide))
@[simp] theorem e_call (bs : List Str) (span : Int) (fs : List Fa) (mir : List D → Out) (x : D) (r : DL.Env) : callI "Yard" mir (Yd bs span fs) x r = mirOk mir [Yd bs span fs, x] r := by
  unfold Yd
  rw [callI_ins]
@[simp] theorem e_okEq (bs : List Str) (span : Int) (fs : List Fa) : okEq "Yard" (Yd bs span fs) = true := by
  unfold Yd
  rw [okEq_ins]
theorem e_make {c e : List D → D} (hc : SomeC c) (he : SomeC e) {bs : List Str} (hb : Bs bs) {span : Int} (s1 : 1 ≤ span) (s9 : span ≤ 9) {fs : List Fa} (hf : ∀ f ∈ fs, f.ok bs span) (hl : fs.length ≤ 40) {k : SA} {r r1 : DL.Env} (h : k r = .ok [c (strL bs), .int span, e (faL fs)] r1) : eMake "Yard" 3 mir_Yardu_initu k r = .ok (Yd bs span fs) r1 := by
  simp [h, init_ok hc he hb s1 s9 hf hl]
theorem add_ok {bs : List Str} (hb : Bs bs) {span : Int} (s1 : 1 ≤ span) (s9 : span ≤ 9) {fs : List Fa} (hf : ∀ f ∈ fs, f.ok bs span) (hl : fs.length < 40) {g : Fa} (hg : g.ok bs span) : mir_Yardu_addu [Yd bs span fs, g.d] = .ok (Yd bs span (fs ++ [g])) [none, none] := by
  have hf' : ∀ f ∈ fs ++ [g], f.ok bs span := by
    intro f h
    rcases List.mem_append.mp h with h | h
    · exact hf f h
    · rw [List.mem_singleton.mp h]; exact hg
  have ef : faL fs ++ [g.d] = faL (fs ++ [g]) := by simp [faL]
  have sz : fs.length + 1 ≤ sizeLine := small_le (by omega)
  have := init_ok (c := .tup) (e := .tup) (.inr rfl) (.inr rfl) hb s1 s9 hf' (by simp; omega)
  simp [mir_Yardu_addu, mkF_ap, b_Yardu_addu, fact_is (.inr rfl) hb.mn hg, faL_len, sz, ef, this]
theorem pl_fa {bs : List Str} (hm : ∀ b ∈ bs, b ∈ menu) {span : Int} {f : Fa} (h : f.ok bs span) (n : Nat) : pl (n + 2) f.d = true := by
  cases f with
  | ah a b => simp [Fa.d, pl, plL, k_ahead, menu_ok a (hm a h.1), menu_ok b (hm b h.2.1)]
  | dy a f l => simp [Fa.d, pl, plL, k_days, menu_ok a (hm a h.1)]
  | gn k f l => simp [Fa.d, pl, plL, k_gone]
theorem pl_faL {bs : List Str} (hm : ∀ b ∈ bs, b ∈ menu) {span : Int} {fs : List Fa} (hf : ∀ f ∈ fs, f.ok bs span) (n : Nat) : plL (n + 2) (faL fs) = true := by
  rw [plL_all]
  intro x hx
  obtain ⟨f, h, rfl⟩ := List.mem_map.mp hx
  exact pl_fa hm (hf f h) n
theorem eq_ok {bs : List Str} (hm : ∀ b ∈ bs, b ∈ menu) {span : Int} {fs : List Fa} (hf : ∀ f ∈ fs, f.ok bs span) : mir_Yardu_equ [Yd bs span fs, Yd bs span fs] = .ok (.bl true) [none, none] := by
  have i1 : isiOD "Yard" (Yd bs span fs) = some (.bl true) := by simp [Yd]
  have p1 : pl 60 (.tup (strL bs)) = true := by simp [pl, pl_strL hm]
  have p2 : pl 60 (.tup (faL fs)) = true := by simp [pl, pl_faL hm hf 57]
  simp [mir_Yardu_equ, mkF_ap, b_Yardu_equ, i1, neD, eqD_pl p1 p1, eqD_pl p2 p2, eqD_int]
theorem number_ok (bs : List Str) (span : Int) (fs : List Fa) {k : Nat} (hk : k < fs.length) : mir_want_number [Yd bs span fs, .int k] = .ok .non [none, none] := by
  have h1 : ¬ fs.length ≤ k := by omega
  simp [mir_want_number, mkF_ap, b_want_number, count_int (n := (k : Int)) (by omega), faL_len, h1]
theorem turns_of_ah {bs : List Str} {span : Int} {fs : List Fa} (a b : Str) : mir_turns_of [Yd bs span fs, Fa.d (.ah a b)] = .ok (.lst (faL (Fa.ts bs.length span (.ah a b)))) [none, none] := by
  simp [mir_turns_of, mkF_ap, b_turns_of, Fa.d, Fa.ts, faL, ix_tup0, ix_tup1, ix_tup2, eqD_str k_ahead k_ahead, sizeLine_eq]
theorem turns_of_dy {bs : List Str} {span : Int} {fs : List Fa} (a : Str) (f l : Int) : mir_turns_of [Yd bs span fs, Fa.d (.dy a f l)] = .ok (.lst (faL (Fa.ts bs.length span (.dy a f l)))) [none, none] := by
  by_cases c1 : 1 < f <;> by_cases c2 : l < span
  · simp [mir_turns_of, mkF_ap, b_turns_of, Fa.d, Fa.ts, faL, ix_tup0, ix_tup1, ix_tup2, eqD_str k_days k_ahead, eqD_str k_days k_days, da, sizeLine_eq, c1, c2, gAppend]
  · simp [mir_turns_of, mkF_ap, b_turns_of, Fa.d, Fa.ts, faL, ix_tup0, ix_tup1, ix_tup2, eqD_str k_days k_ahead, eqD_str k_days k_days, da, sizeLine_eq, c1, c2, gAppend]
  · simp [mir_turns_of, mkF_ap, b_turns_of, Fa.d, Fa.ts, faL, ix_tup0, ix_tup1, ix_tup2, eqD_str k_days k_ahead, eqD_str k_days k_days, da, sizeLine_eq, c1, c2, gAppend]
  · simp [mir_turns_of, mkF_ap, b_turns_of, Fa.d, Fa.ts, faL, ix_tup0, ix_tup1, ix_tup2, eqD_str k_days k_ahead, eqD_str k_days k_days, da, sizeLine_eq, c1, c2, gAppend]
theorem e_lenV {bs : List Str} (hb : bs.length ≤ 6) (span : Int) (fs : List Fa) (r : DL.Env) : eLenI "Yard" mir_Yardu_lenu (eVar 0) (some (Yd bs span fs) :: r) = .ok (.int bs.length) (some (Yd bs span fs) :: r) := by
  rw [eLenI_ap, show eVar 0 (some (Yd bs span fs) :: r) = .ok (Yd bs span fs) (some (Yd bs span fs) :: r) from rfl, bind_ok]
  exact e_len hb span fs _
theorem turns_of_gn {bs : List Str} (h6 : bs.length ≤ 6) {span : Int} {fs : List Fa} (k f l : Int) : mir_turns_of [Yd bs span fs, Fa.d (.gn k f l)] = .ok (.lst (faL (Fa.ts bs.length span (.gn k f l)))) [none, none] := by
  unfold mir_turns_of b_turns_of
  have e := fun r => e_lenV h6 span fs r
  generalize eLenI "Yard" mir_Yardu_lenu (eVar 0) = g at e ⊢
  by_cases c1 : 0 < f <;> by_cases c2 : l < bs.length
  · simp [mkF_ap, Fa.d, Fa.ts, faL, ix_tup0, ix_tup1, ix_tup2, eqD_str k_gone k_ahead, eqD_str k_gone k_days, ga, gd, sizeLine_eq, e, c1, c2, gAppend]
  · simp [mkF_ap, Fa.d, Fa.ts, faL, ix_tup0, ix_tup1, ix_tup2, eqD_str k_gone k_ahead, eqD_str k_gone k_days, ga, gd, sizeLine_eq, e, c1, c2, gAppend]
  · simp [mkF_ap, Fa.d, Fa.ts, faL, ix_tup0, ix_tup1, ix_tup2, eqD_str k_gone k_ahead, eqD_str k_gone k_days, ga, gd, sizeLine_eq, e, c1, c2, gAppend]
  · simp [mkF_ap, Fa.d, Fa.ts, faL, ix_tup0, ix_tup1, ix_tup2, eqD_str k_gone k_ahead, eqD_str k_gone k_days, ga, gd, sizeLine_eq, e, c1, c2, gAppend]
theorem turns_of_ok {bs : List Str} (hb : Bs bs) {span : Int} {fs : List Fa} {f : Fa} (h : f.ok bs span) : mir_turns_of [Yd bs span fs, f.d] = .ok (.lst (faL (f.ts bs.length span))) [none, none] := by
  cases f with
  | ah a b => exact turns_of_ah a b
  | dy a f l => exact turns_of_dy a f l
  | gn k f l => exact turns_of_gn hb.l6 k f l
theorem turns_ok {bs : List Str} (hb : Bs bs) {span : Int} {fs : List Fa} {k : Nat} {f : Fa} (hk : fs[k]? = some f) (h : f.ok bs span) : mir_turns [Yd bs span fs, .int k] = .ok (.lst (faL (f.ts bs.length span))) [none, none] := by
  have hl : k < fs.length := (List.getElem?_eq_some_iff.mp hk).1
  have e : ixD (.lst (faL fs)) (.int k) = some f.d := by
    rw [ix_lstG (by rw [faL_len]; exact hl)]
    have := (List.getElem?_eq_some_iff.mp hk).2
    simp [faL, this]
  simp [mir_turns, mkF_ap, b_turns, number_ok bs span fs hl, e, turns_of_ok hb h]
theorem law_turns_ok {bs : List Str} {span : Int} {f : Fa} (h : f.ok bs span) : mir_law_turns [.lst (strL bs), .int span, f.d] = .ok (.lst (faL (f.ts bs.length span))) [none, none, none] := by
  have h1 : 1 ≤ sizeLine := by decide
  have h2 : 2 ≤ sizeLine := by decide
  have h3 : 3 ≤ sizeLine := by decide
  have h4 : 4 ≤ sizeLine := by decide
  have h5 : 0 ≤ sizeLine := by decide
  cases f with
  | ah a b => simp [mir_law_turns, mkF_ap, b_law_turns, Fa.d, Fa.ts, faL, ix_tup0, ix_tup1, ix_tup2, eqD_str k_ahead k_ahead, h1, h3]
  | dy a f l =>
    by_cases c1 : 1 < f <;> by_cases c2 : l < span
    · have c3 : 1 ≤ f - 1 := by omega
      have c4 : l + 1 ≤ span := by omega
      simp [mir_law_turns, mkF_ap, b_law_turns, Fa.d, Fa.ts, faL, ix_tup0, ix_tup1, ix_tup2, ix_tup3, eqD_str k_days k_ahead, eqD_str k_days k_days, da, h1, h2, h3, h4, h5, c1, c2, c3, c4, eLc_ap, lcL]
    · have c3 : 1 ≤ f - 1 := by omega
      have c4 : ¬ l + 1 ≤ span := by omega
      simp [mir_law_turns, mkF_ap, b_law_turns, Fa.d, Fa.ts, faL, ix_tup0, ix_tup1, ix_tup2, ix_tup3, eqD_str k_days k_ahead, eqD_str k_days k_days, da, h1, h2, h3, h4, h5, c1, c2, c3, c4, eLc_ap, lcL]
    · have c3 : ¬ 1 ≤ f - 1 := by omega
      have c4 : l + 1 ≤ span := by omega
      simp [mir_law_turns, mkF_ap, b_law_turns, Fa.d, Fa.ts, faL, ix_tup0, ix_tup1, ix_tup2, ix_tup3, eqD_str k_days k_ahead, eqD_str k_days k_days, da, h1, h2, h3, h4, h5, c1, c2, c3, c4, eLc_ap, lcL]
    · have c3 : ¬ 1 ≤ f - 1 := by omega
      have c4 : ¬ l + 1 ≤ span := by omega
      simp [mir_law_turns, mkF_ap, b_law_turns, Fa.d, Fa.ts, faL, ix_tup0, ix_tup1, ix_tup2, ix_tup3, eqD_str k_days k_ahead, eqD_str k_days k_days, da, h1, h2, h3, h4, h5, c1, c2, c3, c4, eLc_ap, lcL]
  | gn k f l =>
    by_cases c1 : 0 < f <;> by_cases c2 : l < bs.length
    · have c3 : 1 ≤ f := by omega
      have c4 : l + 1 ≤ bs.length := by omega
      simp [mir_law_turns, mkF_ap, b_law_turns, Fa.d, Fa.ts, faL, ix_tup0, ix_tup1, ix_tup2, ix_tup3, eqD_str k_gone k_ahead, eqD_str k_gone k_days, gd, ga, h1, h2, h3, h4, h5, c1, c2, c3, c4, strL_len, eLc_ap, lcL]
    · have c3 : 1 ≤ f := by omega
      have c4 : ¬ l + 1 ≤ bs.length := by omega
      simp [mir_law_turns, mkF_ap, b_law_turns, Fa.d, Fa.ts, faL, ix_tup0, ix_tup1, ix_tup2, ix_tup3, eqD_str k_gone k_ahead, eqD_str k_gone k_days, gd, ga, h1, h2, h3, h4, h5, c1, c2, c3, c4, strL_len, eLc_ap, lcL]
    · have c3 : ¬ 1 ≤ f := by omega
      have c4 : l + 1 ≤ bs.length := by omega
      simp [mir_law_turns, mkF_ap, b_law_turns, Fa.d, Fa.ts, faL, ix_tup0, ix_tup1, ix_tup2, ix_tup3, eqD_str k_gone k_ahead, eqD_str k_gone k_days, gd, ga, h1, h2, h3, h4, h5, c1, c2, c3, c4, strL_len, eLc_ap, lcL]
    · have c3 : ¬ 1 ≤ f := by omega
      have c4 : ¬ l + 1 ≤ bs.length := by omega
      simp [mir_law_turns, mkF_ap, b_law_turns, Fa.d, Fa.ts, faL, ix_tup0, ix_tup1, ix_tup2, ix_tup3, eqD_str k_gone k_ahead, eqD_str k_gone k_days, gd, ga, h1, h2, h3, h4, h5, c1, c2, c3, c4, strL_len, eLc_ap, lcL]
end K70
set_option Elab.async false
set_option linter.all false
set_option autoImplicit false
namespace K70
open PySem PySem.Spec PyProof.Rows L2 DL
theorem erase_strL (xs : List Str) (i : Nat) : (strL xs).eraseIdx i = strL (xs.eraseIdx i) := by
  simp [strL, List.eraseIdx_eq_take_drop_succ, List.map_take, List.map_drop]
theorem erase_perm {α : Type} {xs : List α} {i : Nat} (h : i < xs.length) : (xs[i] :: xs.eraseIdx i).Perm xs := by
  have e : xs.take i ++ xs[i] :: xs.drop (i + 1) = xs := by
    rw [List.getElem_cons_drop, List.take_append_drop]
  rw [List.eraseIdx_eq_take_drop_succ]
  exact List.perm_middle.symm.trans (.of_eq e)
theorem mixed_ok {d : D} (h : Pot d) {bs : List Str} (hb : bs.length < 1000) : ∃ ms d', mir_law_mixed [d, .lst (strL bs)] = .ok (.lst (strL ms)) [some d', none] ∧ ms.Perm bs ∧ Pot d' := by
  have rg : rg1 [.int (bs.length : Int)] = some (rngD 0 bs.length) := rg1_int (by simp [okI]; omega)
  obtain ⟨xs, r', e, ms, rest, d', er, ex, hp, hl, p'⟩ := lcL_inv (t := .nm 3) (vs := [3]) (ts := tYesD) (f := eMeth isLst 2 gPopAt (aCons (eCall mir_law_draw [some 0, none] (mMv 0 (aCons (eView (eA (g1 lenD) (aCons (eVar 2) aNil))) aNil))) aNil)) (items := rngD 0 bs.length) (r := [some d, some (.lst (strL bs)), some (.lst (strL bs)), none]) (fun i acc r => ∃ ms rest d', r = [some d', some (.lst (strL bs)), some (.lst (strL rest)), none] ∧ acc = strL ms ∧ (ms ++ rest).Perm bs ∧ rest.length + i = bs.length ∧ Pot d') [] ⟨[], bs, d, rfl, rfl, .refl _, rfl, h⟩ (by
    rintro i x acc r hx ⟨ms, rest, d', rfl, rfl, hp, hl, hpot⟩
    obtain ⟨rfl, hi⟩ := rng_get hx
    obtain ⟨k, d2, e1, k0, k1, p2⟩ := draw_ok hpot (n := rest.length) (by omega) (by omega)
    have hk : k.toNat < rest.length := by omega
    refine ⟨[some d', some (.lst (strL bs)), some (.lst (strL rest)), some (.int i)], by simp, .inr ⟨[some d', some (.lst (strL bs)), some (.lst (strL rest)), some (.int i)], .str rest[k.toNat], [some d2, some (.lst (strL bs)), some (.lst (strL (rest.eraseIdx k.toNat))), some (.int i)], by simp, ?_, ms ++ [rest[k.toNat]], rest.eraseIdx k.toNat, d2, by simp, by simp [strL], ?_, ?_, p2⟩⟩
    · have er := erase_strL rest k.toNat
      have hg : (strL rest)[k.toNat]? = some (.str rest[k.toNat]) := by simp [strL, hk]
      have hix : ixN rest.length k = some k.toNat := by simp [ixN, k0, k1]
      simp [strL_len, e1, gPopAt, hix, hg, er]
    · rw [List.append_assoc]
      refine List.Perm.trans (List.Perm.append_left ms ?_) hp
      exact erase_perm hk
    · rw [List.length_eraseIdx_of_lt hk]
      omega)
  rw [rng_len (by omega)] at hl
  have hr : rest = [] := List.eq_nil_of_length_eq_zero (by omega)
  subst hr er
  simp at ex hp
  refine ⟨ms, d', ?_, hp, p'⟩
  have hs : ms.length ≤ sizeLine := by rw [hp.length_eq]; exact small_le (by omega)
  subst ex
  simp [mir_law_mixed, mkF_ap, b_law_mixed, strL_len, eLc_ap, rg, e, hs]
/-- the leaving, as the law tells it -/
def lvD (lvs : List (List Str)) : D := .lst (lvs.map fun l => .lst (strL l))
theorem part_perm {n : Nat} {zs : List (Str × Int)} (h : ∀ z ∈ zs, 1 ≤ z.2 ∧ z.2 ≤ n) : ((List.range n).flatMap fun (k : Nat) => (zs.filter fun z => decide (z.2 = (k : Int) + 1)).map (·.1)).Perm (zs.map (·.1)) := by
  have key : ∀ m : Nat, ((List.range m).flatMap fun (k : Nat) => (zs.filter fun z => decide (z.2 = (k : Int) + 1)).map (·.1)).Perm ((zs.filter fun z => decide (z.2 ≤ (m : Int))).map (·.1)) := by
    intro m
    induction m with
    | zero =>
      have : zs.filter (fun z => decide (z.2 ≤ ((0 : Nat) : Int))) = [] := by
        rw [List.filter_eq_nil_iff]
        intro z hz
        have := (h z hz).1
        simp
        omega
      rw [this]
      exact .refl _
    | succ m ih =>
      rw [List.range_succ, List.flatMap_append]
      simp only [List.flatMap_cons, List.flatMap_nil, List.append_nil]
      refine List.Perm.trans (List.Perm.append_right _ ih) ?_
      rw [← List.map_append]
      refine List.Perm.map _ ?_
      have e1 : zs.filter (fun z => decide (z.2 ≤ (m : Int))) = (zs.filter fun z => decide (z.2 ≤ ((m + 1 : Nat) : Int))).filter (fun z => decide (z.2 ≤ (m : Int))) := by
        rw [List.filter_filter]
        refine List.filter_congr fun z _ => ?_
        rw [Bool.eq_iff_iff]
        simp
        omega
      have e2 : zs.filter (fun z => decide (z.2 = (m : Int) + 1)) = (zs.filter fun z => decide (z.2 ≤ ((m + 1 : Nat) : Int))).filter (fun z => !decide (z.2 ≤ (m : Int))) := by
        rw [List.filter_filter]
        refine List.filter_congr fun z _ => ?_
        rw [Bool.eq_iff_iff]
        simp
        omega
      rw [e1, e2]
      exact List.filter_append_perm _ _
  refine (key n).trans ?_
  have : zs.filter (fun z => decide (z.2 ≤ (n : Int))) = zs := by
    rw [List.filter_eq_self]
    intro z hz
    simpa using (h z hz).2
  rw [this]
structure Lv (bs : List Str) (span : Int) (lvs : List (List Str)) : Prop where
  ln : (lvs.length : Int) = span
  pm : lvs.flatten.Perm bs
end K70
set_option Elab.async false
set_option linter.all false
set_option autoImplicit false
namespace K70
open PySem PySem.Spec PyProof.Rows L2 DL
/-- the days that the law draws -/
theorem when_ok {span : Int} (s1 : 1 ≤ span) (s9 : span ≤ 9) {a c e : Option D} {d : D} (h : Pot d) (bs : List Str) : ∃ ws : List Int, ∃ d', lcL (.nm 6) [6] tYesD (e2 addD (eC (.int 1)) (eCall mir_law_draw [some 0, none] (mMv 0 (aCons (eVar 2) aNil)))) (strL bs) [some d, a, some (.int span), c, e, none, none, none] = .ok (ws.map D.int) [some d', a, some (.int span), c, e, none, none, none] ∧ ws.length = bs.length ∧ (∀ w ∈ ws, 1 ≤ w ∧ w ≤ span) ∧ Pot d' := by
  obtain ⟨xs, r', e1, ws, d', er, ex, hl, hw, p'⟩ := lcL_inv (t := .nm 6) (vs := [6]) (ts := tYesD) (f := e2 addD (eC (.int 1)) (eCall mir_law_draw [some 0, none] (mMv 0 (aCons (eVar 2) aNil)))) (items := strL bs) (r := [some d, a, some (.int span), c, e, none, none, none]) (fun i acc r => ∃ ws : List Int, ∃ d', r = [some d', a, some (.int span), c, e, none, none, none] ∧ acc = ws.map D.int ∧ ws.length = i ∧ (∀ w ∈ ws, 1 ≤ w ∧ w ≤ span) ∧ Pot d') [] ⟨[], d, rfl, rfl, rfl, by simp, h⟩ (by
    rintro i x acc r hx ⟨ws, d', rfl, rfl, hl, hw, hpot⟩
    obtain ⟨k, d2, e1, k0, k1, p2⟩ := draw_ok hpot (n := span) (by omega) (by omega)
    refine ⟨[some d', a, some (.int span), c, e, none, some x, none], by simp, .inr ⟨[some d', a, some (.int span), c, e, none, some x, none], .int (1 + k), [some d2, a, some (.int span), c, e, none, some x, none], by simp, by simp [e1], ws ++ [1 + k], d2, by simp, by simp, by simp [hl], ?_, p2⟩⟩
    intro w hw2
    rcases List.mem_append.mp hw2 with h | h
    · exact hw w h
    · rw [List.mem_singleton.mp h]
      omega)
  subst er
  simp at ex
  subst ex
  exact ⟨ws, d', e1, by rw [hl, strL_len], hw, p'⟩
def dayL (zs : List (Str × Int)) (k : Nat) : List Str := (zs.filter fun z => decide (z.2 = (k : Int) + 1)).map (·.1)
def zsD (ls : List Str) (ws : List Int) : List D := (ls.zip ws).map fun z => .tup [.str z.1, .int z.2]
theorem zpA_ok (ls : List Str) (ws : List Int) : zpA [.lst (strL ls), .lst (ws.map D.int)] = some (zsD ls ws) := by
  simp [zpA, strL, zsD, List.zip_map, Function.comp_def]
theorem day_ok (zs : List (Str × Int)) (k : Nat) {x0 x1 x2 x3 x4 : Option D} : lcL (.tp [.nm 6, .nm 7]) [6, 7] (boolT (e2 (gB eqD) (eVar 7) (e2 addD (eVar 5) (eC (.int 1))))) (eVar 6) (zs.map fun z => .tup [.str z.1, .int z.2]) [x0, x1, x2, x3, x4, some (.int k), none, none] = .ok (strL (dayL zs k)) [x0, x1, x2, x3, x4, some (.int k), none, none] := by
  have z := lcL_pure (t := .tp [.nm 6, .nm 7]) (vs := [6, 7]) (ts := boolT (e2 (gB eqD) (eVar 7) (e2 addD (eVar 5) (eC (.int 1))))) (f := eVar 6) (r := [x0, x1, x2, x3, x4, some (.int k), none, none]) (fun x => match x with | .tup [_, .int w] => decide (w = (k : Int) + 1) | _ => false) (fun x => match x with | .tup [s, _] => s | _ => .non) (items := zs.map fun z => .tup [.str z.1, .int z.2]) fun x hx => by
    obtain ⟨s, hs, rfl⟩ := List.mem_map.mp hx
    exact ⟨[x0, x1, x2, x3, x4, some (.int k), some (.str s.1), some (.int s.2)], by simp, by simp [eqD_int], by simp, by simp⟩
  rw [z, List.filter_map, List.map_map]
  simp [dayL, strL, Function.comp_def]
theorem told_ok {d : D} (h : Pot d) {bs : List Str} (hb : Bs bs) {span : Int} (s1 : 1 ≤ span) (s9 : span ≤ 9) : ∃ lvs d', mir_law_told [d, .lst (strL bs), .int span] = .ok (lvD lvs) [some d', none, none] ∧ Lv bs span lvs ∧ Pot d' := by
  have l6 := hb.l6
  obtain ⟨ms, d1, e1, pm, p1⟩ := mixed_ok h (bs := bs) (by omega)
  obtain ⟨ws, d2, e2, lw, hw, p2⟩ := when_ok s1 s9 (a := some (.lst (strL bs))) (c := none) (e := none) p1 bs
  have lm : ms.length = bs.length := pm.length_eq
  have lz : ms.length = (sortI ws).length := by rw [(sortI_perm ws).length_eq, lm, lw]
  let zs := ms.zip (sortI ws)
  have hz : ∀ z ∈ zs, 1 ≤ z.2 ∧ z.2 ≤ (span.toNat : Int) := by
    intro z hz
    have := hw z.2 ((sortI_perm ws).mem_iff.mp (List.of_mem_zip hz).2)
    omega
  have ez : zs.map (·.1) = ms := by
    show (ms.zip (sortI ws)).map Prod.fst = ms
    rw [List.map_fst_zip]
    omega
  have hlen : zs.length ≤ 6 := by
    rw [← List.length_map (f := Prod.fst)]
    show (zs.map (·.1)).length ≤ 6
    rw [ez]
    omega
  have pp := part_perm hz
  rw [ez] at pp
  refine ⟨(List.range span.toNat).map (dayL zs), d2, ?_, ⟨by simp; omega, ?_⟩, p2⟩
  · have rg : rg1 [.int span] = some (rngD 0 span) := rg1_int (by simp [okI]; omega)
    have il : intsD (ws.map D.int) = some ws := by
      have := intsD_map (fun x : Int => x) ws
      simpa using this
    have sz : (strL bs).length ≤ sizeLine := by rw [strL_len]; exact small_le (by omega)
    have szw : (ws.map D.int).length ≤ sizeLine := by rw [List.length_map, lw]; exact small_le (by omega)
    have out := lcL_map (t := .nm 5) (vs := [5]) (f := eLc (iZp (aCons (eVar 3) (aCons (eVar 4) aNil))) [6, 7] (.tp [.nm 6, .nm 7]) (boolT (DL.e2 (gB eqD) (eVar 7) (DL.e2 addD (eVar 5) (eC (.int 1))))) (eVar 6)) (r := [some d2, some (.lst (strL bs)), some (.int span), some (.lst (strL ms)), some (.lst ((sortI ws).map D.int)), none, none, none]) (items := rngD 0 span) (fun x => match x with | .int k => .lst (strL (dayL zs k.toNat)) | _ => .non) fun x hx => by
      obtain ⟨i, hi⟩ := List.getElem?_of_mem hx
      obtain ⟨rfl, hi⟩ := rng_get hi
      have sd : (dayL zs i).length ≤ sizeLine := small_le (Nat.le_trans (by rw [dayL, List.length_map]; exact List.length_filter_le _ _) (by omega))
      refine ⟨[some d2, some (.lst (strL bs)), some (.int span), some (.lst (strL ms)), some (.lst ((sortI ws).map D.int)), some (.int i), none, none], [some d2, some (.lst (strL bs)), some (.int span), some (.lst (strL ms)), some (.lst ((sortI ws).map D.int)), some (.int i), none, none], by simp, ?_, by simp⟩
      have dk := day_ok zs i (x0 := some d2) (x1 := some (.lst (strL bs))) (x2 := some (.int span)) (x3 := some (.lst (strL ms))) (x4 := some (.lst ((sortI ws).map D.int)))
      simp [eLc_ap, zpA_ok, zsD]
      rw [dk]
      simp [strL_len, sd]
    have el : (rngD 0 span).map (fun x => match x with | .int k => D.lst (strL (dayL zs k.toNat)) | _ => .non) = ((List.range span.toNat).map (dayL zs)).map fun l => .lst (strL l) := by
      simp [rngD, Function.comp_def]
    have sl : ((rngD 0 span).map (fun x => match x with | .int k => D.lst (strL (dayL zs k.toNat)) | _ => .non)).length ≤ sizeLine := by
      rw [List.length_map, rng_len (by omega)]
      exact small_le (by omega)
    rw [lvD, ← el]
    simp only [strL_len] at sz
    have h2 : 2 ≤ sizeLine := by decide
    simp [mir_law_told, mkF_ap, b_law_told, e1, h2, sTup, Tg.putO, eLc_ap, e2, lw, sz, sortID, il, rg]
    rw [out]
    simp at sl
    simp [sl]
  · rw [List.flatMap_def] at pp
    exact pp.trans pm
end K70
set_option Elab.async false
set_option linter.all false
set_option autoImplicit false
namespace K70
open PySem PySem.Spec PyProof.Rows L2 DL
def lvL (lvs : List (List Str)) : List D := lvs.map fun l => .lst (strL l)
theorem lvL_len (lvs : List (List Str)) : (lvL lvs).length = lvs.length := by simp [lvL]
theorem lv_eq (lvs : List (List Str)) : lvD lvs = .lst (lvL lvs) := rfl
theorem boolsD_true : ∀ n : Nat, boolsD (List.replicate n (.bl true)) = some (List.replicate n true)
  | 0 => rfl
  | n + 1 => by simp [List.replicate_succ, boolsD, boolsD_true n]
theorem lod_ok {bs : List Str} {span : Int} (s9 : span ≤ 9) (fs : List Fa) {lvs : List (List Str)} (h : Lv bs span lvs) : mir_is_list_of_days [Yd bs span fs, lvD lvs] = .ok (.bl true) [none, none] := by
  have hl := h.ln
  have z := lcL_map (t := .nm 2) (vs := [2]) (f := eCall mir_is_list [none] (aCons (eVar 2) aNil)) (r := [some (Yd bs span fs), some (.lst (lvL lvs)), none]) (items := lvL lvs) (fun _ => .bl true) fun x hx => by
    obtain ⟨l, hl, rfl⟩ := List.mem_map.mp hx
    exact ⟨[some (Yd bs span fs), some (.lst (lvL lvs)), some (.lst (strL l))], [some (Yd bs span fs), some (.lst (lvL lvs)), some (.lst (strL l))], by simp, by simp [list_ok (.inl rfl)], by simp⟩
  have sz : lvs.length ≤ sizeLine := small_le (by omega)
  have em : (lvL lvs).map (fun _ => D.bl true) = List.replicate lvs.length (.bl true) := by
    rw [List.map_const', lvL_len]
  rw [em] at z
  simp [mir_is_list_of_days, mkF_ap, b_is_list_of_days, lv_eq, list_ok (.inl rfl), lvL_len, eqD_int, hl, eLc_ap, z, sz, allD, boolsD_true]
theorem lvL_get {lvs : List (List Str)} {i : Nat} {x : D} (h : (lvL lvs)[i]? = some x) : ∃ l, lvs[i]? = some l ∧ x = .lst (strL l) := by
  unfold lvL at h
  rw [List.getElem?_map, Option.map_eq_some_iff] at h
  obtain ⟨b, h1, h2⟩ := h
  exact ⟨b, h1, h2.symm⟩
theorem flat_take {α : Type} {ls : List (List α)} {i : Nat} {l : List α} (h : ls[i]? = some l) : (ls.take (i + 1)).flatten = (ls.take i).flatten ++ l := by
  rw [List.take_add_one, h]
  simp
theorem take_snoc {α : Type} {l : List α} {j : Nat} {x : α} (h : l[j]? = some x) : l.take (j + 1) = l.take j ++ [x] := by
  rw [List.take_add_one, h]
  simp
theorem flat_sub {α : Type} {ls : List (List α)} {i j : Nat} {l : List α} {x : α} (h : ls[i]? = some l) (hx : l[j]? = some x) (nd : ls.flatten.Nodup) : x ∉ (ls.take i).flatten ++ l.take j := by
  have e : ls.flatten = ((ls.take i).flatten ++ l.take j) ++ (x :: (l.drop (j + 1) ++ (ls.drop (i + 1)).flatten)) := by
    obtain ⟨hi, ei⟩ := List.getElem?_eq_some_iff.mp h
    obtain ⟨hj, ej⟩ := List.getElem?_eq_some_iff.mp hx
    have e1 : ls = ls.take i ++ l :: ls.drop (i + 1) := by
      rw [← ei, List.getElem_cons_drop, List.take_append_drop]
    have e2 : l = l.take j ++ x :: l.drop (j + 1) := by
      rw [← ej, List.getElem_cons_drop, List.take_append_drop]
    have e3 : ls.flatten = (ls.take i).flatten ++ (l ++ (ls.drop (i + 1)).flatten) := by
      conv => lhs; rw [e1]
      simp
    rw [e3]
    conv => lhs; rw [e2]
    simp
  intro z
  rw [e] at nd
  exact (List.nodup_append.mp nd).2.2 x z x List.mem_cons_self rfl
def wrongB : SS := sSeq (sIf (tOr (boolT (eInI true "Yard" mir_Yardu_containsu (eVar 5) (eVar 0))) (tView (boolT (e2 (gB inD) (eVar 5) (eVar 2))))) (sRet (eVar 3)) sNx) (sDrop (eMeth isLst 2 gAppend (aCons (eVar 5) aNil)))
theorem isLstL (xs : List D) : isLst (.lst xs) = true := rfl
theorem wrong_day {bs : List Str} (hb : Bs bs) {span : Int} (fs : List Fa) {lvs : List (List Str)} (h : Lv bs span lvs) {i : Nat} {l : List Str} (hi : lvs[i]? = some l) (c : Option D) :
    ∃ c', forL (.nm 5) wrongB (strL l) [some (Yd bs span fs), some (lvD lvs), some (.lst (strL (lvs.take i).flatten)), some (.int i), some (.lst (strL l)), c] = .nx [some (Yd bs span fs), some (lvD lvs), some (.lst (strL (lvs.take (i + 1)).flatten)), some (.int i), some (.lst (strL l)), c'] := by
  have nd : lvs.flatten.Nodup := h.pm.nodup_iff.mpr hb.nd
  have l6 := hb.l6
  have fl : lvs.flatten.length = bs.length := h.pm.length_eq
  have sub : ∀ x ∈ (lvs.take (i + 1)).flatten, x ∈ lvs.flatten := by
    intro x hx
    obtain ⟨l, hl, hx⟩ := List.mem_flatten.mp hx
    exact List.mem_flatten.mpr ⟨l, List.mem_of_mem_take hl, hx⟩
  obtain ⟨r', e, c', er⟩ := forL_inv (t := .nm 5) (body := wrongB) (items := strL l) (r := [some (Yd bs span fs), some (lvD lvs), some (.lst (strL (lvs.take i).flatten)), some (.int i), some (.lst (strL l)), c]) (fun j r => ∃ c, r = [some (Yd bs span fs), some (lvD lvs), some (.lst (strL ((lvs.take i).flatten ++ l.take j))), some (.int i), some (.lst (strL l)), c]) ⟨c, by simp⟩ (by
    rintro j x r hx ⟨c, rfl⟩
    obtain ⟨s, hs, rfl⟩ := strL_get hx
    have nin := flat_sub hi hs nd
    have sl : s ∈ l := List.mem_of_getElem? hs
    have sf : s ∈ lvs.flatten := List.mem_flatten.mpr ⟨l, List.mem_of_getElem? hi, sl⟩
    have sb : s ∈ bs := h.pm.mem_iff.mp sf
    have mm : ∀ b ∈ (lvs.take i).flatten ++ l.take j, b ∈ menu := by
      intro b hb2
      refine hb.mn b (h.pm.mem_iff.mp ?_)
      rcases List.mem_append.mp hb2 with h1 | h1
      · obtain ⟨l', hl, hx⟩ := List.mem_flatten.mp h1
        exact List.mem_flatten.mpr ⟨l', List.mem_of_mem_take hl, hx⟩
      · exact List.mem_flatten.mpr ⟨l, List.mem_of_getElem? hi, List.mem_of_mem_take h1⟩
    have ln : ((lvs.take i).flatten ++ l.take j).length < sizeLine := by
      refine Nat.lt_of_le_of_lt (m := 6) ?_ (by decide)
      have h1 : ((lvs.take i).flatten ++ l.take j).Sublist ((lvs.take i).flatten ++ l) := List.Sublist.append_left (List.take_sublist j l) _
      have h2 : (lvs.take (i + 1)).flatten ++ (lvs.drop (i + 1)).flatten = lvs.flatten := by rw [← List.flatten_append, List.take_append_drop]
      have h3 := congrArg List.length h2
      rw [flat_take hi, List.length_append] at h3
      have := h1.length_le
      omega
    refine ⟨[some (Yd bs span fs), some (lvD lvs), some (.lst (strL ((lvs.take i).flatten ++ l.take j))), some (.int i), some (.lst (strL l)), some (.str s)], [some (Yd bs span fs), some (lvD lvs), some (.lst (strL ((lvs.take i).flatten ++ l.take (j + 1)))), some (.int i), some (.lst (strL l)), some (.str s)], by simp, ?_, some (.str s), rfl⟩
    have e1 := yin span fs hb.mn (hb.mn s sb)
    have e2 := inC_str (c := .lst) (.inl rfl) (hb.mn s sb) mm
    rw [take_snoc hs, ← List.append_assoc]
    generalize hG : (lvs.take i).flatten ++ l.take j = G at nin mm ln e2 ⊢
    have sG : strL (G ++ [s]) = strL G ++ [.str s] := by simp [strL]
    rw [sG]
    simp [wrongB, e1, sb, e2, nin, gAppend, strL_len, ln])
  refine ⟨c', ?_⟩
  rw [e, er, flat_take hi, strL_len]
  simp
theorem wrong_ok {bs : List Str} (hb : Bs bs) {span : Int} (fs : List Fa) {lvs : List (List Str)} (h : Lv bs span lvs) : mir_first_wrong_day [Yd bs span fs, lvD lvs] = .ok .non [none, none] := by
  obtain ⟨r', e, a, b, c, er⟩ := forL_inv (t := .tp [.nm 3, .nm 4]) (body := sFor (iE (eVar 4)) (.nm 5) wrongB) (items := enD 0 (lvL lvs)) (r := [some (Yd bs span fs), some (lvD lvs), some (.lst []), none, none, none]) (fun i r => ∃ a b c, r = [some (Yd bs span fs), some (lvD lvs), some (.lst (strL (lvs.take i).flatten)), a, b, c]) ⟨none, none, none, rfl⟩ (by
    rintro i x r hx ⟨a, b, c, rfl⟩
    obtain ⟨y, hy, rfl⟩ := en_get hx
    obtain ⟨l, hl, rfl⟩ := lvL_get hy
    obtain ⟨c', e⟩ := wrong_day hb fs h hl c
    refine ⟨[some (Yd bs span fs), some (lvD lvs), some (.lst (strL (lvs.take i).flatten)), some (.int i), some (.lst (strL l)), c], [some (Yd bs span fs), some (lvD lvs), some (.lst (strL (lvs.take (i + 1)).flatten)), some (.int i), some (.lst (strL l)), c'], by simp, ?_, some (.int i), some (.lst (strL l)), c', rfl⟩
    rw [sFor_ap]
    simp [e])
  have fl : lvs.flatten.length = bs.length := h.pm.length_eq
  unfold mir_first_wrong_day b_first_wrong_day
  have e2 := fun r => e_lenV hb.l6 span fs r
  generalize eLenI "Yard" mir_Yardu_lenu (eVar 0) = g at e2 ⊢
  have e3 := e
  unfold wrongB at e3
  rw [er, en_len, lvL_len, List.take_length] at e3
  simp [mkF_ap, sFor_ap, lv_eq] at e3 ⊢
  rw [e3]
  simp [e2, strL_len, fl, eqD_int]
theorem leaving_ok {bs : List Str} (hb : Bs bs) {span : Int} (s9 : span ≤ 9) (fs : List Fa) {lvs : List (List Str)} (h : Lv bs span lvs) : mir_want_leaving [Yd bs span fs, lvD lvs] = .ok .non [none, none] := by
  simp [mir_want_leaving, mkF_ap, b_want_leaving, lod_ok s9 fs h, wrong_ok hb fs h, isNND, isND]
end K70
set_option Elab.async false
set_option linter.all false
set_option autoImplicit false
namespace K70
open PySem PySem.Spec PyProof.Rows L2 DL
/-- where a box lies: its name, its day, its place -/
def enS (es : List (Str × Int × Int)) : List (D × D) := es.map fun e => (.str e.1, .tup [.int e.2.1, .int e.2.2])
theorem keyB_str (a b : Str) : keyB (.str a) (.str b) = decide (a = b) := by
  simp only [keyB]
  rw [Bool.eq_iff_iff]
  simp
theorem put_new {es : List (Str × Int × Int)} {x : Str} {i j : Int} (h : x ∉ es.map (·.1)) : putD (enS es) (.str x) (.tup [.int i, .int j]) = enS (es ++ [(x, i, j)]) := by
  have : ((enS es).any fun p => keyB p.1 (.str x)) = false := by
    rw [List.any_eq_false]
    intro p hp
    obtain ⟨e, he, rfl⟩ := List.mem_map.mp hp
    rw [keyB_str]
    simp
    rintro rfl
    exact h (List.mem_map.mpr ⟨e, he, rfl⟩)
  unfold putD
  rw [this]
  simp [enS]
theorem merge_new : ∀ {ms es : List (Str × Int × Int)}, (es.map (·.1) ++ ms.map (·.1)).Nodup → mergeD (enS es) (enS ms) = enS (es ++ ms)
  | [], es, _ => by simp [mergeD, enS]
  | m :: ms, es, h => by
    have nin : m.1 ∉ es.map (·.1) := fun z => (List.nodup_append.mp h).2.2 _ z _ (by simp) rfl
    have e1 : mergeD (enS es) (enS (m :: ms)) = mergeD (putD (enS es) (.str m.1) (.tup [.int m.2.1, .int m.2.2])) (enS ms) := rfl
    rw [e1, put_new nin, merge_new (es := es ++ [(m.1, m.2.1, m.2.2)]) (by simpa using h)]
    simp
def dayE (day : Int) (l : List Str) : List (Str × Int × Int) := l.mapIdx fun p x => (x, day, (p : Int))
theorem dayE_names (day : Int) (l : List Str) : (dayE day l).map (·.1) = l := by
  apply List.ext_getElem?
  intro i
  simp [dayE, List.getElem?_mapIdx]
  cases l[i]? <;> rfl
theorem dayE_len (day : Int) (l : List Str) : (dayE day l).length = l.length := by simp [dayE]
theorem dayE_take {day : Int} {l : List Str} {i : Nat} {s : Str} (h : l[i]? = some s) : (dayE day l).take (i + 1) = (dayE day l).take i ++ [(s, day, (i : Int))] := by
  refine take_snoc ?_
  simp [dayE, List.getElem?_mapIdx, h]
theorem dcL_ok {day : Int} {l : List Str} (nd : l.Nodup) (hl : l.length < 1000) {r0 r1 r2 : Option D} : dcL (.tp [.nm 4, .nm 5]) [4, 5] tYesD (eVar 5) (eA mkTup (aCons (eVar 2) (aCons (eVar 4) aNil))) (enD 0 (strL l)) [] [r0, r1, some (.int day), r2, none, none] = .ok (enS (dayE day l)) [r0, r1, some (.int day), r2, none, none] := by
  have key : ∀ (n i : Nat), i + n = l.length → dcL (.tp [.nm 4, .nm 5]) [4, 5] tYesD (eVar 5) (eA mkTup (aCons (eVar 2) (aCons (eVar 4) aNil))) ((enD 0 (strL l)).drop i) (enS ((dayE day l).take i)) [r0, r1, some (.int day), r2, none, none] = .ok (enS (dayE day l)) [r0, r1, some (.int day), r2, none, none] := by
    intro n
    induction n with
    | zero =>
      intro i hi
      rw [List.drop_of_length_le (by rw [en_len, strL_len]; omega), List.take_of_length_le (by rw [dayE_len]; omega)]
      rfl
    | succ n ih =>
      intro i hi
      have hlt : i < l.length := by omega
      obtain ⟨s, hs⟩ : ∃ s, l[i]? = some s := ⟨l[i], by simp [hlt]⟩
      have he : (enD 0 (strL l))[i]? = some (.tup [.int i, .str s]) := by simp [enD, List.getElem?_mapIdx, strL, hs]
      have hd : (enD 0 (strL l)).drop i = .tup [.int i, .str s] :: (enD 0 (strL l)).drop (i + 1) := by
        obtain ⟨h1, h2⟩ := List.getElem?_eq_some_iff.mp he
        rw [← h2, List.getElem_cons_drop]
      have nin : s ∉ ((dayE day l).take i).map (·.1) := by
        rw [List.map_take, dayE_names]
        have := flat_sub (ls := [l]) (i := 0) (l := l) rfl hs (by simpa using nd)
        simpa using this
      have ln : (enS ((dayE day l).take i)).length < sizeLine := by
        simp [enS, dayE_len]
        exact Nat.lt_of_le_of_lt (Nat.le_trans (Nat.min_le_left _ _) (by omega : i ≤ 1000)) (by decide)
      have h2 : 2 ≤ sizeLine := by decide
      rw [hd, dcL]
      have ih := ih (i + 1) (by omega)
      rw [dayE_take hs, ← put_new nin] at ih
      simp [h2, toKey, ln]
      exact ih
  exact key l.length 0 (by omega)
structure Sp (lvs : List (List Str)) (i : Nat) (es : List (Str × Int × Int)) : Prop where
  nm : es.map (·.1) = (lvs.take i).flatten
  at' : ∀ e ∈ es, 1 ≤ e.2.1 ∧ e.2.1 ≤ i ∧ 0 ≤ e.2.2 ∧ (lvs[(e.2.1 - 1).toNat]?.bind (·[e.2.2.toNat]?)) = some e.1
theorem spots_ok {bs : List Str} (hb : Bs bs) {span : Int} {lvs : List (List Str)} (h : Lv bs span lvs) : ∃ es, mir_spots_in [lvD lvs] = .ok (.dct false (enS es)) [none] ∧ Sp lvs lvs.length es := by
  have nd : lvs.flatten.Nodup := h.pm.nodup_iff.mpr hb.nd
  have l6 := hb.l6
  have fl : lvs.flatten.length = bs.length := h.pm.length_eq
  obtain ⟨r', e, es, a, b, er, sp⟩ := forL_inv (t := .tp [.nm 2, .nm 3]) (body := sDrop (eMeth isDct 1 gUpdate (aCons (eDc (iEn 0 (aCons (eVar 3) aNil)) [4, 5] (.tp [.nm 4, .nm 5]) tYesD (eVar 5) (eA mkTup (aCons (eVar 2) (aCons (eVar 4) aNil)))) aNil))) (items := enD 1 (lvL lvs)) (r := [some (lvD lvs), some (.dct false []), none, none, none, none]) (fun i r => ∃ es a b, r = [some (lvD lvs), some (.dct false (enS es)), a, b, none, none] ∧ Sp lvs i es) ⟨[], none, none, rfl, rfl, by simp⟩ (by
    rintro i x r hx ⟨es, a, b, rfl, sp⟩
    obtain ⟨y, hy, rfl⟩ := en_get hx
    obtain ⟨l, hl, rfl⟩ := lvL_get hy
    have e0 : (lvs.take (i + 1)).flatten ++ (lvs.drop (i + 1)).flatten = lvs.flatten := by rw [← List.flatten_append, List.take_append_drop]
    rw [flat_take hl] at e0
    have e1 := congrArg List.length e0
    simp only [List.length_append] at e1
    have nd1 : ((lvs.take i).flatten ++ l).Nodup := by
      rw [← e0] at nd
      exact (List.nodup_append.mp nd).1
    have ndl : l.Nodup := (List.nodup_append.mp nd1).2.1
    have hm := merge_new (es := es) (ms := dayE (1 + i) l) (by rw [dayE_names, sp.nm]; exact nd1)
    have le : es.length = (lvs.take i).flatten.length := by rw [← sp.nm, List.length_map]
    have sz : es.length + l.length ≤ sizeLine := small_le (by omega)
    refine ⟨[some (lvD lvs), some (.dct false (enS es)), some (.int (1 + i)), some (.lst (strL l)), none, none], [some (lvD lvs), some (.dct false (enS (es ++ dayE (1 + i) l))), some (.int (1 + i)), some (.lst (strL l)), none, none], by simp, ?_, es ++ dayE (1 + i) l, some (.int (1 + i)), some (.lst (strL l)), rfl, ?_, ?_⟩
    · have d := dcL_ok (day := 1 + (i : Int)) ndl (by omega) (r0 := some (lvD lvs)) (r1 := some (.dct false (enS es))) (r2 := some (.lst (strL l)))
      have sz2 : (enS es).length + (enS (dayE (1 + (i : Int)) l)).length ≤ sizeLine := by simpa [enS, dayE_len] using sz
      simp [eDc_ap, d, gUpdate, hm, sz2]
    · rw [List.map_append, dayE_names, sp.nm, flat_take hl]
    · intro e he
      rcases List.mem_append.mp he with he | he
      · obtain ⟨h1, h2, h3, h4⟩ := sp.at' e he
        exact ⟨h1, by omega, h3, h4⟩
      · obtain ⟨p, hp⟩ := List.getElem?_of_mem he
        simp [dayE, List.getElem?_mapIdx] at hp
        obtain ⟨x, hx, rfl⟩ := hp
        refine ⟨by simp; omega, by simp; omega, by simp, ?_⟩
        have : ((1 + (i : Int)) - 1).toNat = i := by omega
        simp [this, hl, hx])
  rw [en_len, lvL_len] at sp
  refine ⟨es, ?_, sp⟩
  subst er
  simp [mir_spots_in, mkF_ap, b_spots_in, sFor_ap, lv_eq] at e ⊢
  rw [e]
  simp
theorem look_ok {lvs : List (List Str)} {es : List (Str × Int × Int)} (sp : Sp lvs lvs.length es) {x : Str} (hx : x ∈ lvs.flatten) : ∃ i j : Int, ixD (.dct false (enS es)) (.str x) = some (.tup [.int i, .int j]) ∧ 1 ≤ i ∧ i ≤ lvs.length ∧ 0 ≤ j ∧ (lvs[(i - 1).toNat]?.bind (·[j.toNat]?)) = some x := by
  have hm : x ∈ es.map (·.1) := by rw [sp.nm, List.take_length]; exact hx
  obtain ⟨e, he, rfl⟩ := List.mem_map.mp hm
  obtain ⟨e', h1, h2⟩ : ∃ e', e' ∈ es ∧ (enS es).find? (fun p => keyB p.1 (.str e.1)) = some (.str e'.1, .tup [.int e'.2.1, .int e'.2.2]) ∧ e'.1 = e.1 := by
    have hs : ((enS es).find? (fun p => keyB p.1 (.str e.1))).isSome = true := by
      rw [List.find?_isSome]
      exact ⟨_, List.mem_map.mpr ⟨e, he, rfl⟩, by rw [keyB_str]; simp⟩
    obtain ⟨q, hq⟩ := Option.isSome_iff_exists.mp hs
    have hk := List.find?_some hq
    obtain ⟨e', he', rfl⟩ := List.mem_map.mp (List.mem_of_find?_eq_some hq)
    rw [keyB_str] at hk
    exact ⟨e', he', hq, by simpa using hk⟩
  obtain ⟨h2, h3⟩ := h2
  obtain ⟨a1, a2, a3, a4⟩ := sp.at' e' h1
  refine ⟨e'.2.1, e'.2.2, ?_, a1, by omega, a3, ?_⟩
  · simp [ixD, toKey, lookD, h2]
  · rw [a4, h3]
end K70
set_option Elab.async false
set_option linter.all false
set_option autoImplicit false
namespace K70
open PySem PySem.Spec PyProof.Rows L2 DL
theorem ltD_two (a b c e : Int) : ltD (.tup [.int a, .int b]) (.tup [.int c, .int e]) = some (if a = c then decide (b < e) else decide (a < c)) := by
  simp only [ltD, intsD, HT.lexLt]
  simp [HT.lexLt_cons, HT.lexLt_nil_nil]
  split
  · rw [Bool.eq_iff_iff]
    simp
    omega
  · rfl
/-- how a fact is answered -/
structure Ans (bs : List Str) (span : Int) (lvs : List (List Str)) where
  day : Str → Int
  bf : Str → Str → Bool
  many : Int → Int
  d1 : ∀ x ∈ bs, 1 ≤ day x ∧ day x ≤ span
  b1 : ∀ x ∈ bs, ∀ y ∈ bs, x ≠ y → bf x y = !bf y x
  m1 : ∀ k, 1 ≤ k → k ≤ span → 0 ≤ many k ∧ many k ≤ bs.length
def Ans.hold {bs : List Str} {span : Int} {lvs : List (List Str)} (A : Ans bs span lvs) : Fa → Bool
  | .ah a b => A.bf a b
  | .dy a f l => decide (f ≤ A.day a) && decide (A.day a ≤ l)
  | .gn k f l => decide (f ≤ A.many k) && decide (A.many k ≤ l)
theorem sum_lens (ls : List (List Str)) : (ls.map fun l => (l.length : Int)).sum = ls.flatten.length := by
  induction ls with
  | nil => rfl
  | cons l ls ih => simp [ih]
theorem ans_ok {bs : List Str} (hb : Bs bs) {span : Int} (s9 : span ≤ 9) {lvs : List (List Str)} (h : Lv bs span lvs) : ∃ A : Ans bs span lvs, ∃ es, mir_spots_in [lvD lvs] = .ok (.dct false (enS es)) [none] ∧ ∀ f : Fa, f.ok bs span → mir_does_hold [lvD lvs, .dct false (enS es), f.d] = .ok (.bl (A.hold f)) [none, none, none] := by
  obtain ⟨es, e1, sp⟩ := spots_ok hb h
  have lk : ∀ x, ∃ ij : Int × Int, x ∈ bs → ixD (.dct false (enS es)) (.str x) = some (.tup [.int ij.1, .int ij.2]) ∧ 1 ≤ ij.1 ∧ ij.1 ≤ lvs.length ∧ 0 ≤ ij.2 ∧ (lvs[(ij.1 - 1).toNat]?.bind (·[ij.2.toNat]?)) = some x := fun x => by
    by_cases hx : x ∈ bs
    · obtain ⟨i, j, h1, h2, h3, h4, h5⟩ := look_ok sp (h.pm.mem_iff.mpr hx)
      exact ⟨(i, j), fun _ => ⟨h1, h2, h3, h4, h5⟩⟩
    · exact ⟨(0, 0), fun z => absurd z hx⟩
  have ⟨P, hP⟩ := Classical.axiomOfChoice lk
  have ln := h.ln
  have hf : lvs.flatten.length = bs.length := h.pm.length_eq
  refine ⟨⟨fun x => (P x).1, fun x y => if (P x).1 = (P y).1 then decide ((P x).2 < (P y).2) else decide ((P x).1 < (P y).1), fun k => ((lvs.take k.toNat).flatten.length : Int), ?_, ?_, ?_⟩, es, e1, ?_⟩
  · intro x hx
    obtain ⟨-, h2, h3, -⟩ := hP x hx
    exact ⟨h2, by omega⟩
  · intro x hx y hy ne
    obtain ⟨-, x2, x3, x4, x5⟩ := hP x hx
    obtain ⟨-, y2, y3, y4, y5⟩ := hP y hy
    by_cases c1 : (P x).1 = (P y).1
    · have c2 : (P x).2 ≠ (P y).2 := by
        intro c2
        rw [c1, c2, y5] at x5
        exact ne (by simpa using x5.symm)
      rw [Bool.eq_iff_iff]
      simp [c1]
      omega
    · rw [Bool.eq_iff_iff]
      simp [c1, Ne.symm c1]
      omega
  · intro k h1 h2
    refine ⟨by omega, ?_⟩
    have : (lvs.take k.toNat).flatten ++ (lvs.drop k.toNat).flatten = lvs.flatten := by rw [← List.flatten_append, List.take_append_drop]
    have := congrArg List.length this
    simp only [List.length_append] at this
    omega
  · intro f hfo
    cases f with
    | ah a b =>
      obtain ⟨h1, h2, h3⟩ := hfo
      have pa := (hP a h1).1
      have pb := (hP b h2).1
      simp [mir_does_hold, mkF_ap, b_does_hold, Fa.d, ix_tup0, ix_tup1, ix_tup2, eqD_str k_ahead k_ahead, pa, pb, ltD_two, Ans.hold]
    | dy a f l =>
      obtain ⟨h1, h2, h3, h4⟩ := hfo
      have pa := (hP a h1).1
      by_cases c1 : f ≤ (P a).1
      · simp [mir_does_hold, mkF_ap, b_does_hold, Fa.d, ix_tup0, ix_tup1, ix_tup2, ix_tup3, eqD_str k_days k_ahead, eqD_str k_days k_days, da, pa, c1, Ans.hold]
      · simp [mir_does_hold, mkF_ap, b_does_hold, Fa.d, ix_tup0, ix_tup1, ix_tup2, ix_tup3, eqD_str k_days k_ahead, eqD_str k_days k_days, da, pa, c1, Ans.hold]
    | gn k f l =>
      obtain ⟨h1, h2, h3, h4, h5⟩ := hfo
      have ek : k = (k.toNat : Int) := by omega
      have ct : cutD (lvL lvs) none (some k) = lvL (lvs.take k.toNat) := by
        rw [ek, cut_to (by rw [lvL_len]; omega), Int.toNat_natCast]
        simp [lvL, List.map_take]
      have z := lcL_map (t := .nm 3) (vs := [3]) (f := eA (g1 lenD) (aCons (eVar 3) aNil)) (r := [some (.lst (lvL lvs)), some (.dct false (enS es)), some (.tup [.str "gone", .int k, .int f, .int l]), none]) (items := lvL (lvs.take k.toNat)) (fun x => match x with | .lst xs => .int xs.length | _ => .non) fun x hx => by
        obtain ⟨l', hl, rfl⟩ := List.mem_map.mp hx
        exact ⟨[some (.lst (lvL lvs)), some (.dct false (enS es)), some (.tup [.str "gone", .int k, .int f, .int l]), some (.lst (strL l'))], [some (.lst (lvL lvs)), some (.dct false (enS es)), some (.tup [.str "gone", .int k, .int f, .int l]), some (.lst (strL l'))], by simp, by simp, by simp⟩
      have em : (lvL (lvs.take k.toNat)).map (fun x => match x with | .lst xs => D.int xs.length | _ => .non) = (lvs.take k.toNat).map fun l => .int (l.length : Int) := by
        simp [lvL, Function.comp_def, strL_len]
      rw [em] at z
      have sm : sumD (.lst ((lvs.take k.toNat).map fun l => .int (l.length : Int))) = some (.int ((lvs.take k.toNat).flatten.length : Int)) := by
        simp only [sumD, intsD_map, Option.map_some]
        rw [sum_lens]
      have sz : ((lvs.take k.toNat).map fun l => D.int (l.length : Int)).length ≤ sizeLine := by
        rw [List.length_map, List.length_take]
        exact small_le (by omega)
      generalize hq : (lvs.take k.toNat).map (fun l => D.int (l.length : Int)) = q at z sm sz
      show mir_does_hold _ = .ok (.bl (decide (f ≤ ((lvs.take k.toNat).flatten.length : Int)) && decide (((lvs.take k.toNat).flatten.length : Int) ≤ l))) _
      generalize ((lvs.take k.toNat).flatten.length : Int) = T at sm ⊢
      by_cases c1 : f ≤ T
      · simp [mir_does_hold, mkF_ap, b_does_hold, Fa.d, ix_tup0, ix_tup1, ix_tup2, ix_tup3, eqD_str k_gone k_ahead, eqD_str k_gone k_days, ga, gd, lv_eq, ct, eLc_ap, z, sz, sm, c1]
      · simp [mir_does_hold, mkF_ap, b_does_hold, Fa.d, ix_tup0, ix_tup1, ix_tup2, ix_tup3, eqD_str k_gone k_ahead, eqD_str k_gone k_days, ga, gd, lv_eq, ct, eLc_ap, z, sz, sm, c1]
theorem holds_ok {bs : List Str} (hb : Bs bs) {span : Int} (s9 : span ≤ 9) (fs : List Fa) {lvs : List (List Str)} (h : Lv bs span lvs) : ∃ A : Ans bs span lvs, ∀ f : Fa, f.ok bs span → mir_holds [Yd bs span fs, lvD lvs, f.d] = .ok (.bl (A.hold f)) [none, none, none] := by
  obtain ⟨A, es, e1, e2⟩ := ans_ok hb s9 h
  refine ⟨A, fun f hf => ?_⟩
  simp [mir_holds, mkF_ap, b_holds, leaving_ok hb s9 fs h, fact_is (c := .lst) (.inl rfl) hb.mn hf, e1, e2 f hf]
/-- just one of a fact and its turns holds -/
theorem one_holds {bs : List Str} {span : Int} {lvs : List (List Str)} (A : Ans bs span lvs) {f : Fa} (hf : f.ok bs span) : ((f :: f.ts bs.length span).map A.hold).Perm (true :: List.replicate (f.ts bs.length span).length false) := by
  cases f with
  | ah a b =>
    obtain ⟨h1, h2, h3⟩ := hf
    have := A.b1 a h1 b h2 h3
    simp [Fa.ts, Ans.hold, this]
    cases A.bf b a
    · exact .refl _
    · exact List.Perm.swap _ _ _
  | dy a f l =>
    obtain ⟨h1, h2, h3, h4⟩ := hf
    obtain ⟨d1, d2⟩ := A.d1 a h1
    generalize hd : A.day a = d at d1 d2
    by_cases c1 : 1 < f <;> by_cases c2 : l < span <;> by_cases c3 : f ≤ d <;> by_cases c4 : d ≤ l
    all_goals
      have q1 : decide (d ≤ f - 1) = !decide (f ≤ d) := by rw [Bool.eq_iff_iff]; simp; omega
      have q2 : decide (l + 1 ≤ d) = !decide (d ≤ l) := by rw [Bool.eq_iff_iff]; simp; omega
      simp [Fa.ts, Ans.hold, c1, c2, hd, q1, q2, d1, d2, c3, c4]
    all_goals first
      | (exfalso; omega)
      | decide
  | gn k f l =>
    obtain ⟨h1, h2, h3, h4, h5⟩ := hf
    obtain ⟨d1, d2⟩ := A.m1 k h1 h2
    generalize hd : A.many k = d at d1 d2
    by_cases c1 : 0 < f <;> by_cases c2 : l < (bs.length : Int) <;> by_cases c3 : f ≤ d <;> by_cases c4 : d ≤ l
    all_goals
      have q1 : decide (d ≤ f - 1) = !decide (f ≤ d) := by rw [Bool.eq_iff_iff]; simp; omega
      have q2 : decide (l + 1 ≤ d) = !decide (d ≤ l) := by rw [Bool.eq_iff_iff]; simp; omega
      simp [Fa.ts, Ans.hold, c1, c2, hd, q1, q2, d1, d2, c3, c4]
    all_goals first
      | (exfalso; omega)
      | decide
end K70
set_option Elab.async false
set_option linter.all false
set_option autoImplicit false
namespace K70
open PySem PySem.Spec PyProof.Rows L2 DL
theorem neD_self {d : D} (h : pl 60 d = true) : neD d d = some false := by simp [neD, eqD_pl h h]
theorem ts_len (f : Fa) (n span : Int) : (f.ts n span).length ≤ 2 := by
  cases f with
  | ah a b => simp [Fa.ts]
  | dy a f l => simp only [Fa.ts]; split <;> split <;> simp
  | gn a f l => simp only [Fa.ts]; split <;> split <;> simp
theorem tale_ok {d : D} (h : Pot d) {bs : List Str} (hb : Bs bs) {span : Int} (s1 : 1 ≤ span) (s9 : span ≤ 9) {n : Int} (n0 : 0 ≤ n) : ∃ fs : List Fa, ∃ d', lcL (.nm 7) [7] tYesD (eCall mir_law_fact [some 0, none, none] (mMv 0 (aCons (eVar 3) (aCons (eVar 4) aNil)))) (rngD 0 n) [some d, none, none, some (.lst (strL bs)), some (.int span), none, none, none, none, none, none, none, none] = .ok (faL fs) [some d', none, none, some (.lst (strL bs)), some (.int span), none, none, none, none, none, none, none, none] ∧ (fs.length : Int) = n ∧ (∀ f ∈ fs, f.ok bs span) ∧ Pot d' := by
  obtain ⟨xs, r', e1, fs, d', er, ex, hl, hw, p'⟩ := lcL_inv (t := .nm 7) (vs := [7]) (ts := tYesD) (f := eCall mir_law_fact [some 0, none, none] (mMv 0 (aCons (eVar 3) (aCons (eVar 4) aNil)))) (items := rngD 0 n) (r := [some d, none, none, some (.lst (strL bs)), some (.int span), none, none, none, none, none, none, none, none]) (fun i acc r => ∃ fs : List Fa, ∃ d', r = [some d', none, none, some (.lst (strL bs)), some (.int span), none, none, none, none, none, none, none, none] ∧ acc = faL fs ∧ fs.length = i ∧ (∀ f ∈ fs, f.ok bs span) ∧ Pot d') [] ⟨[], d, rfl, rfl, rfl, by simp, h⟩ (by
    rintro i x acc r hx ⟨fs, d', rfl, rfl, hl, hw, hpot⟩
    obtain ⟨f, d2, e1, fo, p2⟩ := law_fact_ok hpot hb s1 s9
    refine ⟨[some d', none, none, some (.lst (strL bs)), some (.int span), none, none, some x, none, none, none, none, none], by simp, .inr ⟨[some d', none, none, some (.lst (strL bs)), some (.int span), none, none, some x, none, none, none, none, none], f.d, [some d2, none, none, some (.lst (strL bs)), some (.int span), none, none, some x, none, none, none, none, none], by simp, by simp [e1], fs ++ [f], d2, by simp, by simp [faL], by simp [hl], ?_, p2⟩⟩
    intro w hw2
    rcases List.mem_append.mp hw2 with h | h
    · exact hw w h
    · rw [List.mem_singleton.mp h]
      exact fo)
  subst er
  simp at ex
  subst ex
  exact ⟨fs, d', e1, by rw [hl, rng_len n0]; omega, hw, p'⟩
def rb (b : Bool) : Str := if b then "True" else "False"
theorem k_true : PyData.strOk "True" = true := by decide +kernel
theorem k_false : PyData.strOk "False" = true := by decide +kernel
theorem srt0 : sortedS (([] : List Str) ++ (["True"] : List Str)) = true := by decide +kernel
theorem srt1 : sortedS ((["False"] : List Str) ++ (["True"] : List Str)) = true := by decide +kernel
theorem srt2 : sortedS ((["False", "False"] : List Str) ++ (["True"] : List Str)) = true := by decide +kernel
theorem strsD_map : ∀ xs : List Str, strsD (xs.map D.str) = some xs
  | [] => rfl
  | x :: xs => by simp [strsD, strsD_map xs]
/-- the answers, in words and in order -/
theorem words {hs : List Bool} {n : Nat} (hn : n ≤ 2) (hp : hs.Perm (true :: List.replicate n false)) : sortSD (.lst (hs.map fun b => .str (rb b))) = some (.lst ((List.replicate n (.str "False")) ++ [.str "True"])) := by
  have e0 : (hs.map fun b => D.str (rb b)) = (hs.map rb).map D.str := by simp
  have pm : (List.replicate n ("False" : Str) ++ (["True"] : List Str)).Perm (hs.map rb) := by
    refine List.Perm.trans ?_ (hp.map rb).symm
    have : (true :: List.replicate n false).map rb = ("True" : Str) :: List.replicate n ("False" : Str) := by simp [rb]
    rw [this]
    exact (List.perm_append_comm (l₁ := List.replicate n ("False" : Str)) (l₂ := (["True"] : List Str)))
  have st : sortedS (List.replicate n ("False" : Str) ++ (["True"] : List Str)) = true := by
    match n, hn with
    | 0, _ => exact srt0
    | 1, _ => exact srt1
    | 2, _ => exact srt2
  have := sortS_uniq pm st
  have ln : (hs.map rb).length < 64 := by
    rw [List.length_map, hp.length_eq]
    simp
    omega
  simp only [sortSD, e0, strsD_map, Option.bind_some, if_pos ln, ← this]
  simp
theorem rep_false {n : Nat} (hn : n ≤ 2) : repLD (.lst [.str "False"]) (.int (n : Int)) = some (.lst (List.replicate n (.str "False"))) := by
  match n, hn with
  | 0, _ => simp [repLD, sizeLine_eq]
  | 1, _ => simp [repLD, sizeLine_eq]
  | 2, _ => simp [repLD, sizeLine_eq, List.replicate]
theorem pl_words {n : Nat} (hn : n ≤ 2) : pl 60 (.lst (List.replicate n (.str "False") ++ [.str "True"])) = true := by
  match n, hn with
  | 0, _ => simp [pl, plL, k_true]
  | 1, _ => simp [pl, plL, k_true, k_false]
  | 2, _ => simp [pl, plL, k_true, k_false, List.replicate]
def tellB : SS := sSeq (sAsg 10 (eCall mir_law_told [some 0, none, none] (mMv 0 (aCons (eVar 3) (aCons (eVar 4) aNil))))) (sSeq (sAsg 11 (eLc (iE (e2 addD (eA mkLst (aCons (eVar 6) aNil)) (eVar 8))) [12] (.nm 12) tYesD (eCall mir_holds [none, none, none] (aCons (eVar 2) (aCons (eVar 10) (aCons (eVar 12) aNil)))))) (sIf (boolT (e2 (gB neD) (eA (g1 sortSD) (aCons (eLc (iE (eVar 11)) [12] (.nm 12) tYesD (eA (g1 reprBD) (aCons (eVar 12) aNil))) aNil)) (e2 addD (eRep (eA mkLst (aCons (eC (.str "False")) aNil)) (eA (g1 lenD) (aCons (eVar 8) aNil))) (eA mkLst (aCons (eC (.str "True")) aNil))))) (sRet (eC (.bl false))) sNx))
theorem tell_ok {d : D} (h : Pot d) {bs : List Str} (hb : Bs bs) {span : Int} (s1 : 1 ≤ span) (s9 : span ≤ 9) (fs : List Fa) {f : Fa} (hf : f.ok bs span) (x1 x5 x7 x9 x10 x11 : Option D) :
    ∃ d' y z, tellB [some d, x1, some (Yd bs span fs), some (.lst (strL bs)), some (.int span), x5, some f.d, x7, some (.lst (faL (f.ts bs.length span))), x9, x10, x11, none] = .nx [some d', x1, some (Yd bs span fs), some (.lst (strL bs)), some (.int span), x5, some f.d, x7, some (.lst (faL (f.ts bs.length span))), x9, y, z, none] ∧ Pot d' := by
  obtain ⟨lvs, d', e1, lv, p'⟩ := told_ok h hb s1 s9
  obtain ⟨A, hA⟩ := holds_ok hb s9 fs lv
  have tl := ts_len f bs.length span
  have all : ∀ g ∈ f :: f.ts bs.length span, g.ok bs span := by
    intro g hg
    rcases List.mem_cons.mp hg with rfl | hg
    · exact hf
    · exact ts_ok hf hg
  generalize hts : f.ts bs.length span = ts at tl all
  have on := one_holds A hf
  rw [hts] at on
  refine ⟨d', some (lvD lvs), some (.lst ((f :: ts).map fun g => .bl (A.hold g))), ?_, p'⟩
  have z1 := lcL_map (t := .nm 12) (vs := [12]) (f := eCall mir_holds [none, none, none] (aCons (eVar 2) (aCons (eVar 10) (aCons (eVar 12) aNil)))) (r := [some d', x1, some (Yd bs span fs), some (.lst (strL bs)), some (.int span), x5, some f.d, x7, some (.lst (faL ts)), x9, some (lvD lvs), x11, none]) (items := faL (f :: ts)) (fun x => match mir_holds [Yd bs span fs, lvD lvs, x] with | .ok v _ => v | _ => .non) fun x hx => by
    obtain ⟨g, hg, rfl⟩ := List.mem_map.mp hx
    exact ⟨[some d', x1, some (Yd bs span fs), some (.lst (strL bs)), some (.int span), x5, some f.d, x7, some (.lst (faL ts)), x9, some (lvD lvs), x11, some g.d], [some d', x1, some (Yd bs span fs), some (.lst (strL bs)), some (.int span), x5, some f.d, x7, some (.lst (faL ts)), x9, some (lvD lvs), x11, some g.d], by simp, by simp [hA g (all g hg)], by simp⟩
  have em : (faL (f :: ts)).map (fun x => match mir_holds [Yd bs span fs, lvD lvs, x] with | .ok v _ => v | _ => .non) = (f :: ts).map fun g => .bl (A.hold g) := by
    rw [faL, List.map_map]
    refine List.map_congr_left fun g hg => ?_
    simp [hA g (all g hg)]
  rw [em] at z1
  generalize hT : ((f :: ts).map fun g => D.bl (A.hold g)) = T at z1 ⊢
  have z2 := lcL_map (t := .nm 12) (vs := [12]) (f := eA (g1 reprBD) (aCons (eVar 12) aNil)) (r := [some d', x1, some (Yd bs span fs), some (.lst (strL bs)), some (.int span), x5, some f.d, x7, some (.lst (faL ts)), x9, some (lvD lvs), some (.lst T), none]) (items := T) (fun x => match x with | .bl b => .str (rb b) | _ => .non) fun x hx => by
    subst hT
    obtain ⟨g, hg, rfl⟩ := List.mem_map.mp hx
    exact ⟨[some d', x1, some (Yd bs span fs), some (.lst (strL bs)), some (.int span), x5, some f.d, x7, some (.lst (faL ts)), x9, some (lvD lvs), some (.lst ((f :: ts).map fun g => .bl (A.hold g))), some (.bl (A.hold g))], [some d', x1, some (Yd bs span fs), some (.lst (strL bs)), some (.int span), x5, some f.d, x7, some (.lst (faL ts)), x9, some (lvD lvs), some (.lst ((f :: ts).map fun g => .bl (A.hold g))), some (.bl (A.hold g))], by simp, by simp [reprBD, rb], by simp⟩
  have eT : T.map (fun x => match x with | .bl b => D.str (rb b) | _ => .non) = ((f :: ts).map A.hold).map fun b => .str (rb b) := by
    subst hT
    rw [List.map_map, List.map_map]
    exact List.map_congr_left fun g _ => rfl
  rw [eT] at z2
  have wd := words tl on
  have lT : T.length ≤ sizeLine := by
    subst hT
    rw [List.length_map, List.length_cons]
    exact small_le (by omega)
  have lS : (((f :: ts).map A.hold).map fun b => D.str (rb b)).length ≤ sizeLine := by
    rw [List.length_map, List.length_map, List.length_cons]
    exact small_le (by omega)
  generalize hS : (((f :: ts).map A.hold).map fun b => D.str (rb b)) = S at z2 wd lS
  have la : 1 + ts.length ≤ sizeLine := small_le (by omega)
  have lb : ts.length + 1 ≤ sizeLine := small_le (by omega)
  have ef : f.d :: faL ts = faL (f :: ts) := rfl
  have h1 : 1 ≤ sizeLine := by decide
  have pw := pl_words tl
  have rf := rep_false tl
  simp [tellB, e1, eLc_ap, addD, faL_len, h1, la, ef, z1, lT, z2, lS, wd, rf, lb, neD_self pw]
end K70
set_option Elab.async false
set_option linter.all false
set_option autoImplicit false
set_option maxRecDepth 20000
namespace K70
open PySem PySem.Spec PyProof.Rows L2 DL
def rowB : SS := sSeq (sPar 8 9 (aCons (eCall mir_law_turns [none, none, none] (aCons (eVar 3) (aCons (eVar 4) (aCons (eVar 6) aNil)))) (aCons (eCall mir_turns [none, none] (aCons (eVar 2) (aCons (eVar 5) aNil))) aNil))) (sSeq (sIf (tOr (tNot (tView (tE (eIsi "list" (eVar 9))))) (tOr (tView (boolT (e2 (gB neD) (eVar 9) (eVar 8)))) (boolT (e2 (gB neD) (eCallK 2 mir_turns 0 [1, 0] aNil (aCons (eVar 5) (aCons (eVar 2) aNil))) (eVar 8))))) (sRet (eC (.bl false))) sNx) (sSeq (sIf (tNot (tE (eA (g1 allD) (aCons (eLc (iE (eVar 8)) [12] (.nm 12) tYesD (e2 (gB eqD) (eMethI "Yard" "facts" 1 mir_Yard_facts (eBinI "Yard" "tuple" mir_Yardu_addu (eVar 2) (eVar 12)) aNil) (e2 addD (eVar 1) (eA mkLst (aCons (eVar 12) aNil))))) aNil)))) (sRet (eC (.bl false))) sNx) (sSeq (sDrop (eMeth isLst 9 gAppend (aCons (eC (.str "odd")) aNil))) (sSeq (sIf (boolT (e2 (gB neD) (eCall mir_turns [none, none] (aCons (eVar 2) (aCons (eVar 5) aNil))) (eVar 8))) (sRet (eC (.bl false))) sNx) (sFor (iRg1 (aCons (eC (.int 4)) aNil)) (.nm 7) tellB)))))
theorem row_ok {d : D} (h : Pot d) {bs : List Str} (hb : Bs bs) {span : Int} (s1 : 1 ≤ span) (s9 : span ≤ 9) {fs : List Fa} (hf : ∀ f ∈ fs, f.ok bs span) (hl : fs.length ≤ 8) {k : Nat} {f : Fa} (hk : fs[k]? = some f) (x7 x8 x9 x10 x11 : Option D) :
    ∃ d' y7 y8 y9 y10 y11, rowB [some d, some (.lst (faL fs)), some (Yd bs span fs), some (.lst (strL bs)), some (.int span), some (.int k), some f.d, x7, x8, x9, x10, x11, none] = .nx [some d', some (.lst (faL fs)), some (Yd bs span fs), some (.lst (strL bs)), some (.int span), some (.int k), some f.d, y7, y8, y9, y10, y11, none] ∧ Pot d' := by
  have fo : f.ok bs span := hf f (List.mem_of_getElem? hk)
  have t1 := law_turns_ok fo
  have t2 := turns_ok hb hk fo
  have tl := ts_len f bs.length span
  have all : ∀ g ∈ f.ts bs.length span, g.ok bs span := fun g hg => ts_ok fo hg
  have p0 : pl 60 (.lst (faL (f.ts bs.length span))) = true := by simp [pl, pl_faL hb.mn all 57]
  have lt : (faL (f.ts bs.length span)).length ≤ 2 := by rw [faL_len]; exact tl
  have rg : rg1 [.int 4] = some (rngD 0 4) := rg1_int (by decide)
  -- the yard with one fact more
  have z1 : ∀ y9, lcL (.nm 12) [12] tYesD (e2 (gB eqD) (eMethI "Yard" "facts" 1 mir_Yard_facts (eBinI "Yard" "tuple" mir_Yardu_addu (eVar 2) (eVar 12)) aNil) (e2 addD (eVar 1) (eA mkLst (aCons (eVar 12) aNil)))) (faL (f.ts bs.length span)) [some d, some (.lst (faL fs)), some (Yd bs span fs), some (.lst (strL bs)), some (.int span), some (.int k), some f.d, x7, some (.lst (faL (f.ts bs.length span))), y9, x10, x11, none] = .ok ((faL (f.ts bs.length span)).map fun _ => .bl true) [some d, some (.lst (faL fs)), some (Yd bs span fs), some (.lst (strL bs)), some (.int span), some (.int k), some f.d, x7, some (.lst (faL (f.ts bs.length span))), y9, x10, x11, none] := fun y9 => by
    refine lcL_map (fun _ => .bl true) fun x hx => ?_
    obtain ⟨g, hg, rfl⟩ := List.mem_map.mp hx
    have ad := add_ok hb s1 s9 hf (by omega : fs.length < 40) (all g hg)
    have ty : tyD g.d = some "tuple" := by cases g <;> rfl
    have ef : faL fs ++ [g.d] = faL (fs ++ [g]) := by simp [faL]
    have al : ∀ f ∈ fs ++ [g], f.ok bs span := by
      intro f h
      rcases List.mem_append.mp h with h | h
      · exact hf f h
      · rw [List.mem_singleton.mp h]; exact all g hg
    have p1 : pl 60 (.lst (faL (fs ++ [g]))) = true := by simp [pl, pl_faL hb.mn al 57]
    have h1 : 1 ≤ sizeLine := by decide
    have h2 : fs.length + 1 ≤ sizeLine := small_le (by omega)
    exact ⟨[some d, some (.lst (faL fs)), some (Yd bs span fs), some (.lst (strL bs)), some (.int span), some (.int k), some f.d, x7, some (.lst (faL (f.ts bs.length span))), y9, x10, x11, some g.d], [some d, some (.lst (faL fs)), some (Yd bs span fs), some (.lst (strL bs)), some (.int span), some (.int k), some f.d, x7, some (.lst (faL (f.ts bs.length span))), y9, x10, x11, some g.d], by simp, by simp [ty, ad, addD, faL_len, h1, h2, ef, eqD_pl p1 p1], by simp⟩
  have em : ((faL (f.ts bs.length span)).map fun _ => D.bl true) = List.replicate (f.ts bs.length span).length (.bl true) := by rw [List.map_const', faL_len]
  rw [em] at z1
  -- the four leavings
  obtain ⟨r', e, d', y7, y10, y11, er, pp⟩ := forL_inv (t := .nm 7) (body := tellB) (items := rngD 0 4) (r := [some d, some (.lst (faL fs)), some (Yd bs span fs), some (.lst (strL bs)), some (.int span), some (.int k), some f.d, x7, some (.lst (faL (f.ts bs.length span))), some (.lst (faL (f.ts bs.length span) ++ [.str "odd"])), x10, x11, none]) (fun _ r => ∃ d' y7 y10 y11, r = [some d', some (.lst (faL fs)), some (Yd bs span fs), some (.lst (strL bs)), some (.int span), some (.int k), some f.d, y7, some (.lst (faL (f.ts bs.length span))), some (.lst (faL (f.ts bs.length span) ++ [.str "odd"])), y10, y11, none] ∧ Pot d') ⟨d, x7, x10, x11, rfl, h⟩ (by
    rintro i x r hx ⟨d', y7, y10, y11, rfl, hp⟩
    obtain ⟨d2, a, b, e, p2⟩ := tell_ok hp hb s1 s9 fs fo (some (.lst (faL fs))) (some (.int k)) (some x) (some (.lst (faL (f.ts bs.length span) ++ [.str "odd"]))) y10 y11
    refine ⟨_, _, ?_, e, d2, some x, a, b, rfl, p2⟩
    rw [put_nm, if_pos (by simp only [List.length_cons, List.length_nil]; omega)]
    rfl)
  refine ⟨d', y7, some (.lst (faL (f.ts bs.length span))), some (.lst (faL (f.ts bs.length span) ++ [.str "odd"])), y10, y11, ?_, pp⟩
  generalize f.ts bs.length span = ts at t1 t2 tl p0 lt z1 e er
  have ln : ts.length < sizeLine := Nat.lt_of_le_of_lt tl (by decide)
  have ln' : ts.length ≤ sizeLine := Nat.le_of_lt ln
  have kw : kwG 0 [1, 0] [] [D.int (k : Int), Yd bs span fs] = [Yd bs span fs, .int k] := by simp [kwG]
  subst er
  unfold rowB
  generalize tellB = tb at e ⊢
  simp [t1, t2, neD_self p0, kw, eLc_ap, z1, ln', allD, boolsD_true, gAppend, faL_len, ln, sFor_ap, rg, e]
end K70
set_option Elab.async false
set_option linter.all false
set_option autoImplicit false
set_option maxRecDepth 20000
namespace K70
open PySem PySem.Spec PyProof.Rows L2 DL
theorem right_ok {d : D} (h : Pot d) : ∃ d', mir_law_right [d] = .ok (.bl true) [some d'] := by
  obtain ⟨a, d1, e1, a0, a6, p1⟩ := draw_ok h (n := 6) (by omega) (by omega)
  obtain ⟨bs, d2, e2, l, nd, mn, p2⟩ := folk_ok p1 (n := 1 + a) (by omega) (by omega)
  obtain ⟨b, d3, e3, b0, b9, p3⟩ := draw_ok p2 (n := 9) (by omega) (by omega)
  obtain ⟨c, d4, e4, c0, c8, p4⟩ := draw_ok p3 (n := 8) (by omega) (by omega)
  have hb : Bs bs := ⟨by omega, by omega, nd, mn⟩
  obtain ⟨fs, d5, e5, ln, hf, p5⟩ := tale_ok p4 hb (span := 1 + b) (by omega) (by omega) (n := 1 + c) (by omega)
  obtain ⟨r', e, d6, x5, x6, x7, x8, x9, x10, x11, er, p6⟩ := forL_inv (t := .tp [.nm 5, .nm 6]) (body := rowB) (items := enD 0 (faL fs)) (r := [some d5, some (.lst (faL fs)), some (Yd bs (1 + b) fs), some (.lst (strL bs)), some (.int (1 + b)), none, none, none, none, none, none, none, none]) (fun _ r => ∃ d' x5 x6 x7 x8 x9 x10 x11, r = [some d', some (.lst (faL fs)), some (Yd bs (1 + b) fs), some (.lst (strL bs)), some (.int (1 + b)), x5, x6, x7, x8, x9, x10, x11, none] ∧ Pot d') ⟨d5, none, none, none, none, none, none, none, rfl, p5⟩ (by
    rintro i x r hx ⟨d', x5, x6, x7, x8, x9, x10, x11, rfl, hp⟩
    obtain ⟨y, hy, rfl⟩ := en_get hx
    obtain ⟨f, hk, rfl⟩ := faL_get hy
    obtain ⟨d2, y7, y8, y9, y10, y11, e, p2⟩ := row_ok hp hb (span := 1 + b) (by omega) (by omega) hf (by omega) hk x7 x8 x9 x10 x11
    refine ⟨_, _, ?_, e, d2, some (.int i), some f.d, y7, y8, y9, y10, y11, rfl, p2⟩
    simp only [put_tp, putL_cons, putL_nil, put_nm, List.length_cons, List.length_nil, List.length_set]
    simp)
  have rg : rg1 [.int (1 + c)] = some (rngD 0 (1 + c)) := rg1_int (by simp [okI]; omega)
  have i1 := init_ok (c := .lst) (e := .lst) (.inl rfl) (.inl rfl) hb (span := 1 + b) (by omega) (by omega) hf (by omega)
  have q1 := eq_ok hb.mn (span := 1 + b) hf
  have lf : fs.length ≤ sizeLine := small_le (by omega)
  have h2 : 2 ≤ sizeLine := by decide
  refine ⟨d6, ?_⟩
  subst er
  unfold mir_law_right b_law_right
  unfold rowB tellB at e
  simp [mkF_ap, e1, e2, e3, e4, sTup, Tg.putO, h2, rg, eLc_ap, e5, faL_len, lf, i1]
  rw [sFor_ap]
  simp
  rw [e]
  simp [i1, q1]
end K70
set_option Elab.async false
set_option linter.all false
set_option autoImplicit false
set_option maxRecDepth 20000
namespace K70
open PySem PySem.Spec PyProof.Rows L2 DL
theorem pow18 : powD (.int 10) (.int 18) = some (.int 1000000000000000000) := by
  simp only [powD]
  rw [if_pos (by decide +kernel)]
  exact congrArg (fun z => some (D.int z)) (by decide +kernel)
theorem mulI_r {a b : Int} (h : -(2 ^ 64) < b ∧ b < 2 ^ 64) : mulI (.int a) (.int b) = some (.int (a * b)) := by
  simp only [mulI]; rw [if_pos (.inr h)]
theorem scr_len {d : D} {ns : List Int} (h : isScript d ns) : lenD d = some (.int ns.length) := by
  rcases h with rfl | rfl <;> simp [lenD]
theorem scr_ix {d : D} {ns : List Int} (h : isScript d ns) {k : Nat} (hk : k < ns.length) : ixD d (.int k) = some (.int ns[k]) := by
  rcases h with rfl | rfl <;> simp [ixD, atI, ixN, hk]
theorem pot_fin {c : Int} (hc : 0 ≤ c) (k : Nat) : Pot (.lst [.int (if c - 1000000000000000000 > 0 then c - 1000000000000000000 else 0), .int ((c % 2147483563 * 40013 + 7919 * k + 51) % 2147483629 + 1)]) := by
  refine ⟨_, _, rfl, ?_, ?_, ?_⟩
  · split <;> omega
  · have := Int.emod_nonneg (c % 2147483563 * 40013 + 7919 * k + 51) (b := 2147483629) (by decide)
    omega
  · have := Int.emod_lt_of_pos (c % 2147483563 * 40013 + 7919 * k + 51) (b := 2147483629) (by decide)
    omega
theorem pot_ok {d : D} {ns : List Int} (h : isScript d ns) (k : Nat) (hk : k < 4) : ∃ p, mir_law_pot [d, .int k] = .ok p [none, none] ∧ Pot p := by
  have m1 : mulI (.int 31) (.int k) = some (.int (31 * k)) := mulI_r ⟨by omega, by omega⟩
  have m2 : mulI (.int 7919) (.int k) = some (.int (7919 * k)) := mulI_r ⟨by omega, by omega⟩
  have m3 : ∀ c : Int, mulI (.int c) (.int 40013) = some (.int (c * 40013)) := fun c => mulI_r ⟨by decide, by decide⟩
  have h2 : 2 ≤ sizeLine := by decide
  by_cases c : k < ns.length
  · have ab : 0 ≤ (if ns[k] < 0 then -ns[k] else ns[k]) := by split <;> omega
    refine ⟨_, ?_, pot_fin ab k⟩
    simp only [mir_law_pot, mkF_ap, b_law_pot]
    simp [m1, m2, m3, scr_len h, scr_ix h c, c, pow18, modD, h2]
  · refine ⟨_, ?_, pot_fin (c := 31 * k + 11) (by omega) k⟩
    simp only [mir_law_pot, mkF_ap, b_law_pot]
    simp [m1, m2, m3, scr_len h, c, pow18, modD, h2]
theorem law_true (d : D) (ns : List Int) (h : isScript d ns) (hl : ns.length ≤ 63) (hb : ∀ z ∈ ns, Builtin.Int.intBits z ≤ 1048576) : ∃ ds, mir_law [d] = .ok (.bl true) ds := by
  have hn : ∃ n : Nat, n ≤ 4 ∧ (if (if (ns.length : Int) < 4 then (ns.length : Int) else 4) > 1 then (if (ns.length : Int) < 4 then (ns.length : Int) else 4) else 1) = (n : Int) := by
    by_cases a : (ns.length : Int) < 4
    · rw [if_pos a]
      by_cases b : (ns.length : Int) > 1
      · rw [if_pos b]; exact ⟨ns.length, by omega, rfl⟩
      · rw [if_neg b]; exact ⟨1, by omega, rfl⟩
    · rw [if_neg a, if_pos (by decide)]
      exact ⟨4, by omega, rfl⟩
  obtain ⟨n, n4, en⟩ := hn
  have rg : rg1 [.int (n : Int)] = some (rngD 0 n) := rg1_int (by simp [okI]; omega)
  have z := lcL_map (t := .nm 1) (vs := [1]) (f := eCall mir_law_right [none] (aCons (eCall mir_law_pot [none, none] (aCons (eVar 0) (aCons (eVar 1) aNil))) aNil)) (r := [some d, none]) (items := rngD 0 n) (fun _ => .bl true) fun x hx => by
    obtain ⟨i, hi, ei⟩ := List.getElem_of_mem hx
    obtain ⟨rfl, hi2⟩ := rng_get (n := (n : Int)) (i := i) (d := x) (by rw [List.getElem?_eq_getElem hi, ei])
    obtain ⟨p, e1, hp⟩ := pot_ok h i (by omega)
    obtain ⟨d', e2⟩ := right_ok hp
    exact ⟨[some d, some (.int i)], [some d, some (.int i)], by simp, by simp [e1, e2], by simp⟩
  have em : ((rngD 0 n).map fun _ => D.bl true) = List.replicate n (.bl true) := by
    have l0 := rng_len (n := (n : Int)) (by omega)
    have l1 : (rngD 0 n).length = n := by omega
    rw [List.map_const', l1]
  rw [em] at z
  have hs : n ≤ sizeLine := small_le (by omega)
  refine ⟨[none], ?_⟩
  simp only [mir_law, mkF_ap, b_law]
  simp [scr_len h, en, rg, eLc_ap, z, hs, allD, boolsD_true]
end K70
set_option Elab.async false
set_option linter.all false
set_option autoImplicit false
set_option maxRecDepth 100000
namespace K70
open PySem PySem.Spec PyProof.Rows L2 DL
theorem fin {P : Program} {w : World} {K : PySem.W.Frag} {mg : Str → Option Value} {base : Heap} (T : Txt K mg) : FnOk P w K mg base (L2.CX P w) 10 T.f_law T.d_law ["_law_script"] (spLaw K) :=
  (ok_law T).imp fun vs H Q E h => law_sp (C := T.C) rfl law_true h
theorem finF {P : Program} {w : World} {K : PySem.W.Frag} {mg : Str → Option Value} {fa : Addr} (h : ∃ T : Txt K mg, T.f_law = fa ∧ (∀ (s : Shared) (v : Value), BindsTo s T.d_law ⟨[v], []⟩ [("_law_script", v)])) :
    ∃ fd : FuncData, (∀ (s : Shared) (u : Value), BindsTo s fd ⟨[u], []⟩ [("_law_script", u)]) ∧ ∀ base : Heap, K.In base → base.Ns mainGlobals mg → FnOk P w K mg base (L2.CX P w) 10 fa fd ["_law_script"] (spLaw K) := by
  obtain ⟨T, e, hb⟩ := h
  subst e
  exact ⟨T.d_law, hb, fun base _ _ => fin T⟩
end K70
open PySem PySem.W PyProof.Rows
set_option maxHeartbeats 0 in
theorem PySem.Challenge.cw_neverdug_k70_turns_told_holds : PySem.Challenge.rw_neverdug_k70_turns_told.Holds := by
  w_on; o_law; k_head; (case hw => w_witness2)
  k_fill
  refine L2.walk_ofB (l := PySem.Challenge.rw_neverdug_k70_turns_told) (n := 63) (k := 10) (x := "_law_script") (CX := fun w => L2.CX PySem.Challenge.rw_neverdug_k70_turns_told.prog w) (sp := fun w => DL.spLaw _) rfl (by decide) rfl ⟨rfl, by decide, by decide⟩ (fun w h Y => PySem.W.kIn_of Y) ?F (fun _ _ a ns hl hb _ hS => ⟨a, ns, rfl, hS, hl, hb, fun _ => rfl⟩) (fun _ _ _ _ _ h => DL.cx_no h)
  case F =>
    intro w mg fa h KX G hmg
    refine K70.finF ?_
    refine' K70.all_mk (l := PySem.Challenge.rw_neverdug_k70_turns_told) (w := w) KX G hmg ?h_g_Yard ?h_pg_Yard ?h_hd_Yard ?h_po_Yard ?h_sa_Yard ?h_n_abs ?h_n_all ?h_n_bool ?h_n_divmod ?h_n_enumerate ?h_n_int ?h_n_isinstance ?h_n_len ?h_n_list ?h_n_max ?h_n_min ?h_n_range ?h_n_repr ?h_n_sorted ?h_n_str ?h_n_sum ?h_n_tuple ?h_n_zip ?h_g_AHEAD ?h_g_DAYS ?h_g_GONE ?h_g_LETTERS ?h_g_LONGEST_BOX ?h_g_MOST_DAYS ?h_m_law_draw ?l_law_draw ?cc_law_draw ?kk_law_draw ?h_m_law_pick ?l_law_pick ?cc_law_pick ?kk_law_pick ?h_m_law_folk ?l_law_folk ?cc_law_folk ?kk_law_folk ?h_m_law_fact ?l_law_fact ?cc_law_fact ?kk_law_fact ?h_m_is_list ?l_is_list ?cc_is_list ?kk_is_list ?h_m_is_box ?l_is_box ?cc_is_box ?kk_is_box ?h_m_want_boxes ?l_want_boxes ?cc_want_boxes ?kk_want_boxes ?h_m_is_integer ?l_is_integer ?cc_is_integer ?kk_is_integer ?h_m_want_days ?l_want_days ?cc_want_days ?kk_want_days ?h_m_is_known ?l_is_known ?cc_is_known ?kk_is_known ?h_m_is_ahead_told ?l_is_ahead_told ?cc_is_ahead_told ?kk_is_ahead_told ?h_m_are_days_told ?l_are_days_told ?cc_are_days_told ?kk_are_days_told ?h_m_is_count ?l_is_count ?cc_is_count ?kk_is_count ?h_m_is_gone_told ?l_is_gone_told ?cc_is_gone_told ?kk_is_gone_told ?h_m_is_fact ?l_is_fact ?cc_is_fact ?kk_is_fact ?h_m_want_facts ?l_want_facts ?cc_want_facts ?kk_want_facts ?h_at_Yardu_initu ?l_Yardu_initu ?cc_Yardu_initu ?kk_Yardu_initu ?h_fn_Yardu_initu ?h_mk_Yard ?h_kc_Yard ?h_at_Yard_facts ?l_Yard_facts ?cc_Yard_facts ?kk_Yard_facts ?h_fn_Yard_facts ?h_m_want_number ?l_want_number ?cc_want_number ?kk_want_number ?hp_at_Yard_days ?hp_rec_Yard_days ?l_Yard_days ?cc_Yard_days ?kk_Yard_days ?hp_get_Yard_days ?hp_tak_Yard_days ?h_at_Yardu_lenu ?l_Yardu_lenu ?cc_Yardu_lenu ?kk_Yardu_lenu ?h_fn_Yardu_lenu ?h_m_turns_of ?l_turns_of ?cc_turns_of ?kk_turns_of ?h_m_turns ?l_turns ?cc_turns ?kk_turns ?h_m_law_turns ?l_law_turns ?cc_law_turns ?kk_law_turns ?h_at_Yardu_addu ?l_Yardu_addu ?cc_Yardu_addu ?kk_Yardu_addu ?h_fn_Yardu_addu ?h_bf_Yard_add_tuple ?h_br_Yard_add_tuple ?h_bo_Yard_add_tuple ?h_bp_Yard_add_tuple ?h_bs_Yard_add_tuple ?h_m_law_mixed ?l_law_mixed ?cc_law_mixed ?kk_law_mixed ?h_m_law_told ?l_law_told ?cc_law_told ?kk_law_told ?h_m_is_list_of_days ?l_is_list_of_days ?cc_is_list_of_days ?kk_is_list_of_days ?h_at_Yardu_containsu ?l_Yardu_containsu ?cc_Yardu_containsu ?kk_Yardu_containsu ?h_fn_Yardu_containsu ?h_m_first_wrong_day ?l_first_wrong_day ?cc_first_wrong_day ?kk_first_wrong_day ?h_m_want_leaving ?l_want_leaving ?cc_want_leaving ?kk_want_leaving ?h_at_Yard_boxes ?l_Yard_boxes ?cc_Yard_boxes ?kk_Yard_boxes ?h_fn_Yard_boxes ?h_m_does_hold ?l_does_hold ?cc_does_hold ?kk_does_hold ?h_m_spots_in ?l_spots_in ?cc_spots_in ?kk_spots_in ?h_m_holds ?l_holds ?cc_holds ?kk_holds ?h_at_Yardu_equ ?l_Yardu_equ ?cc_Yardu_equ ?kk_Yardu_equ ?h_fn_Yardu_equ ?h_sub_Yard_NoneType ?h_sub_Yard_bool ?h_sub_Yard_int ?h_sub_Yard_str ?h_sub_Yard_list ?h_sub_Yard_tuple ?h_m_law_right ?l_law_right ?cc_law_right ?kk_law_right ?h_m_law_pot ?l_law_pot ?cc_law_pot ?kk_law_pot ?h_m_law ?l_law ?cc_law ?kk_law ?h_na_Yard_own_boxes ?h_na_Yard_own_days ?h_na_Yard_own_facts ?h_rd_Yard ?h_ga_Yard ?h_cv_Yard_MOST_BOXES ?h_cv_Yard_MOST_FACTS ?h_ic_Yard ?h_in_Yard ?h_it_Yard ?h_im_Yard ?h_ty_Yard
    (case h_g_Yard => k_is)
    (case h_pg_Yard => k_is)
    (case h_hd_Yard => k_is)
    (case h_po_Yard => k_is)
    (case h_sa_Yard => k_is)
    (case h_n_abs => k_is)
    (case h_n_all => k_is)
    (case h_n_bool => k_is)
    (case h_n_divmod => k_is)
    (case h_n_enumerate => k_is)
    (case h_n_int => k_is)
    (case h_n_isinstance => k_is)
    (case h_n_len => k_is)
    (case h_n_list => k_is)
    (case h_n_max => k_is)
    (case h_n_min => k_is)
    (case h_n_range => k_is)
    (case h_n_repr => k_is)
    (case h_n_sorted => k_is)
    (case h_n_str => k_is)
    (case h_n_sum => k_is)
    (case h_n_tuple => k_is)
    (case h_n_zip => k_is)
    (case h_g_AHEAD => k_is)
    (case h_g_DAYS => k_is)
    (case h_g_GONE => k_is)
    (case h_g_LETTERS => k_is)
    (case h_g_LONGEST_BOX => k_is)
    (case h_g_MOST_DAYS => k_is)
    (case h_m_law_draw => k_is)
    (case l_law_draw => k_is)
    (case cc_law_draw => k_is)
    (case kk_law_draw => k_is)
    (case h_m_law_pick => k_is)
    (case l_law_pick => k_is)
    (case cc_law_pick => k_is)
    (case kk_law_pick => k_is)
    (case h_m_law_folk => k_is)
    (case l_law_folk => k_is)
    (case cc_law_folk => k_is)
    (case kk_law_folk => k_is)
    (case h_m_law_fact => k_is)
    (case l_law_fact => k_is)
    (case cc_law_fact => k_is)
    (case kk_law_fact => k_is)
    (case h_m_is_list => k_is)
    (case l_is_list => k_is)
    (case cc_is_list => k_is)
    (case kk_is_list => k_is)
    (case h_m_is_box => k_is)
    (case l_is_box => k_is)
    (case cc_is_box => k_is)
    (case kk_is_box => k_is)
    (case h_m_want_boxes => k_is)
    (case l_want_boxes => k_is)
    (case cc_want_boxes => k_is)
    (case kk_want_boxes => k_is)
    (case h_m_is_integer => k_is)
    (case l_is_integer => k_is)
    (case cc_is_integer => k_is)
    (case kk_is_integer => k_is)
    (case h_m_want_days => k_is)
    (case l_want_days => k_is)
    (case cc_want_days => k_is)
    (case kk_want_days => k_is)
    (case h_m_is_known => k_is)
    (case l_is_known => k_is)
    (case cc_is_known => k_is)
    (case kk_is_known => k_is)
    (case h_m_is_ahead_told => k_is)
    (case l_is_ahead_told => k_is)
    (case cc_is_ahead_told => k_is)
    (case kk_is_ahead_told => k_is)
    (case h_m_are_days_told => k_is)
    (case l_are_days_told => k_is)
    (case cc_are_days_told => k_is)
    (case kk_are_days_told => k_is)
    (case h_m_is_count => k_is)
    (case l_is_count => k_is)
    (case cc_is_count => k_is)
    (case kk_is_count => k_is)
    (case h_m_is_gone_told => k_is)
    (case l_is_gone_told => k_is)
    (case cc_is_gone_told => k_is)
    (case kk_is_gone_told => k_is)
    (case h_m_is_fact => k_is)
    (case l_is_fact => k_is)
    (case cc_is_fact => k_is)
    (case kk_is_fact => k_is)
    (case h_m_want_facts => k_is)
    (case l_want_facts => k_is)
    (case cc_want_facts => k_is)
    (case kk_want_facts => k_is)
    (case h_at_Yardu_initu => k_is)
    (case l_Yardu_initu => k_is)
    (case cc_Yardu_initu => k_is)
    (case kk_Yardu_initu => k_is)
    (case h_fn_Yardu_initu => k_is)
    (case h_mk_Yard => k_is)
    (case h_kc_Yard => k_is)
    (case h_at_Yard_facts => k_is)
    (case l_Yard_facts => k_is)
    (case cc_Yard_facts => k_is)
    (case kk_Yard_facts => k_is)
    (case h_fn_Yard_facts => k_is)
    (case h_m_want_number => k_is)
    (case l_want_number => k_is)
    (case cc_want_number => k_is)
    (case kk_want_number => k_is)
    (case hp_at_Yard_days => k_is)
    (case hp_rec_Yard_days => k_is)
    (case l_Yard_days => k_is)
    (case cc_Yard_days => k_is)
    (case kk_Yard_days => k_is)
    (case hp_get_Yard_days => k_is)
    (case hp_tak_Yard_days => k_is)
    (case h_at_Yardu_lenu => k_is)
    (case l_Yardu_lenu => k_is)
    (case cc_Yardu_lenu => k_is)
    (case kk_Yardu_lenu => k_is)
    (case h_fn_Yardu_lenu => k_is)
    (case h_m_turns_of => k_is)
    (case l_turns_of => k_is)
    (case cc_turns_of => k_is)
    (case kk_turns_of => k_is)
    (case h_m_turns => k_is)
    (case l_turns => k_is)
    (case cc_turns => k_is)
    (case kk_turns => k_is)
    (case h_m_law_turns => k_is)
    (case l_law_turns => k_is)
    (case cc_law_turns => k_is)
    (case kk_law_turns => k_is)
    (case h_at_Yardu_addu => k_is)
    (case l_Yardu_addu => k_is)
    (case cc_Yardu_addu => k_is)
    (case kk_Yardu_addu => k_is)
    (case h_fn_Yardu_addu => k_is)
    (case h_bf_Yard_add_tuple => k_is)
    (case h_br_Yard_add_tuple => k_is)
    (case h_bo_Yard_add_tuple => k_is)
    (case h_bp_Yard_add_tuple => k_is)
    (case h_bs_Yard_add_tuple => k_is)
    (case h_m_law_mixed => k_is)
    (case l_law_mixed => k_is)
    (case cc_law_mixed => k_is)
    (case kk_law_mixed => k_is)
    (case h_m_law_told => k_is)
    (case l_law_told => k_is)
    (case cc_law_told => k_is)
    (case kk_law_told => k_is)
    (case h_m_is_list_of_days => k_is)
    (case l_is_list_of_days => k_is)
    (case cc_is_list_of_days => k_is)
    (case kk_is_list_of_days => k_is)
    (case h_at_Yardu_containsu => k_is)
    (case l_Yardu_containsu => k_is)
    (case cc_Yardu_containsu => k_is)
    (case kk_Yardu_containsu => k_is)
    (case h_fn_Yardu_containsu => k_is)
    (case h_m_first_wrong_day => k_is)
    (case l_first_wrong_day => k_is)
    (case cc_first_wrong_day => k_is)
    (case kk_first_wrong_day => k_is)
    (case h_m_want_leaving => k_is)
    (case l_want_leaving => k_is)
    (case cc_want_leaving => k_is)
    (case kk_want_leaving => k_is)
    (case h_at_Yard_boxes => k_is)
    (case l_Yard_boxes => k_is)
    (case cc_Yard_boxes => k_is)
    (case kk_Yard_boxes => k_is)
    (case h_fn_Yard_boxes => k_is)
    (case h_m_does_hold => k_is)
    (case l_does_hold => k_is)
    (case cc_does_hold => k_is)
    (case kk_does_hold => k_is)
    (case h_m_spots_in => k_is)
    (case l_spots_in => k_is)
    (case cc_spots_in => k_is)
    (case kk_spots_in => k_is)
    (case h_m_holds => k_is)
    (case l_holds => k_is)
    (case cc_holds => k_is)
    (case kk_holds => k_is)
    (case h_at_Yardu_equ => k_is)
    (case l_Yardu_equ => k_is)
    (case cc_Yardu_equ => k_is)
    (case kk_Yardu_equ => k_is)
    (case h_fn_Yardu_equ => k_is)
    (case h_sub_Yard_NoneType => k_is)
    (case h_sub_Yard_bool => k_is)
    (case h_sub_Yard_int => k_is)
    (case h_sub_Yard_str => k_is)
    (case h_sub_Yard_list => k_is)
    (case h_sub_Yard_tuple => k_is)
    (case h_m_law_right => k_is)
    (case l_law_right => k_is)
    (case cc_law_right => k_is)
    (case kk_law_right => k_is)
    (case h_m_law_pot => k_is)
    (case l_law_pot => k_is)
    (case cc_law_pot => k_is)
    (case kk_law_pot => k_is)
    (case h_m_law => k_is)
    (case l_law => k_is)
    (case cc_law => k_is)
    (case kk_law => k_is)
    (case h_na_Yard_own_boxes => k_is)
    (case h_na_Yard_own_days => k_is)
    (case h_na_Yard_own_facts => k_is)
    (case h_rd_Yard => k_is)
    (case h_ga_Yard => k_is)
    (case h_cv_Yard_MOST_BOXES => k_is)
    (case h_cv_Yard_MOST_FACTS => k_is)
    (case h_ic_Yard => k_is)
    (case h_in_Yard => k_is)
    (case h_it_Yard => k_is)
    (case h_im_Yard => k_is)
    (case h_ty_Yard => k_is)
