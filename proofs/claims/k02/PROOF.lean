import PyProof.Rows.All
import Wide.All
import OpenK.AllK
import Wide.FinOn
import HandS.ForMost
import HandS.Walk
import HandS.ForExc
import HandS.Wide
import HandS.TupAny
import HandS.TupMul
import HandS.Style
import HandS.Deep
import HandS.TupLe
import HandS.Text
import HandS.Codes
import HandS.NoneIn
import HandS.IsInst
import HandS.SortInts
import KE.KTupSum
import HandS.Zip
import HandS.TryOnly
import KE.GoesEnum
import HandS.SortRule
import KE.SortData
import KE.DataMinMax
import KE.DataCmp
import KE.KRevSl
import KE.IntTextLaws
import KE.KxText
import HandS.List
import HandS.More
import HandS.ExcValue
import HandS.ExcIs
import HandS.Comp
import PyProof.CompFree
import PySem.Challenge.RW_toldsums_k02_texts_of_no_row
set_option Elab.async false
set_option linter.all false
set_option maxRecDepth 100000
set_option maxHeartbeats 8000000
/-! L3a: values as deep data (Dv), what represents them in the abstract heap (Rep), slots of a def as deep data (Sl, Ok). -/
namespace L3
open PySem PySem.Spec PyProof.Rows L2

/-! ### deep data -/
inductive Dv where
  | non | bl (b : Bool) | int (i : Int) | str (x : Str)
  | tup (ds : List Dv) | lst (ds : List Dv)
  /-- the script -/
  | scr (ns : List Int)
  | dK (ks : List Key) (vs : List Dv) | dT (ks : List (List Key)) (vs : List Dv)
  /-- a dict with tuple keys that never changes -/
  | fT (ks : List (List Key)) (vs : List Dv)
  | ref (a : Addr)
  /-- an exception that was caught, by its class -/
  | exc (cls : Value)

/-- never changes -/
def Imm : HO → Prop
  | .tup _ => True
  | .frz _ _ => True
  | .ext _ => True
  | _ => False

/-- all but what stands at F stays; what is there stays there -/
structure Ext (F : Addr → Prop) (H H' : Hp) : Prop where
  keep : ∀ a o, H a = some o → (¬ F a ∨ Imm o) → H' a = some o
  live : ∀ a, H' a = none → H a = none
theorem Ext.refl {F : Addr → Prop} (H : Hp) : Ext F H H := ⟨fun _ _ h _ => h, fun _ h => h⟩
theorem Ext.trans {F : Addr → Prop} {H H1 H2 : Hp} (a : Ext F H H1) (b : Ext F H1 H2) : Ext F H H2 :=
  ⟨fun c o h q => b.keep c o (a.keep c o h q) q, fun c h => a.live c (b.live c h)⟩
theorem Ext.mono {F G : Addr → Prop} {H H' : Hp} (e : Ext F H H') (h : ∀ a, F a → G a) : Ext G H H' :=
  ⟨fun a o q k => e.keep a o q (k.elim (fun n => .inl fun f => n (h a f)) .inr), e.live⟩
abbrev No : Addr → Prop := fun _ => False
theorem Ext.of0 {F : Addr → Prop} {H H' : Hp} (e : Ext No H H') : Ext F H H' := e.mono fun _ h => h.elim
theorem Ext.new {F : Addr → Prop} {H : Hp} {p : Addr} {o : HO} (h : H p = none) : Ext F H (upd H p o) :=
  ⟨fun a u e _ => by rw [upd_ne (ne_of_none e h)]; exact e, fun a e => by
    by_cases q : a = p
    · rw [q]; exact h
    · rw [upd_ne q] at e; exact e⟩
/-- an object at F changes -/
theorem Ext.mut {F : Addr → Prop} {H : Hp} {p : Addr} {o u : HO} (h : H p = some o) (hf : F p) (hi : ¬ Imm o) : Ext F H (upd H p u) :=
  ⟨fun a v e k => by
    by_cases q : a = p
    · subst q
      rw [h] at e
      cases e
      exact (k.elim (fun n => (n hf).elim) fun i => (hi i).elim)
    · rw [upd_ne q]; exact e, fun a e => by
    by_cases q : a = p
    · subst q; rw [upd_same] at e; cases e
    · rw [upd_ne q] at e; exact e⟩
theorem Ext.same {F : Addr → Prop} {H H' : Hp} (e : Same H H') : Ext F H H' := ⟨fun a o h _ => e a o h, fun _ h => e.free h⟩
theorem Ext.to_same {H H' : Hp} (e : Ext No H H') : Same H H' := fun a o h => e.keep a o h (.inl fun f => f)

/-- a list that is read, and that no one who may write at Av writes -/
def LA (Av : Addr → Prop) (H : Hp) (a : Addr) (xs : List V) : Prop := H a = some (.lst xs) ∧ ¬ Av a
/-- a list from outside: the script -/
def Scr (K : PySem.W.Frag) (H : Hp) (a : Addr) (xs : List V) : Prop := (∃ o, H a = some (.frz o (.lst xs))) ∨ SqL K (fun _ => none) a xs
theorem SqL.k {K : PySem.W.Frag} {H : Hp} {a : Addr} {xs : List V} (h : SqL K (fun _ => none) a xs) : SqL K H a xs := by
  rcases h with (h | ⟨o, h⟩) | h
  · cases h
  · cases h
  · exact .inr h
theorem LA.rd {Av : Addr → Prop} {H : Hp} {a : Addr} {xs : List V} (h : LA Av H a xs) : Rd H a (.lst xs) := .inl h.1
theorem LA.sq {K : PySem.W.Frag} {Av : Addr → Prop} {H : Hp} {a : Addr} {xs : List V} (h : LA Av H a xs) : SqL K H a xs := .inl h.rd
theorem Scr.sq {K : PySem.W.Frag} {H : Hp} {a : Addr} {xs : List V} (h : Scr K H a xs) : SqL K H a xs := h.elim (fun h => .inl (.inr h)) SqL.k
theorem Scr.of {K : PySem.W.Frag} {H : Hp} {a : Addr} {xs : List V} (h : SqL K H a xs) (n : ∀ ys, H a ≠ some (.lst ys)) : Scr K H a xs := by
  rcases h with (h | ⟨o, h⟩) | h
  · exact (n _ h).elim
  · exact .inl ⟨o, h⟩
  · exact .inr (.inr h)
theorem LA.ext {Av F : Addr → Prop} {H H' : Hp} {a : Addr} {xs : List V} (hf : ∀ a, F a → Av a) (e : Ext F H H') (h : LA Av H a xs) : LA Av H' a xs := ⟨e.keep a _ h.1 (.inl fun f => h.2 (hf a f)), h.2⟩
theorem Scr.ext {K : PySem.W.Frag} {F : Addr → Prop} {H H' : Hp} {a : Addr} {xs : List V} (e : Ext F H H') (h : Scr K H a xs) : Scr K H' a xs := h.imp (fun ⟨o, h⟩ => ⟨o, e.keep a _ h (.inr trivial)⟩) id
theorem SqT.ext {K : PySem.W.Frag} {F : Addr → Prop} {H H' : Hp} {a : Addr} {xs : List V} (e : Ext F H H') (h : SqT K H a xs) : SqT K H' a xs := by
  rcases h with (h | ⟨o, h⟩) | h
  · exact .inl (.inl (e.keep a _ h (.inr trivial)))
  · exact .inl (.inr ⟨o, e.keep a _ h (.inr trivial)⟩)
  · exact .inr h
/-- a dict likewise -/
def DcA (Av : Addr → Prop) (H : Hp) (a : Addr) (o : HO) : Prop := (H a = some o ∧ ¬ Av a) ∨ ∃ b, H a = some (.frz b o)
theorem DcA.ext {Av F : Addr → Prop} {H H' : Hp} {a : Addr} {u : HO} (hf : ∀ a, F a → Av a) (e : Ext F H H') (h : DcA Av H a u) : DcA Av H' a u := by
  rcases h with ⟨h, n⟩ | ⟨o, h⟩
  · exact .inl ⟨e.keep a _ h (.inl fun f => n (hf a f)), n⟩
  · exact .inr ⟨o, e.keep a _ h (.inr trivial)⟩

/-- an exception of a class, no dict of its own -/
def XcO (cls : Value) (a : Addr) : HO := .ext fun h => ∃ (oe : Obj) (vs : Array Value), h.get? a = some oe ∧ Zc cls none oe ∧ oe.data = .fields vs
/-! ### what represents what -/
section
variable (K : PySem.W.Frag) (Av : Addr → Prop) (H : Hp)
mutual
inductive Rep : V → Dv → Prop
  | non : Rep .non .non
  | bl (b : Bool) : Rep (.bl b) (.bl b)
  | int (i : Int) : Rep (.int i) (.int i)
  | str (x : Str) : Rep (.str x) (.str x)
  | tup {a : Addr} {xs : List V} {ds : List Dv} : SqT K H a xs → RepL xs ds → Rep (.ref a) (.tup ds)
  | scr {a : Addr} {ns : List Int} : Scr K H a (ns.map V.int) → Rep (.ref a) (.scr ns)
  | lst {a : Addr} {xs : List V} {ds : List Dv} : LA Av H a xs → RepL xs ds → Rep (.ref a) (.lst ds)
  | dK {a : Addr} {kvs : List (Key × V)} {ks : List Key} {vs : List Dv} : DcA Av H a (.dK kvs) → ks = kvs.map (·.1) → RepL (kvs.map (·.2)) vs → Rep (.ref a) (.dK ks vs)
  | dT {a : Addr} {kvs : List (List Key × V)} {ks : List (List Key)} {vs : List Dv} : DcA Av H a (.dT kvs) → ks = kvs.map (·.1) → RepL (kvs.map (·.2)) vs → Rep (.ref a) (.dT ks vs)
  | fT {a : Addr} {kvs : List (List Key × V)} {ks : List (List Key)} {vs : List Dv} : (∃ o, H a = some (.frz o (.dT kvs))) → ks = kvs.map (·.1) → RepL (kvs.map (·.2)) vs → Rep (.ref a) (.fT ks vs)
  | ref (a : Addr) : Rep (.ref a) (.ref a)
  | exc {a : Addr} {cls : Value} : H a = some (XcO cls a) → Rep (.ref a) (.exc cls)
inductive RepL : List V → List Dv → Prop
  | nil : RepL [] []
  | cons {x : V} {d : Dv} {xs : List V} {ds : List Dv} : Rep x d → RepL xs ds → RepL (x :: xs) (d :: ds)
end
end
section
variable {K : PySem.W.Frag} {Av Av' F : Addr → Prop} {H H' : Hp}
mutual
theorem Rep.map (hs : ∀ a xs, Scr K H a xs → Scr K H' a xs) (hl : ∀ a xs, LA Av H a xs → LA Av' H' a xs) (ht : ∀ a xs, SqT K H a xs → SqT K H' a xs) (hd : ∀ a o, DcA Av H a o → DcA Av' H' a o) (hz : ∀ a u, H a = some u → Imm u → H' a = some u) : ∀ {x : V} {d : Dv}, Rep K Av H x d → Rep K Av' H' x d
  | _, _, .non => .non
  | _, _, .bl b => .bl b
  | _, _, .int i => .int i
  | _, _, .str x => .str x
  | _, _, .tup h r => .tup (ht _ _ h) (RepL.map hs hl ht hd hz r)
  | _, _, .scr h => .scr (hs _ _ h)
  | _, _, .lst h r => .lst (hl _ _ h) (RepL.map hs hl ht hd hz r)
  | _, _, .dK h e r => .dK (hd _ _ h) e (RepL.map hs hl ht hd hz r)
  | _, _, .dT h e r => .dT (hd _ _ h) e (RepL.map hs hl ht hd hz r)
  | _, _, .fT h e r => .fT (h.imp fun _ h => hz _ _ h trivial) e (RepL.map hs hl ht hd hz r)
  | _, _, .ref a => .ref a
  | _, _, .exc h => .exc (hz _ _ h trivial)
theorem RepL.map (hs : ∀ a xs, Scr K H a xs → Scr K H' a xs) (hl : ∀ a xs, LA Av H a xs → LA Av' H' a xs) (ht : ∀ a xs, SqT K H a xs → SqT K H' a xs) (hd : ∀ a o, DcA Av H a o → DcA Av' H' a o) (hz : ∀ a u, H a = some u → Imm u → H' a = some u) : ∀ {xs : List V} {ds : List Dv}, RepL K Av H xs ds → RepL K Av' H' xs ds
  | _, _, .nil => .nil
  | _, _, .cons h r => .cons (Rep.map hs hl ht hd hz h) (RepL.map hs hl ht hd hz r)
end
theorem Rep.ext (hf : ∀ a, F a → Av a) (e : Ext F H H') {x : V} {d : Dv} (h : Rep K Av H x d) : Rep K Av H' x d := h.map (fun _ _ q => q.ext e) (fun _ _ q => q.ext hf e) (fun _ _ q => SqT.ext e q) (fun _ _ q => q.ext hf e) (fun a u q i => e.keep a _ q (.inr i))
theorem RepL.ext (hf : ∀ a, F a → Av a) (e : Ext F H H') {x : List V} {d : List Dv} (h : RepL K Av H x d) : RepL K Av H' x d := h.map (fun _ _ q => q.ext e) (fun _ _ q => q.ext hf e) (fun _ _ q => SqT.ext e q) (fun _ _ q => q.ext hf e) (fun a u q i => e.keep a _ q (.inr i))
theorem LA.anti (hf : ∀ a, Av' a → Av a) {a : Addr} {xs : List V} (h : LA Av H a xs) : LA Av' H a xs := ⟨h.1, fun f => h.2 (hf a f)⟩
theorem DcA.anti (hf : ∀ a, Av' a → Av a) {a : Addr} {o : HO} (h : DcA Av H a o) : DcA Av' H a o := by
  rcases h with ⟨h, n⟩ | ⟨b, h⟩
  · exact .inl ⟨h, fun f => n (hf a f)⟩
  · exact .inr ⟨b, h⟩
/-- fewer may be written -/
theorem Rep.anti (hf : ∀ a, Av' a → Av a) {x : V} {d : Dv} (h : Rep K Av H x d) : Rep K Av' H x d := h.map (fun _ _ q => q) (fun _ _ q => q.anti hf) (fun _ _ q => q) (fun _ _ q => q.anti hf) (fun _ _ q _ => q)
theorem RepL.anti (hf : ∀ a, Av' a → Av a) {x : List V} {d : List Dv} (h : RepL K Av H x d) : RepL K Av' H x d := h.map (fun _ _ q => q) (fun _ _ q => q.anti hf) (fun _ _ q => q) (fun _ _ q => q.anti hf) (fun _ _ q _ => q)
/-- what is new may be written besides -/
theorem LA.more (hn : ∀ a, Av' a → Av a ∨ H a = none) {a : Addr} {xs : List V} (h : LA Av H a xs) : LA Av' H a xs :=
  ⟨h.1, fun f => (hn a f).elim h.2 fun z => by rw [h.1] at z; cases z⟩
theorem DcA.more (hn : ∀ a, Av' a → Av a ∨ H a = none) {a : Addr} {o : HO} (h : DcA Av H a o) : DcA Av' H a o := by
  rcases h with ⟨h, n⟩ | ⟨b, h⟩
  · exact .inl ⟨h, fun f => (hn a f).elim n fun z => by rw [h] at z; cases z⟩
  · exact .inr ⟨b, h⟩
theorem Rep.more (hn : ∀ a, Av' a → Av a ∨ H a = none) {x : V} {d : Dv} (h : Rep K Av H x d) : Rep K Av' H x d := h.map (fun _ _ q => q) (fun _ _ q => q.more hn) (fun _ _ q => q) (fun _ _ q => q.more hn) (fun _ _ q _ => q)
theorem RepL.more (hn : ∀ a, Av' a → Av a ∨ H a = none) {x : List V} {d : List Dv} (h : RepL K Av H x d) : RepL K Av' H x d := h.map (fun _ _ q => q) (fun _ _ q => q.more hn) (fun _ _ q => q) (fun _ _ q => q.more hn) (fun _ _ q _ => q)
/-- an object at l, that all avoid, changes -/
theorem LA.mut {l : Addr} {o : HO} (hl : Av l) (hi : ∀ u, H l = some u → ¬ Imm u) {a : Addr} {xs : List V} (h : LA Av H a xs) : LA Av (upd H l o) a xs :=
  ⟨by rw [upd_ne (show a ≠ l from fun z => h.2 (by rw [z]; exact hl))]; exact h.1, h.2⟩
theorem Scr.mut {l : Addr} {o : HO} (hi : ∀ u, H l = some u → ¬ Imm u) {a : Addr} {xs : List V} (h : Scr K H a xs) : Scr K (upd H l o) a xs :=
  h.imp (fun ⟨b, h⟩ => ⟨b, by rw [upd_ne (show a ≠ l from fun z => hi _ (by rw [← z]; exact h) (show Imm _ from (by trivial)))]; exact h⟩) id
theorem DcA.mut {l : Addr} {o u : HO} (hl : Av l) (hi : ∀ u, H l = some u → ¬ Imm u) {a : Addr} (h : DcA Av H a u) : DcA Av (upd H l o) a u := by
  rcases h with ⟨h, n⟩ | ⟨b, h⟩
  · exact .inl ⟨by rw [upd_ne (show a ≠ l from fun z => n (by rw [z]; exact hl))]; exact h, n⟩
  · exact .inr ⟨b, by rw [upd_ne (show a ≠ l from fun z => hi _ (by rw [← z]; exact h) (show Imm _ from (by trivial)))]; exact h⟩
theorem SqT.mut {l : Addr} {o : HO} (hi : ∀ u, H l = some u → ¬ Imm u) {a : Addr} {xs : List V} (h : SqT K H a xs) : SqT K (upd H l o) a xs := by
  rcases h with (h | ⟨b, h⟩) | h
  · exact .inl (.inl (by rw [upd_ne (show a ≠ l from fun z => hi _ (by rw [← z]; exact h) (show Imm _ from (by trivial)))]; exact h))
  · exact .inl (.inr ⟨b, by rw [upd_ne (show a ≠ l from fun z => hi _ (by rw [← z]; exact h) (show Imm _ from (by trivial)))]; exact h⟩)
  · exact .inr h
theorem Rep.mut {l : Addr} {o : HO} (hl : Av l) (hi : ∀ u, H l = some u → ¬ Imm u) {x : V} {d : Dv} (h : Rep K Av H x d) : Rep K Av (upd H l o) x d := h.map (fun _ _ q => q.mut hi) (fun _ _ q => q.mut hl hi) (fun _ _ q => SqT.mut hi q) (fun _ _ q => q.mut hl hi) (fun a u q i => by rw [upd_ne (show a ≠ l from fun z => hi _ (by rw [← z]; exact q) i)]; exact q)
theorem RepL.mut {l : Addr} {o : HO} (hl : Av l) (hi : ∀ u, H l = some u → ¬ Imm u) {x : List V} {d : List Dv} (h : RepL K Av H x d) : RepL K Av (upd H l o) x d := h.map (fun _ _ q => q.mut hi) (fun _ _ q => q.mut hl hi) (fun _ _ q => SqT.mut hi q) (fun _ _ q => q.mut hl hi) (fun a u q i => by rw [upd_ne (show a ≠ l from fun z => hi _ (by rw [← z]; exact q) i)]; exact q)
/-! no list, no dict within -/
mutual
def flat : Dv → Bool
  | .tup ds => flatL ds
  | .lst _ => false
  | .dK _ _ => false
  | .dT _ _ => false
  | .fT _ vs => flatL vs
  | _ => true
def flatL : List Dv → Bool
  | [] => true
  | d :: ds => flat d && flatL ds
end
mutual
theorem Rep.flat : ∀ {x : V} {d : Dv}, flat d = true → Rep K Av H x d → Rep K Av' H x d
  | _, _, _, .non => .non
  | _, _, _, .bl b => .bl b
  | _, _, _, .int i => .int i
  | _, _, _, .str x => .str x
  | _, _, h, .tup q r => .tup q (RepL.flat h r)
  | _, _, _, .scr q => .scr q
  | _, _, h, .lst q r => nomatch h
  | _, _, h, .dK q e r => nomatch h
  | _, _, h, .dT q e r => nomatch h
  | _, _, h, .fT q e r => .fT q e (RepL.flat h r)
  | _, _, _, .ref a => .ref a
  | _, _, _, .exc h => .exc h
theorem RepL.flat : ∀ {xs : List V} {ds : List Dv}, flatL ds = true → RepL K Av H xs ds → RepL K Av' H xs ds
  | _, _, _, .nil => .nil
  | _, _, h, .cons q r => .cons (Rep.flat (Bool.and_eq_true_iff.mp h).1 q) (RepL.flat (Bool.and_eq_true_iff.mp h).2 r)
end
theorem RepL.length : ∀ {xs : List V} {ds : List Dv}, RepL K Av H xs ds → xs.length = ds.length
  | _, _, .nil => rfl
  | _, _, .cons _ r => by rw [List.length_cons, List.length_cons, RepL.length r]
theorem RepL.get : ∀ {xs : List V} {ds : List Dv} {i : Nat} {x : V}, RepL K Av H xs ds → xs[i]? = some x → ∃ d, ds[i]? = some d ∧ Rep K Av H x d
  | _, _, _, _, .nil, h => by simp at h
  | _, _, 0, _, .cons q _, h => ⟨_, rfl, by cases h; exact q⟩
  | _, _, i + 1, x, .cons _ r, h => by
    obtain ⟨d, h1, h2⟩ := RepL.get (i := i) (x := x) r (by simpa using h)
    exact ⟨d, by simpa using h1, h2⟩
theorem RepL.get' : ∀ {xs : List V} {ds : List Dv} {i : Nat} {d : Dv}, RepL K Av H xs ds → ds[i]? = some d → ∃ x, xs[i]? = some x ∧ Rep K Av H x d
  | _, _, _, _, .nil, h => by simp at h
  | _, _, 0, _, .cons q _, h => ⟨_, rfl, by cases h; exact q⟩
  | _, _, i + 1, d, .cons _ r, h => by
    obtain ⟨x, h1, h2⟩ := RepL.get' (i := i) (d := d) r (by simpa using h)
    exact ⟨x, by simpa using h1, h2⟩
theorem RepL.append : ∀ {xs ys : List V} {ds es : List Dv}, RepL K Av H xs ds → RepL K Av H ys es → RepL K Av H (xs ++ ys) (ds ++ es)
  | _, _, _, _, .nil, r => r
  | _, _, _, _, .cons q r, r' => .cons q (RepL.append r r')
theorem RepL.take : ∀ {xs : List V} {ds : List Dv} (n : Nat), RepL K Av H xs ds → RepL K Av H (xs.take n) (ds.take n)
  | _, _, 0, _ => .nil
  | _, _, _ + 1, .nil => .nil
  | _, _, n + 1, .cons q r => .cons q (RepL.take n r)
theorem RepL.drop : ∀ {xs : List V} {ds : List Dv} (n : Nat), RepL K Av H xs ds → RepL K Av H (xs.drop n) (ds.drop n)
  | _, _, 0, r => r
  | _, _, _ + 1, .nil => .nil
  | _, _, n + 1, .cons _ r => RepL.drop n r
theorem RepL.reverse {xs : List V} {ds : List Dv} (h : RepL K Av H xs ds) : RepL K Av H xs.reverse ds.reverse := by
  induction h using RepL.rec (motive_1 := fun _ _ _ => True) with
  | nil => exact .nil
  | cons q r _ ih => rw [List.reverse_cons, List.reverse_cons]; exact ih.append (.cons q .nil)
  | _ => trivial
theorem RepL.set {x : V} {d : Dv} (q : Rep K Av H x d) : ∀ {xs : List V} {ds : List Dv} (i : Nat), RepL K Av H xs ds → RepL K Av H (xs.set i x) (ds.set i d)
  | _, _, _, .nil => .nil
  | _, _, 0, .cons _ r => .cons q r
  | _, _, i + 1, .cons q' r => .cons q' (RepL.set q i r)
theorem RepL.rep {x : V} {d : Dv} (q : Rep K Av H x d) : ∀ n : Nat, RepL K Av H (List.replicate n x) (List.replicate n d)
  | 0 => .nil
  | n + 1 => .cons q (RepL.rep q n)
theorem RepL.ints {xs : List V} : ∀ {ns : List Int}, RepL K Av H xs (ns.map Dv.int) → xs = ns.map V.int := by
  induction xs with
  | nil => intro ns h; cases ns with
    | nil => rfl
    | cons n r => cases h
  | cons x r ih =>
    intro ns h
    cases ns with
    | nil => cases h
    | cons n s =>
      cases h with
      | cons q h =>
        cases q
        rw [ih h]
        rfl
theorem RepL.of_ints : ∀ (ns : List Int), RepL K Av H (ns.map V.int) (ns.map Dv.int)
  | [] => .nil
  | n :: r => .cons (.int n) (RepL.of_ints r)
theorem RepL.strs {xs : List V} : ∀ {ns : List Str}, RepL K Av H xs (ns.map Dv.str) → xs = ns.map V.str := by
  induction xs with
  | nil => intro ns h; cases ns with
    | nil => rfl
    | cons n r => cases h
  | cons x r ih =>
    intro ns h
    cases ns with
    | nil => cases h
    | cons n s =>
      cases h with
      | cons q h =>
        cases q
        rw [ih h]
        rfl
theorem RepL.of_strs : ∀ (ns : List Str), RepL K Av H (ns.map V.str) (ns.map Dv.str)
  | [] => .nil
  | n :: r => .cons (.str n) (RepL.of_strs r)
end

/-! ### the slots of a def -/
inductive Sl : Type where
  | no
  | v (d : Dv)
  /-- a list or dict of the def's own, that it may change -/
  | own (l : Addr) (d : Dv)
  /-- own lists or dicts that no name leads to at once; nothing is said of the name's own value -/
  | many (as : List Addr) (ds : List Dv)
  /-- what the resource's things hold at this time (no name's value) -/
  | st (ds : List Dv)
def Sl.addrs : Sl → List Addr
  | .own l _ => [l]
  | .many as _ => as
  | _ => []
abbrev Es := List Sl
def owned (es : Es) : List Addr := es.flatMap Sl.addrs
theorem owned_cons {s : Sl} {es : Es} : owned (s :: es) = s.addrs ++ owned es := rfl
theorem mem_ownedA {es : Es} {i : Nat} {s : Sl} {l : Addr} (h : es[i]? = some s) (hl : l ∈ s.addrs) : l ∈ owned es := List.mem_flatMap.mpr ⟨s, List.mem_of_getElem? h, hl⟩
theorem owned_get {es : Es} {l : Addr} (h : l ∈ owned es) : ∃ (i : Nat) (s : Sl), es[i]? = some s ∧ l ∈ s.addrs := by
  obtain ⟨s, hs, hl⟩ := List.mem_flatMap.mp h
  obtain ⟨i, hi⟩ := List.mem_iff_getElem?.mp hs
  exact ⟨i, s, hi, hl⟩
/-- two slots own nothing together -/
theorem owned_apart : ∀ {es : Es} {i j : Nat} {s t : Sl} {l : Addr}, (owned es).Nodup → es[i]? = some s → es[j]? = some t → l ∈ s.addrs → l ∈ t.addrs → i = j
  | [], i, j, s, t, l, _, h, _, _, _ => by simp at h
  | u :: r, i, j, s, t, l, nd, h1, h2, m1, m2 => by
    rw [owned_cons] at nd
    obtain ⟨_, nr, dj⟩ := List.nodup_append.mp nd
    cases i with
    | zero =>
      cases j with
      | zero => rfl
      | succ j =>
        have e1 : u = s := by simpa using h1
        have e2 : r[j]? = some t := by simpa using h2
        exact absurd rfl (dj l (by rw [e1]; exact m1) l (mem_ownedA e2 m2))
    | succ i =>
      cases j with
      | zero =>
        have e1 : u = t := by simpa using h2
        have e2 : r[i]? = some s := by simpa using h1
        exact absurd rfl (dj l (by rw [e1]; exact m2) l (mem_ownedA e2 m1))
      | succ j => rw [owned_apart (es := r) (i := i) (j := j) nr (by simpa using h1) (by simpa using h2) m1 m2]

/-- a resource: F: where calls may change what stands; Z: what is true of it -/
structure RS where
  F : Addr → Prop
  Z : Hp → Prop
  zst : ∀ H H', Z H → (∀ a o, (F a ∨ Imm o) → H a = some o → H' a = some o) → Z H'
  /-- what the resource's things hold -/
  S : List V → Hp → Prop := fun _ _ => True
  sst : ∀ vs H H', S vs H → (∀ a o, (F a ∨ Imm o) → H a = some o → H' a = some o) → S vs H' := by exact fun _ _ _ _ _ => trivial
  /-- that is never changed -/
  ro : Bool := true
/-- none -/
def R0 : RS := { F := No, Z := fun _ => True, zst := fun _ _ _ _ => trivial }
/-- what is fixed through a def's body: A0: what its arguments avoid; H0: the heap at the entry; gh: values that stay although no slot holds them -/
structure DC (R : RS) where
  A0 : Addr → Prop
  H0 : Hp
  gh : List (V × Dv)
  fA : ∀ a, R.F a → A0 a
  live : ∀ a, A0 a → H0 a ≠ none
abbrev DC.push {R : RS} (C : DC R) (gs : List (V × Dv)) : DC R := { C with gh := gs ++ C.gh }
def DC.Av {R : RS} (C : DC R) (es : Es) : Addr → Prop := fun a => C.A0 a ∨ a ∈ owned es

def OwnAt (K : PySem.W.Frag) (Av : Addr → Prop) (H : Hp) (l : Addr) : Dv → Prop
  | .lst ds => ∃ xs, H l = some (.lst xs) ∧ RepL K Av H xs ds
  | .dK ks vs => ∃ kvs, H l = some (.dK kvs) ∧ ks = kvs.map (·.1) ∧ RepL K Av H (kvs.map (·.2)) vs
  | .dT ks vs => ∃ kvs, H l = some (.dT kvs) ∧ ks = kvs.map (·.1) ∧ RepL K Av H (kvs.map (·.2)) vs
  | _ => False
section
variable {K : PySem.W.Frag} {Av Av' F : Addr → Prop} {H H' : Hp} {l : Addr}
theorem OwnAt.map (h1 : ∀ o, H l = some o → ¬ Imm o → H' l = some o) (h2 : ∀ xs ds, RepL K Av H xs ds → RepL K Av' H' xs ds) : ∀ {d : Dv}, OwnAt K Av H l d → OwnAt K Av' H' l d
  | .lst _, ⟨xs, e, r⟩ => ⟨xs, h1 _ e (fun z => z), h2 _ _ r⟩
  | .dK _ _, ⟨kvs, e, q, r⟩ => ⟨kvs, h1 _ e (fun z => z), q, h2 _ _ r⟩
  | .dT _ _, ⟨kvs, e, q, r⟩ => ⟨kvs, h1 _ e (fun z => z), q, h2 _ _ r⟩
theorem OwnAt.there : ∀ {d : Dv}, OwnAt K Av H l d → ∃ o, H l = some o ∧ ¬ Imm o
  | .lst _, ⟨_, e, _⟩ => ⟨_, e, fun z => z⟩
  | .dK _ _, ⟨_, e, _⟩ => ⟨_, e, fun z => z⟩
  | .dT _ _, ⟨_, e, _⟩ => ⟨_, e, fun z => z⟩
/-- an own thing, seen as a value -/
theorem OwnAt.rep (n : ¬ Av' l) (ha : ∀ a, Av' a → Av a) : ∀ {d : Dv}, OwnAt K Av H l d → Rep K Av' H (.ref l) d
  | .lst _, ⟨_, e, r⟩ => .lst ⟨e, n⟩ (r.anti ha)
  | .dK _ _, ⟨_, e, q, r⟩ => .dK (.inl ⟨e, n⟩) q (r.anti ha)
  | .dT _ _, ⟨_, e, q, r⟩ => .dT (.inl ⟨e, n⟩) q (r.anti ha)
end

structure Ok (K : PySem.W.Frag) {R : RS} (C : DC R) (es : Es) (σ : L2.St) (H : Hp) : Prop where
  len : σ.length = es.length
  val : ∀ (i : Nat) (d : Dv), es[i]? = some (.v d) → ∃ x, σ[i]? = some (some x) ∧ Rep K (C.Av es) H x d
  own : ∀ (i : Nat) (l : Addr) (d : Dv), es[i]? = some (.own l d) → σ[i]? = some (some (.ref l)) ∧ OwnAt K (C.Av es) H l d
  many : ∀ (i : Nat) (as : List Addr) (ds : List Dv), es[i]? = some (.many as ds) → as.length = ds.length ∧ ∀ (k : Nat) (a : Addr) (d : Dv), as[k]? = some a → ds[k]? = some d → OwnAt K (C.Av es) H a d
  fresh : ∀ l ∈ owned es, C.H0 l = none
  nd : (owned es).Nodup
  ext : Ext R.F C.H0 H
  z : R.Z H
  gh : ∀ p ∈ C.gh, Rep K (C.Av es) H p.1 p.2
  ro : R.ro = true → ∀ vs, R.S vs C.H0 → R.S vs H
  stt : ∀ (i : Nat) (ds : List Dv), es[i]? = some (.st ds) → ∃ vs, R.S vs H ∧ RepL K (C.Av es) H vs ds
  one : ∀ (i j : Nat) (ds ds' : List Dv), es[i]? = some (.st ds) → es[j]? = some (.st ds') → i = j
/-- behind an expression -/
structure Aft (R : RS) (H H' : Hp) : Prop where
  ext : Ext R.F H H'
  z : R.Z H'
  st : ∀ vs, R.S vs H → R.S vs H'
theorem Aft.of {R : RS} {H H' : Hp} (e : Ext R.F H H') (z : R.Z H) (k : ∀ a o, (R.F a ∨ Imm o) → H a = some o → H' a = some o) : Aft R H H' := ⟨e, R.zst H H' z k, fun vs s => R.sst vs H H' s k⟩
section
variable {K : PySem.W.Frag} {R : RS} {C : DC R} {es : Es} {σ : L2.St} {H H' H'' : Hp}
theorem Aft.trans (a : Aft R H H') (b : Aft R H' H'') : Aft R H H'' := ⟨a.ext.trans b.ext, b.z, fun vs s => b.st vs (a.st vs s)⟩
theorem mem_owned {i : Nat} {l : Addr} {d : Dv} (h : es[i]? = some (.own l d)) : l ∈ owned es := mem_ownedA h (List.mem_singleton.mpr rfl)
theorem mem_many {i k : Nat} {as : List Addr} {ds : List Dv} {a : Addr} (h : es[i]? = some (.many as ds)) (hk : as[k]? = some a) : a ∈ owned es := mem_ownedA h (List.mem_of_getElem? hk)
theorem DC.avF (C : DC R) (es : Es) (a : Addr) (h : R.F a) : C.Av es a := .inl (C.fA a h)
theorem Ok.notA (o : Ok K C es σ H) {l : Addr} (h : l ∈ owned es) : ¬ C.A0 l := fun a => C.live l a (o.fresh l h)
theorem Ok.notF (o : Ok K C es σ H) {l : Addr} (h : l ∈ owned es) : ¬ R.F l := fun f => o.notA h (C.fA l f)
theorem Ok.here (o : Ok K C es σ H) : Aft R H H := ⟨Ext.refl H, o.z, fun _ s => s⟩
theorem Ok.aft (o : Ok K C es σ H) (a : Aft R H H') : Ok K C es σ H' where
  len := o.len
  val := fun i d h => let ⟨x, e, r⟩ := o.val i d h; ⟨x, e, r.ext (C.avF es) a.ext⟩
  own := fun i l d h => let ⟨e, r⟩ := o.own i l d h; ⟨e, r.map (fun u q _ => a.ext.keep l u q (.inl (o.notF (mem_owned h)))) fun _ _ q => q.ext (C.avF es) a.ext⟩
  many := fun i as ds h => let ⟨e, r⟩ := o.many i as ds h; ⟨e, fun k b d h1 h2 => (r k b d h1 h2).map (fun u q _ => a.ext.keep b u q (.inl (o.notF (mem_many h h1)))) fun _ _ q => q.ext (C.avF es) a.ext⟩
  fresh := o.fresh
  nd := o.nd
  ext := o.ext.trans a.ext
  z := a.z
  gh := fun p hp => (o.gh p hp).ext (C.avF es) a.ext
  ro := fun h vs s => a.st vs (o.ro h vs s)
  stt := fun i ds h => let ⟨vs, s, r⟩ := o.stt i ds h; ⟨vs, a.st vs s, r.ext (C.avF es) a.ext⟩
  one := o.one
/-- something new is laid -/
theorem Ok.aft_new (o : Ok K C es σ H) {p : Addr} {u : HO} (h : H p = none) : Aft R H (upd H p u) :=
  Aft.of (Ext.new h) o.z fun a v _ e => by rw [upd_ne (ne_of_none e h)]; exact e
theorem Ok.aft0 (o : Ok K C es σ H) (e : Ext No H H') : Aft R H H' := Aft.of e.of0 o.z fun a v _ q => e.keep a v q (.inl fun z => z)
theorem Aft.aft0 (o : Aft R H H') (e : Ext No H' H'') : Aft R H H'' := o.trans (Aft.of e.of0 o.z fun a v _ q => e.keep a v q (.inl fun z => z))
theorem Aft.aft_new (o : Aft R H H') {p : Addr} {u : HO} (h : H' p = none) : Aft R H (upd H' p u) := o.aft0 (Ext.new h)
theorem Ok.live (o : Ok K C es σ H) {l : Addr} (h : C.Av es l) : H l ≠ none := by
  rcases h with h | h
  · exact fun z => C.live l h (o.ext.live l z)
  · obtain ⟨i, s, hi, e⟩ := owned_get h
    cases s with
    | own k d =>
      cases List.mem_singleton.mp e
      obtain ⟨_, q⟩ := o.own i _ d hi
      obtain ⟨u, q, _⟩ := q.there
      rw [q]
      exact fun z => nomatch z
    | many as ds =>
      obtain ⟨k, hk⟩ := List.mem_iff_getElem?.mp e
      obtain ⟨e1, q⟩ := o.many i as ds hi
      have hlt : k < ds.length := by rw [← e1]; exact (List.getElem?_eq_some_iff.mp hk).1
      obtain ⟨u, q, _⟩ := (q k l _ hk (List.getElem?_eq_getElem hlt)).there
      rw [q]
      exact fun z => nomatch z
    | no => cases e
    | v d => cases e
    | st ds => cases e
end

/-! changing a slot -/
section
variable {K : PySem.W.Frag} {R : RS} {C : DC R} {es : Es} {σ : L2.St} {H H' : Hp}
theorem owned_set_sub {i : Nat} {s : Sl} {l : Addr} (h : l ∈ owned (es.set i s)) : l ∈ s.addrs ∨ l ∈ owned es := by
  obtain ⟨t, ht, e⟩ := List.mem_flatMap.mp h
  rcases List.mem_or_eq_of_mem_set ht with q | q
  · exact .inr (List.mem_flatMap.mpr ⟨t, q, e⟩)
  · exact .inl (q ▸ e)
/-- what a slot owned goes, what it will own comes -/
theorem nodup_set : ∀ {es : Es} {i : Nat} {s : Sl}, (owned es).Nodup → s.addrs.Nodup → (∀ l ∈ s.addrs, l ∉ owned es ∨ ∃ t, es[i]? = some t ∧ l ∈ t.addrs) → (owned (es.set i s)).Nodup
  | [], i, s, hd, _, _ => hd
  | t :: r, 0, s, hd, hn, hs => by
    show (owned (s :: r)).Nodup
    rw [owned_cons] at hd ⊢
    obtain ⟨_, nr, dj⟩ := List.nodup_append.mp hd
    refine List.nodup_append.mpr ⟨hn, nr, fun a ha b hb e => ?_⟩
    subst e
    rcases hs a ha with z | ⟨u, hu, z⟩
    · exact z (List.mem_append_right _ hb)
    · have e1 : t = u := by simpa using hu
      subst e1
      exact dj a z a hb rfl
  | t :: r, i + 1, s, hd, hn, hs => by
    show (owned (t :: r.set i s)).Nodup
    rw [owned_cons] at hd ⊢
    obtain ⟨nt, nr, dj⟩ := List.nodup_append.mp hd
    have sub : ∀ l ∈ s.addrs, l ∉ owned r ∨ ∃ t, r[i]? = some t ∧ l ∈ t.addrs := fun l hl => by
      rcases hs l hl with z | ⟨u, hu, z⟩
      · exact .inl fun w => z (List.mem_append_right _ w)
      · exact .inr ⟨u, by simpa using hu, z⟩
    refine List.nodup_append.mpr ⟨nt, nodup_set nr hn sub, fun a ha b hb e => ?_⟩
    subst e
    rcases owned_set_sub hb with z | z
    · rcases hs a z with w | ⟨u, hu, w⟩
      · exact w (List.mem_append_left _ ha)
      · exact dj a ha a (mem_ownedA (show r[i]? = some u by simpa using hu) w) rfl
    · exact dj a ha a z rfl
/-- the general step: slot i led to another thing, the heap changed -/
theorem Ok.updG (o : Ok K C es σ H) {i : Nat} {s : Sl} {x : Option V} (hi : i < es.length)
    (hv : ∀ y d, Rep K (C.Av es) H y d → Rep K (C.Av (es.set i s)) H' y d)
    (hvl : ∀ y d, RepL K (C.Av es) H y d → RepL K (C.Av (es.set i s)) H' y d)
    (ho : ∀ l o, l ∈ owned es → l ∉ s.addrs → H l = some o → ¬ Imm o → H' l = some o)
    (h1 : ∀ d, s = .v d → ∃ y, x = some y ∧ Rep K (C.Av (es.set i s)) H' y d)
    (h2 : ∀ l d, s = .own l d → x = some (.ref l) ∧ OwnAt K (C.Av (es.set i s)) H' l d)
    (h3 : ∀ as ds, s = .many as ds → as.length = ds.length ∧ ∀ (k : Nat) (a : Addr) (d : Dv), as[k]? = some a → ds[k]? = some d → OwnAt K (C.Av (es.set i s)) H' a d)
    (hn : s.addrs.Nodup) (hf : ∀ l ∈ s.addrs, C.H0 l = none ∧ (l ∉ owned es ∨ ∃ t, es[i]? = some t ∧ l ∈ t.addrs))
    (ext : Ext R.F C.H0 H') (z : R.Z H') (hs : ∀ vs, R.S vs H → R.S vs H') (h4 : ∀ ds, s ≠ .st ds) : Ok K C (es.set i s) (σ.set i x) H' := by
  have hiσ : i < σ.length := by rw [o.len]; exact hi
  have ne : ∀ j t l, j ≠ i → es[j]? = some t → l ∈ t.addrs → l ∉ s.addrs := fun j t l hj ht hl hs => by
    rcases (hf l hs).2 with w | ⟨u, hu, w⟩
    · exact w (mem_ownedA ht hl)
    · exact hj (owned_apart o.nd ht hu hl w)
  refine ⟨by rw [List.length_set, List.length_set]; exact o.len, fun j d h => ?_, fun j l d h => ?_, fun j as ds h => ?_, fun l h => ?_, nodup_set o.nd hn fun l hl => (hf l hl).2, ext, z, fun p hp => hv _ _ (o.gh p hp), fun h vs s => hs vs (o.ro h vs s), fun j ds h => ?_, fun j k ds ds' h1 h2 => ?_⟩
  · by_cases hj : j = i
    · subst hj
      rw [List.getElem?_set_self hi] at h
      obtain ⟨y, e, r⟩ := h1 d (Option.some.inj h)
      exact ⟨y, by rw [List.getElem?_set_self hiσ, e], r⟩
    · rw [List.getElem?_set_ne (Ne.symm hj)] at h
      obtain ⟨y, e, r⟩ := o.val j d h
      exact ⟨y, by rw [List.getElem?_set_ne (Ne.symm hj)]; exact e, hv _ _ r⟩
  · by_cases hj : j = i
    · subst hj
      rw [List.getElem?_set_self hi] at h
      obtain ⟨e, r⟩ := h2 l d (Option.some.inj h)
      exact ⟨by rw [List.getElem?_set_self hiσ, e], r⟩
    · rw [List.getElem?_set_ne (Ne.symm hj)] at h
      obtain ⟨e, r⟩ := o.own j l d h
      refine ⟨by rw [List.getElem?_set_ne (Ne.symm hj)]; exact e, r.map (fun u q im => ho l u (mem_owned h) (ne j _ l hj h (List.mem_singleton.mpr rfl)) q im) fun _ _ q => hvl _ _ q⟩
  · by_cases hj : j = i
    · subst hj
      rw [List.getElem?_set_self hi] at h
      exact h3 as ds (Option.some.inj h)
    · rw [List.getElem?_set_ne (Ne.symm hj)] at h
      obtain ⟨e, r⟩ := o.many j as ds h
      exact ⟨e, fun k a d k1 k2 => (r k a d k1 k2).map (fun u q im => ho a u (mem_many h k1) (ne j _ a hj h (List.mem_of_getElem? k1)) q im) fun _ _ q => hvl _ _ q⟩
  · rcases owned_set_sub h with q | q
    · exact (hf l q).1
    · exact o.fresh l q
  · by_cases hj : j = i
    · subst hj
      rw [List.getElem?_set_self hi] at h
      exact absurd (Option.some.inj h) (h4 ds)
    · rw [List.getElem?_set_ne (Ne.symm hj)] at h
      obtain ⟨vs, s1, r⟩ := o.stt j ds h
      exact ⟨vs, hs vs s1, hvl _ _ r⟩
  · have old : ∀ (j : Nat) (ds : List Dv), (es.set i s)[j]? = some (.st ds) → es[j]? = some (.st ds) := fun j ds h => by
      by_cases hj : j = i
      · subst hj
        rw [List.getElem?_set_self hi] at h
        exact absurd (Option.some.inj h) (h4 ds)
      · rw [List.getElem?_set_ne (Ne.symm hj)] at h
        exact h
    exact o.one j k ds ds' (old j ds h1) (old k ds' h2)
/-- .. to a value, an own thing, nothing -/
theorem Ok.upd (o : Ok K C es σ H) {i : Nat} {s : Sl} {x : Option V} (hi : i < es.length)
    (hv : ∀ y d, Rep K (C.Av es) H y d → Rep K (C.Av (es.set i s)) H' y d)
    (hvl : ∀ y d, RepL K (C.Av es) H y d → RepL K (C.Av (es.set i s)) H' y d)
    (ho : ∀ l o, l ∈ owned es → l ∉ s.addrs → H l = some o → ¬ Imm o → H' l = some o)
    (h1 : ∀ d, s = .v d → ∃ y, x = some y ∧ Rep K (C.Av (es.set i s)) H' y d)
    (h2 : ∀ l d, s = .own l d → x = some (.ref l) ∧ OwnAt K (C.Av (es.set i s)) H' l d ∧ C.H0 l = none ∧ (l ∉ owned es ∨ ∃ e, es[i]? = some (.own l e)))
    (h3 : ∀ as ds, s ≠ .many as ds)
    (ext : Ext R.F C.H0 H') (z : R.Z H') (hs : ∀ vs, R.S vs H → R.S vs H') (h4 : ∀ ds, s ≠ .st ds) : Ok K C (es.set i s) (σ.set i x) H' := by
  refine o.updG hi hv hvl ho h1 (fun l d e => ⟨(h2 l d e).1, (h2 l d e).2.1⟩) (fun as ds e => absurd e (h3 as ds)) ?_ (fun l hl => ?_) ext z hs h4
  · cases s with
    | own l d => exact List.nodup_cons.mpr ⟨List.not_mem_nil, List.nodup_nil⟩
    | many as ds => exact absurd rfl (h3 as ds)
    | no => exact List.nodup_nil
    | v d => exact List.nodup_nil
    | st ds => exact List.nodup_nil
  · cases s with
    | own k d =>
      cases List.mem_singleton.mp hl
      obtain ⟨_, _, h4, h5⟩ := h2 l d rfl
      exact ⟨h4, h5.imp id fun ⟨e, q⟩ => ⟨_, q, List.mem_singleton.mpr rfl⟩⟩
    | many as ds => exact absurd rfl (h3 as ds)
    | no => cases hl
    | v d => cases hl
    | st ds => cases hl
/-- a value to a slot -/
theorem Ok.setV (o : Ok K C es σ H) {i : Nat} {x : V} {d : Dv} (hi : i < es.length) (r : Rep K (C.Av es) H x d) : Ok K C (es.set i (.v d)) (σ.set i (some x)) H := by
  have sub : ∀ a, C.Av (es.set i (.v d)) a → C.Av es a := fun a h => h.elim .inl fun h => (owned_set_sub h).elim (fun z => nomatch z) .inr
  exact o.upd hi (fun _ _ q => q.anti sub) (fun _ _ q => q.anti sub) (fun _ _ _ _ q _ => q) (fun e h => by cases h; exact ⟨x, rfl, r.anti sub⟩) (fun l e h => nomatch h) (fun _ _ h => nomatch h) o.ext o.z (fun _ s => s) (fun _ h => nomatch h)
/-- a slot forgotten -/
theorem Ok.setN (o : Ok K C es σ H) {i : Nat} (hi : i < es.length) (x : Option V) : Ok K C (es.set i .no) (σ.set i x) H := by
  have sub : ∀ a, C.Av (es.set i .no) a → C.Av es a := fun a h => h.elim .inl fun h => (owned_set_sub h).elim (fun z => nomatch z) .inr
  exact o.upd hi (fun _ _ q => q.anti sub) (fun _ _ q => q.anti sub) (fun _ _ _ _ q _ => q) (fun e h => nomatch h) (fun l e h => nomatch h) (fun _ _ h => nomatch h) o.ext o.z (fun _ s => s) (fun _ h => nomatch h)
/-- a new own thing to a slot -/
theorem Ok.setO (o : Ok K C es σ H) {i : Nat} {l : Addr} {d : Dv} (hi : i < es.length) (hn : H l = none) (a : Aft R H H') (r : OwnAt K (fun b => C.Av es b ∨ b = l) H' l d) :
    Ok K C (es.set i (.own l d)) (σ.set i (some (.ref l))) H' := by
  have nl : l ∉ owned es := fun h => o.live (.inr h) hn
  have lof : ∀ b, C.Av (es.set i (.own l d)) b → C.Av es b ∨ b = l := fun b h => h.elim (fun z => .inl (.inl z)) fun h => (owned_set_sub h).elim (fun z => .inr (List.mem_singleton.mp z)) fun z => .inl (.inr z)
  have hl0 : C.H0 l = none := o.ext.live l hn
  have mv : ∀ y e, Rep K (C.Av es) H y e → Rep K (C.Av (es.set i (.own l d))) H' y e := fun y e q =>
    ((q.more (Av' := fun b => C.Av es b ∨ b = l) fun b h => h.imp id fun z => z ▸ hn).ext (F := R.F) (fun b f => .inl (C.avF es b f)) a.ext).anti lof
  have mvl : ∀ y e, RepL K (C.Av es) H y e → RepL K (C.Av (es.set i (.own l d))) H' y e := fun y e q =>
    ((q.more (Av' := fun b => C.Av es b ∨ b = l) fun b h => h.imp id fun z => z ▸ hn).ext (F := R.F) (fun b f => .inl (C.avF es b f)) a.ext).anti lof
  exact o.upd hi mv mvl (fun k u hk _ q im => a.ext.keep k u q (.inl (o.notF hk))) (fun e h => nomatch h)
    (fun k e h => by cases h; exact ⟨rfl, r.map (fun u q _ => q) fun _ _ q => q.anti lof, hl0, .inl nl⟩) (fun _ _ h => nomatch h) (o.ext.trans a.ext) a.z a.st (fun _ h => nomatch h)
/-- an own thing changed -/
theorem Ok.mutO (o : Ok K C es σ H) {i : Nat} {l : Addr} {d e : Dv} {u : HO} (h : es[i]? = some (.own l d)) (r : OwnAt K (C.Av es) (L2.upd H l u) l e) : Ok K C (es.set i (.own l e)) σ (L2.upd H l u) := by
  have hm := mem_owned h
  obtain ⟨v, hv, im⟩ := (o.own i l d h).2.there
  have hi : i < es.length := (List.getElem?_eq_some_iff.mp h).1
  have av : C.Av es l := .inr hm
  have imm : ∀ w, H l = some w → ¬ Imm w := fun w q => by rw [hv] at q; cases q; exact im
  have sub : ∀ a, C.Av (es.set i (.own l e)) a → C.Av es a := fun a h => h.elim .inl fun h => (owned_set_sub h).elim (fun z => by cases List.mem_singleton.mp z; exact .inr hm) .inr
  have sσ : σ.set i (some (.ref l)) = σ := by
    obtain ⟨q, _⟩ := o.own i l d h
    obtain ⟨h1, h2⟩ := List.getElem?_eq_some_iff.mp q
    rw [← h2]; exact List.set_getElem_self h1
  have stay : ∀ (a : Addr) (w : HO), (R.F a ∨ Imm w) → H a = some w → L2.upd H l u a = some w := fun a w f q => by
    rw [upd_ne (show a ≠ l from fun z => f.elim (fun f => o.notF hm (by rw [← z]; exact f)) fun i => imm w (by rw [← z]; exact q) i)]
    exact q
  have R1 := o.upd (H' := L2.upd H l u) (s := .own l e) (x := some (.ref l)) hi (fun _ _ q => (q.mut av imm).anti sub) (fun _ _ q => (q.mut av imm).anti sub)
    (fun k w hk hs q im' => by rw [upd_ne (fun z => hs (by rw [z]; exact List.mem_singleton.mpr rfl))]; exact q) (fun e h => nomatch h)
    (fun k f q => by cases q; exact ⟨rfl, r.map (fun u q _ => q) fun _ _ q => q.anti sub, o.fresh l hm, .inr ⟨d, h⟩⟩) (fun _ _ h => nomatch h)
    ⟨fun a w q k => by
      have ha : a ≠ l := fun z => by rw [z, o.fresh l hm] at q; cases q
      rw [upd_ne ha]; exact o.ext.keep a w q k, fun a q => by
      by_cases ha : a = l
      · rw [ha, upd_same] at q; cases q
      · rw [upd_ne ha] at q; exact o.ext.live a q⟩
    (R.zst H _ o.z stay) (fun vs s => R.sst vs H _ s stay) (fun _ h => nomatch h)
  rw [sσ] at R1; exact R1
/-- an own thing is from now on a value that nobody changes -/
theorem Ok.frz (o : Ok K C es σ H) {i : Nat} {l : Addr} {d : Dv} (h : es[i]? = some (.own l d)) : Ok K C (es.set i (.v d)) σ H := by
  have hm := mem_owned h
  have hi : i < es.length := (List.getElem?_eq_some_iff.mp h).1
  obtain ⟨q, r⟩ := o.own i l d h
  have sub : ∀ a, C.Av (es.set i (.v d)) a → C.Av es a := fun a h => h.elim .inl fun h => (owned_set_sub h).elim (fun z => nomatch z) .inr
  have nl : ¬ C.Av (es.set i (.v d)) l := fun hh => hh.elim (fun z => o.notA hm z) fun hh => by
    have gen : ∀ (es : Es) (i : Nat), (owned es).Nodup → es[i]? = some (.own l d) → l ∉ owned (es.set i (.v d)) := by
      intro es i nd h hh
      obtain ⟨j, s, hj, hs⟩ := owned_get hh
      by_cases e : i = j
      · subst e
        rw [List.getElem?_set_self (List.getElem?_eq_some_iff.mp h).1] at hj
        cases hj
        cases hs
      · rw [List.getElem?_set_ne e] at hj
        exact e (owned_apart nd h hj (List.mem_singleton.mpr rfl) hs)
    exact gen es i o.nd h hh
  have sσ : σ.set i (some (.ref l)) = σ := by
    obtain ⟨h1, h2⟩ := List.getElem?_eq_some_iff.mp q
    rw [← h2]; exact List.set_getElem_self h1
  have R1 := o.upd (H' := H) (s := .v d) (x := some (.ref l)) hi (fun _ _ q => q.anti sub) (fun _ _ q => q.anti sub) (fun _ _ _ _ q _ => q) (fun e h => by cases h; exact ⟨_, rfl, r.rep nl sub⟩) (fun l e h => nomatch h) (fun _ _ h => nomatch h) o.ext o.z (fun _ s => s) (fun _ h => nomatch h)
  rw [sσ] at R1; exact R1
/-- other ghosts, another entry -/
theorem Ok.gh_push (o : Ok K C es σ H) {gs : List (V × Dv)} (h : ∀ p ∈ gs, Rep K (C.Av es) H p.1 p.2) : Ok K (C.push gs) es σ H :=
  ⟨o.len, o.val, o.own, o.many, o.fresh, o.nd, o.ext, o.z, fun p hp => (List.mem_append.mp hp).elim (h p) (o.gh p), o.ro, o.stt, o.one⟩
theorem Ok.gh_pop {gs : List (V × Dv)} (o : Ok K (C.push gs) es σ H) : Ok K C es σ H :=
  ⟨o.len, o.val, o.own, o.many, o.fresh, o.nd, o.ext, o.z, fun p hp => o.gh p (List.mem_append_right _ hp), o.ro, o.stt, o.one⟩
end
end L3

/-! L3b: expressions over deep data. -/
namespace L3
open PySem PySem.Spec PyProof.Rows L2

abbrev WE := Es → (Dv → Prop) → Prop
abbrev WT := Es → (Bool → Prop) → Prop
abbrev WA := Es → (List Dv → Prop) → Prop
def MonoE {α : Type} (w : Es → (α → Prop) → Prop) : Prop := ∀ (es : Es) (P P' : α → Prop), (∀ d, P d → P' d) → w es P → w es P'
theorem PE.imp {X : Cx} {e : Expr} {t t' : TE} (h : PE X e t) (f : ∀ σ H Q, t' σ H Q → t σ H Q) : PE X e t' := ⟨fun pins s σ H Q I q => h.run pins s σ H Q I (f _ _ _ q)⟩
theorem PT.imp {X : Cx} {e : Expr} {t t' : TT} (h : PT X e t) (f : ∀ σ H Q, t' σ H Q → t σ H Q) : PT X e t' := ⟨fun pins s σ H Q I q => h.run pins s σ H Q I (f _ _ _ q)⟩
theorem PW.imp {X : Cx} {e : Expr} {t t' : TT} (h : PW X e t) (f : ∀ σ H Q, t' σ H Q → t σ H Q) : PW X e t' := ⟨fun wh pins s σ H Q I q => h.run wh pins s σ H Q I (f _ _ _ q)⟩
theorem PA.imp {X : Cx} {e : List Expr} {t t' : TA} (h : PA X e t) (f : ∀ σ H Q, t' σ H Q → t σ H Q) : PA X e t' := ⟨fun pos pins s σ H Q I q => h.run pos pins s σ H Q I (f _ _ _ q)⟩
theorem PSt.imp {X : Cx} {e : Stmt} {t t' : TS} (h : PS X e t) (f : ∀ D σ H, t' D σ H → t D σ H) : PS X e t' := ⟨fun pins s σ H D I q => h.run pins s σ H D I (f _ _ _ q)⟩
theorem PSs.imp {X : Cx} {e : List Stmt} {t t' : TS} (h : PSs X e t) (f : ∀ D σ H, t' D σ H → t D σ H) : PSs X e t' := ⟨fun pins s σ H D I q => h.run pins s σ H D I (f _ _ _ q)⟩

/-! ### lifts -/
section
variable (K : PySem.W.Frag) {R : RS} (C : DC R)
/-- a value, or an own thing met by its name -/
def RepB (es : Es) (H : Hp) (v : V) (d : Dv) : Prop := Rep K (C.Av es) H v d ∨ ∃ l, v = .ref l ∧ l ∈ owned es ∧ OwnAt K (C.Av es) H l d
/-- a new list -/
def NewL (Av : Addr → Prop) (H H' : Hp) (l : Addr) (ds : List Dv) : Prop := H l = none ∧ ∃ xs, H' l = some (.lst xs) ∧ RepL K (fun b => Av b ∨ b = l) H' xs ds
def liftE (w : WE) : TE := fun σ H Q => ∃ es, Ok K C es σ H ∧ w es fun d => ∀ v H', Aft R H H' → Rep K (C.Av es) H' v d → Q v H'
def liftB (w : WE) : TE := fun σ H Q => ∃ es, Ok K C es σ H ∧ w es fun d => ∀ v H', Aft R H H' → RepB K C es H' v d → Q v H'
def liftN (w : WA) : TE := fun σ H Q => ∃ es, Ok K C es σ H ∧ w es fun ds => ∀ l H', Aft R H H' → NewL K (C.Av es) H H' l ds → Q (.ref l) H'
def liftT (w : WT) : TT := fun σ H Q => ∃ es, Ok K C es σ H ∧ w es fun b => ∀ H', Aft R H H' → Q b H'
def liftA (w : WA) : TA := fun σ H Q => ∃ es, Ok K C es σ H ∧ w es fun ds => ∀ vs H', Aft R H H' → RepL K (C.Av es) H' vs ds → Q vs H'
def liftAB (w : WA) : TA := fun σ H Q => ∃ es, Ok K C es σ H ∧ w es fun ds => ∀ vs H', Aft R H H' → Paired (RepB K C es H') vs ds → Q vs H'
end
section
variable {K : PySem.W.Frag} {R : RS} {C : DC R} {es : Es} {σ : L2.St} {H H' H'' : Hp} {v : V} {d : Dv}
theorem RepB.of (h : Rep K (C.Av es) H v d) : RepB K C es H v d := .inl h
theorem RepB.aft (o : Ok K C es σ H) (a : Aft R H H') (h : RepB K C es H v d) : RepB K C es H' v d := by
  rcases h with h | ⟨l, e, hl, h⟩
  · exact .inl (h.ext (C.avF es) a.ext)
  · exact .inr ⟨l, e, hl, h.map (fun u q _ => a.ext.keep l u q (.inl (o.notF hl))) fun _ _ q => q.ext (C.avF es) a.ext⟩
theorem RepB.a0 (o : Ok K C es σ H) (h : RepB K C es H' v d) : Rep K C.A0 H' v d := by
  rcases h with h | ⟨l, e, hl, h⟩
  · exact h.anti fun a z => .inl z
  · subst e; exact h.rep (o.notA hl) fun a z => .inl z
theorem RepB.int {i : Int} (h : RepB K C es H v (.int i)) : v = .int i := by
  rcases h with h | ⟨l, e, hl, h⟩
  · cases h; rfl
  · exact h.elim
theorem RepB.str {i : Str} (h : RepB K C es H v (.str i)) : v = .str i := by
  rcases h with h | ⟨l, e, hl, h⟩
  · cases h; rfl
  · exact h.elim
theorem RepB.bl {i : Bool} (h : RepB K C es H v (.bl i)) : v = .bl i := by
  rcases h with h | ⟨l, e, hl, h⟩
  · cases h; rfl
  · exact h.elim
theorem RepB.non (h : RepB K C es H v .non) : v = .non := by
  rcases h with h | ⟨l, e, hl, h⟩
  · cases h; rfl
  · exact h.elim
theorem RepB.ref {a : Addr} (h : RepB K C es H v (.ref a)) : v = .ref a := by
  rcases h with h | ⟨l, e, hl, h⟩
  · cases h; rfl
  · exact h.elim
theorem RepB.tup {ds : List Dv} (h : RepB K C es H v (.tup ds)) : ∃ a xs, v = .ref a ∧ SqT K H a xs ∧ RepL K (C.Av es) H xs ds := by
  rcases h with h | ⟨l, e, hl, h⟩
  · cases h with | tup h1 h2 => exact ⟨_, _, rfl, h1, h2⟩
  · exact h.elim
theorem RepB.lst {ds : List Dv} (h : RepB K C es H v (.lst ds)) : ∃ a xs, v = .ref a ∧ Rd H a (.lst xs) ∧ RepL K (C.Av es) H xs ds := by
  rcases h with h | ⟨l, e, hl, h⟩
  · cases h with | lst h1 h2 => exact ⟨_, _, rfl, h1.rd, h2⟩
  · obtain ⟨xs, h1, h2⟩ := h; exact ⟨l, xs, e, .inl h1, h2⟩
theorem RepB.scr {ns : List Int} (h : RepB K C es H v (.scr ns)) : ∃ a, v = .ref a ∧ SqL K H a (ns.map V.int) := by
  rcases h with h | ⟨l, e, hl, h⟩
  · cases h with | scr h => exact ⟨_, rfl, h.sq⟩
  · exact h.elim
theorem NewL.rep (o : Ok K C es σ H) {l : Addr} {ds : List Dv} (h : NewL K (C.Av es) H H' l ds) : Rep K (C.Av es) H' (.ref l) (.lst ds) := by
  obtain ⟨n, xs, e, r⟩ := h
  exact .lst ⟨e, fun z => o.live z n⟩ (r.anti fun a z => .inl z)
theorem PairB.aft {vs : List V} {ds : List Dv} (o : Ok K C es σ H) (a : Aft R H H') (h : Paired (RepB K C es H) vs ds) : Paired (RepB K C es H') vs ds := by
  induction h with
  | nil => exact .nil
  | cons q _ ih => exact .cons (q.aft o a) ih
theorem PairB.a0 {vs : List V} {ds : List Dv} (o : Ok K C es σ H) (h : Paired (RepB K C es H') vs ds) : RepL K C.A0 H' vs ds := by
  induction h with
  | nil => exact .nil
  | cons q _ ih => exact .cons (q.a0 o) ih
end

/-! ### judgements -/
structure DE (X : Cx) (R : RS) (e : Expr) (w : WE) : Prop where
  pe : ∀ C : DC R, PE X e (liftE X.K C w)
  mono : MonoE w
/-- where an own thing may be met -/
structure DB (X : Cx) (R : RS) (e : Expr) (w : WE) : Prop where
  pe : ∀ C : DC R, PE X e (liftB X.K C w)
  mono : MonoE w
/-- a new list -/
structure DN (X : Cx) (R : RS) (e : Expr) (w : WA) : Prop where
  pe : ∀ C : DC R, PE X e (liftN X.K C w)
  mono : MonoE w
structure DT (X : Cx) (R : RS) (e : Expr) (w : WT) : Prop where
  pt : ∀ C : DC R, PT X e (liftT X.K C w)
  mono : MonoE w
structure DW (X : Cx) (R : RS) (e : Expr) (w : WT) : Prop where
  pw : ∀ C : DC R, PW X e (liftT X.K C w)
  mono : MonoE w
structure DA (X : Cx) (R : RS) (es : List Expr) (w : WA) : Prop where
  pa : ∀ C : DC R, PA X es (liftA X.K C w)
  mono : MonoE w
structure DAB (X : Cx) (R : RS) (es : List Expr) (w : WA) : Prop where
  pa : ∀ C : DC R, PA X es (liftAB X.K C w)
  mono : MonoE w

section
variable {X : Cx} {R : RS} {e a b c : Expr} {w wa wb wc : WE} {pos : Pos}
theorem DE.bb (h : DE X R e w) : DB X R e w := ⟨fun C => PE.imp (h.pe C) fun σ H Q ⟨es, o, q⟩ => ⟨es, o, h.mono es _ _ (fun d k v H' a r => k v H' a (.inl r)) q⟩, h.mono⟩
def wL (w : WA) : WE := fun es Q => w es fun ds => Q (.lst ds)
theorem DN.ee {w : WA} (h : DN X R e w) : DE X R e (wL w) :=
  ⟨fun C => PE.imp (h.pe C) fun σ H Q ⟨es, o, q⟩ => ⟨es, o, h.mono es _ _ (fun d k l H' a n => k _ H' a (n.rep o)) q⟩, fun es P P' f q => h.mono es _ _ (fun d k => f _ k) q⟩
theorem DN.bb {w : WA} (h : DN X R e w) : DB X R e (wL w) := h.ee.bb

/-! names, constants -/
def wVar (i : Nat) : WE := fun es Q => ∃ d, es[i]? = some (.v d) ∧ Q d
def wOwn (i : Nat) : WE := fun es Q => ∃ l d, es[i]? = some (.own l d) ∧ Q d
def wC (d : Dv) : WE := fun _ Q => Q d
theorem de_var (i : Nat) {x : Str} (hN : X.N[i]? = some x := by rfl) (hv : Vis X.env.scope x := by first | exact Or.inl rfl | exact Or.inr (Or.inl rfl) | exact Or.inr (Or.inr rfl)) (hd : (x == ("__debug__" : Str)) = false := by decide)
    (hcd : (x == ("__classdict__" : Str)) = false := by decide) : DE X R (.Name x pos) (wVar i) :=
  ⟨fun C => PE.imp (pe_var hN hv hd hcd) fun σ H Q ⟨es, o, d, h, q⟩ => let ⟨x, e, r⟩ := o.val i d h; ⟨x, e, q x H o.here r⟩, fun es P P' f ⟨d, h, q⟩ => ⟨d, h, f d q⟩⟩
theorem db_own (i : Nat) {x : Str} (hN : X.N[i]? = some x := by rfl) (hv : Vis X.env.scope x := by first | exact Or.inl rfl | exact Or.inr (Or.inl rfl) | exact Or.inr (Or.inr rfl)) (hd : (x == ("__debug__" : Str)) = false := by decide)
    (hcd : (x == ("__classdict__" : Str)) = false := by decide) : DB X R (.Name x pos) (wOwn i) :=
  ⟨fun C => PE.imp (pe_var hN hv hd hcd) fun σ H Q ⟨es, o, l, d, h, q⟩ => let ⟨e, r⟩ := o.own i l d h; ⟨_, e, q _ H o.here (.inr ⟨l, rfl, mem_owned h, r⟩)⟩, fun es P P' f ⟨l, d, h, q⟩ => ⟨l, d, h, f d q⟩⟩
theorem mono_c {d : Dv} : MonoE (wC d) := fun _ _ _ f q => f d q
theorem de_c {v : V} {d : Dv} (h : PE X e (tC v)) (r : ∀ Av H, Rep X.K Av H v d) : DE X R e (wC d) := ⟨fun C => PE.imp h fun σ H Q ⟨es, o, q⟩ => q v H o.here (r _ _), mono_c⟩
theorem de_int {i j pos} : DE X R (.Constant (.int i) j pos) (wC (.int i)) := de_c pe_int fun _ _ => .int i
theorem de_bl {i j pos} : DE X R (.Constant (.bool i) j pos) (wC (.bl i)) := de_c pe_bl fun _ _ => .bl i
theorem de_non {j pos} : DE X R (.Constant .none j pos) (wC .non) := de_c pe_non fun _ _ => .non
theorem de_str {i j pos} : DE X R (.Constant (.str i) j pos) (wC (.str i)) := de_c pe_str fun _ _ => .str i
theorem de_gstr {x y : Str} {t : Tok} (hg : Gl X x) (hm : X.mg x = some (.str y t)) (hd : (x == ("__debug__" : Str)) = false := by decide) : DE X R (.Name x pos) (wC (.str y)) :=
  de_c (v := .str y) (pe_glob hg hm ⟨t, rfl⟩ hd) fun _ _ => .str y

/-! two values, an operation -/
structure SemOp (X : Cx) (R : RS) (f : Value → Value → Sem Value) (rd : Dv → Dv → (Dv → Prop) → Prop) : Prop where
  ex : ∃ r : R2, OpR X f r ∧ ∀ (C : DC R) (es : Es) (σ : L2.St) (H : Hp) (x y : V) (d e : Dv) (Q : VK), Ok X.K C es σ H → RepB X.K C es H x d → RepB X.K C es H y e →
    rd d e (fun z => ∀ v H', Aft R H H' → Rep X.K (C.Av es) H' v z → Q v H') → r x y H Q
  mono : ∀ d e (P P' : Dv → Prop), (∀ z, P z → P' z) → rd d e P → rd d e P'
def w2 (rd : Dv → Dv → (Dv → Prop) → Prop) (wa wb : WE) : WE := fun es Q => wa es fun x => wb es fun y => rd x y Q
theorem mono_w2 {rd : Dv → Dv → (Dv → Prop) → Prop} (m : ∀ d e (P P' : Dv → Prop), (∀ z, P z → P' z) → rd d e P → rd d e P') (ha : MonoE wa) (hb : MonoE wb) : MonoE (w2 rd wa wb) :=
  fun es P P' f q => ha es _ _ (fun d k => hb es _ _ (fun e k => m d e _ _ f k) k) q
/-- the reading of two borrowed values -/
theorem lift2 {K : PySem.W.Frag} {C : DC R} {r : R2} {rd : Dv → Dv → (Dv → Prop) → Prop} {σ : L2.St} {H : Hp} {Q : VK} {es : Es} {F : Dv → Hp → Prop} (ha : MonoE wa) (hb : MonoE wb) (o : Ok K C es σ H)
    (imp : ∀ H x y d e, Ok K C es σ H → RepB K C es H x d → RepB K C es H y e → rd d e (fun z => F z H) → r x y H Q)
    (hF : ∀ d e H', Aft R H H' → rd d e (fun z => F z H) → rd d e fun z => F z H') (h : w2 rd wa wb es fun z => F z H) : tOp r (liftB K C wa) (liftB K C wb) σ H Q :=
  ⟨es, o, ha es _ _ (fun d h1 v1 H1 a1 r1 => ⟨es, o.aft a1, hb es _ _ (fun e h2 v2 H2 a2 r2 => imp H2 v1 v2 d e (o.aft (a1.trans a2)) (r1.aft (o.aft a1) a2) r2 (hF d e H2 (a1.trans a2) h2)) h1⟩) h⟩
theorem de_op2 {op : Operator} {rd : Dv → Dv → (Dv → Prop) → Prop} (S : SemOp X R (binaryOp op) rd) (ha : DB X R a wa) (hb : DB X R b wb) : DE X R (.BinOp a op b pos) (w2 rd wa wb) := by
  refine ⟨fun C => ?_, mono_w2 S.mono ha.mono hb.mono⟩
  obtain ⟨r, hr, imp⟩ := S.ex
  refine PE.imp (pe_op hr (ha.pe C) (hb.pe C)) fun σ H Q ⟨es, o, q⟩ => lift2 (F := fun z H => ∀ v H', Aft R H H' → Rep X.K (C.Av es) H' v z → Q v H') ha.mono hb.mono o (fun H x y d e o r1 r2 h => imp C es σ H x y d e Q o r1 r2 h)
    (fun d e H' a h => S.mono d e _ _ (fun z k v H'' a' => k v H'' (a.trans a')) h) q
theorem de_cmp2 {op : CmpOp} {rd : Dv → Dv → (Dv → Prop) → Prop} (S : SemOp X R (compareOp op) rd) (ha : DB X R a wa) (hb : DB X R b wb) (hm : behindInMarks op b = false) : DE X R (.Compare a [op] [b] pos) (w2 rd wa wb) := by
  refine ⟨fun C => ?_, mono_w2 S.mono ha.mono hb.mono⟩
  obtain ⟨r, hr, imp⟩ := S.ex
  refine PE.imp (pe_cmpR hr (ha.pe C) (hb.pe C) hm) fun σ H Q ⟨es, o, q⟩ => lift2 (F := fun z H => ∀ v H', Aft R H H' → Rep X.K (C.Av es) H' v z → Q v H') ha.mono hb.mono o (fun H x y d e o r1 r2 h => imp C es σ H x y d e Q o r1 r2 h)
    (fun d e H' a h => S.mono d e _ _ (fun z k v H'' a' => k v H'' (a.trans a')) h) q
/-- a comparison as a test -/
def w2T (rd : Dv → Dv → (Dv → Prop) → Prop) (wa wb : WE) : WT := fun es Q => wa es fun x => wb es fun y => rd x y fun z => ∃ k, z = .bl k ∧ Q k
theorem dt_cmp2 {op : CmpOp} {rd : Dv → Dv → (Dv → Prop) → Prop} (S : SemOp X R (compareOp op) rd) (ha : DB X R a wa) (hb : DB X R b wb) (hm : behindInMarks op b = false) : DT X R (.Compare a [op] [b] pos) (w2T rd wa wb) := by
  refine ⟨fun C => ?_, fun es P P' f q => ha.mono es _ _ (fun d k => hb.mono es _ _ (fun e k => S.mono d e _ _ (fun z ⟨c, e, k⟩ => ⟨c, e, f c k⟩) k) k) q⟩
  obtain ⟨r, hr, imp⟩ := S.ex
  refine PT.imp (pt_cmpR hr (ha.pe C) (hb.pe C) hm) fun σ H Q ⟨es, o, q⟩ => ?_
  refine lift2 (Q := fun x H' => ∃ k, x = .bl k ∧ Q k H') (F := fun z H => ∃ k, z = .bl k ∧ ∀ H', Aft R H H' → Q k H') ha.mono hb.mono o (fun H x y d e o r1 r2 h => imp C es σ H x y d e _ o r1 r2 (S.mono d e _ _ (fun z ⟨k, e, q⟩ v H' a r => ?_) h))
    (fun d e H' a h => S.mono d e _ _ (fun z ⟨k, e, q⟩ => ⟨k, e, fun H'' a' => q H'' (a.trans a')⟩) h) q
  subst e
  cases r
  exact ⟨k, rfl, q H' a⟩
/-- a bool as a test -/
def wT (w : WE) : WT := fun es Q => w es fun z => ∃ k, z = .bl k ∧ Q k
theorem dt_val (h : DE X R e w) (he : ∀ whole, isTrue e X.env whole = (do let v ← whole; standAt e.pos; holding [v] (truthy v)) := by intro _; rfl) : DT X R e (wT w) :=
  ⟨fun C => PT.imp (pt_val (h.pe C) he) fun σ H Q ⟨es, o, q⟩ => ⟨es, o, h.mono es _ _ (fun z ⟨k, e, q⟩ v H' a r => by subst e; cases r; exact ⟨k, rfl, q H' a⟩) q⟩, fun es P P' f q => h.mono es _ _ (fun z ⟨k, e, q⟩ => ⟨k, e, f k q⟩) q⟩

/-! and, or, not, .. if .. else .. -/
def wAnd (t u : WT) : WT := fun es Q => t es fun c => if c = true then u es Q else Q false
def wOr (t u : WT) : WT := fun es Q => t es fun c => if c = true then Q true else u es Q
def wNot (t : WT) : WT := fun es Q => t es fun c => Q (!c)
variable {t u : WT} {rest : List Expr}
theorem DW.tt (h : DW X R e t) : DT X R e t := ⟨fun C => (h.pw C).pt, h.mono⟩
theorem dw_and1 (ha : DT X R a t) : DW X R (.BoolOp .And [a] pos) t := ⟨fun C => pw_and1 (ha.pt C), ha.mono⟩
theorem dw_or1 (ha : DT X R a t) : DW X R (.BoolOp .Or [a] pos) t := ⟨fun C => pw_or1 (ha.pt C), ha.mono⟩
theorem mono_and (ht : MonoE t) (hu : MonoE u) : MonoE (wAnd t u) := fun es P P' f q => ht es _ _ (fun c k => by
  cases c with
  | true => rw [if_pos rfl] at k ⊢; exact hu es _ _ f k
  | false => rw [if_neg Bool.false_ne_true] at k ⊢; exact f _ k) q
theorem mono_or (ht : MonoE t) (hu : MonoE u) : MonoE (wOr t u) := fun es P P' f q => ht es _ _ (fun c k => by
  cases c with
  | true => rw [if_pos rfl] at k ⊢; exact f _ k
  | false => rw [if_neg Bool.false_ne_true] at k ⊢; exact hu es _ _ f k) q
theorem lift_and {K : PySem.W.Frag} {C : DC R} (ht : MonoE t) (hu : MonoE u) {σ : L2.St} {H : Hp} {Q : Bool → Hp → Prop} (h : liftT K C (wAnd t u) σ H Q) : tAnd (liftT K C t) (liftT K C u) σ H Q := by
  obtain ⟨es, o, h⟩ := h
  refine ⟨es, o, ht es _ _ (fun c k H1 a => ?_) h⟩
  cases c with
  | true =>
    rw [if_pos rfl] at k ⊢
    exact ⟨es, o.aft a, hu es _ _ (fun d q H2 a2 => q H2 (a.trans a2)) k⟩
  | false =>
    rw [if_neg Bool.false_ne_true] at k ⊢
    exact k H1 a
theorem lift_or {K : PySem.W.Frag} {C : DC R} (ht : MonoE t) (hu : MonoE u) {σ : L2.St} {H : Hp} {Q : Bool → Hp → Prop} (h : liftT K C (wOr t u) σ H Q) : tOr (liftT K C t) (liftT K C u) σ H Q := by
  obtain ⟨es, o, h⟩ := h
  refine ⟨es, o, ht es _ _ (fun c k H1 a => ?_) h⟩
  cases c with
  | true =>
    rw [if_pos rfl] at k ⊢
    exact k H1 a
  | false =>
    rw [if_neg Bool.false_ne_true] at k ⊢
    exact ⟨es, o.aft a, hu es _ _ (fun d q H2 a2 => q H2 (a.trans a2)) k⟩
theorem dw_and (ha : DT X R a t) (hb : DW X R (.BoolOp .And (b :: rest) pos) u) : DW X R (.BoolOp .And (a :: b :: rest) pos) (wAnd t u) :=
  ⟨fun C => PW.imp (pw_and (ha.pt C) (hb.pw C)) fun σ H Q h => lift_and ha.mono hb.mono h, mono_and ha.mono hb.mono⟩
theorem dw_or (ha : DT X R a t) (hb : DW X R (.BoolOp .Or (b :: rest) pos) u) : DW X R (.BoolOp .Or (a :: b :: rest) pos) (wOr t u) :=
  ⟨fun C => PW.imp (pw_or (ha.pt C) (hb.pw C)) fun σ H Q h => lift_or ha.mono hb.mono h, mono_or ha.mono hb.mono⟩
theorem dt_not (ha : DT X R a t) : DT X R (.UnaryOp .Not a pos) (wNot t) :=
  ⟨fun C => PT.imp (pt_not (ha.pt C)) fun σ H Q ⟨es, o, h⟩ => ⟨es, o, ha.mono es _ _ (fun c k H1 a => k H1 a) h⟩, fun es P P' f q => ha.mono es _ _ (fun c k => f _ k) q⟩
/-- as values: all but the last a bool -/
def wAndV (wa wb : WE) : WE := fun es Q => wa es fun x => ∃ c, x = .bl c ∧ if c = true then wb es Q else Q (.bl false)
def wOrV (wa wb : WE) : WE := fun es Q => wa es fun x => ∃ c, x = .bl c ∧ if c = true then Q (.bl true) else wb es Q
def wNotV (wa : WE) : WE := fun es Q => wa es fun x => ∃ c, x = .bl c ∧ Q (.bl (!c))
theorem de_one {op : BoolOp} (ha : DE X R a wa) : DE X R (.BoolOp op [a] pos) wa := ⟨fun C => pe_one (ha.pe C), ha.mono⟩
theorem de_and (ha : DE X R a wa) (hb : DE X R (.BoolOp .And (b :: rest) pos) wb) : DE X R (.BoolOp .And (a :: b :: rest) pos) (wAndV wa wb) := by
  refine ⟨fun C => PE.imp (pe_and (ha.pe C) (hb.pe C)) fun σ H Q ⟨es, o, h⟩ => ⟨es, o, ha.mono es _ _ (fun d ⟨c, e, k⟩ v H1 a r => ?_) h⟩, fun es P P' f q => ha.mono es _ _ (fun d ⟨c, e, k⟩ => ⟨c, e, ?_⟩) q⟩
  · subst e; cases r
    refine ⟨c, rfl, ?_⟩
    cases c with
    | true => rw [if_pos rfl] at k ⊢; exact ⟨es, o.aft a, hb.mono es _ _ (fun d q v H2 a2 r => q v H2 (a.trans a2) r) k⟩
    | false => rw [if_neg Bool.false_ne_true] at k ⊢; exact k _ H1 a (.bl false)
  · cases c with
    | true => rw [if_pos rfl] at k ⊢; exact hb.mono es _ _ f k
    | false => rw [if_neg Bool.false_ne_true] at k ⊢; exact f _ k
theorem de_or (ha : DE X R a wa) (hb : DE X R (.BoolOp .Or (b :: rest) pos) wb) : DE X R (.BoolOp .Or (a :: b :: rest) pos) (wOrV wa wb) := by
  refine ⟨fun C => PE.imp (pe_or (ha.pe C) (hb.pe C)) fun σ H Q ⟨es, o, h⟩ => ⟨es, o, ha.mono es _ _ (fun d ⟨c, e, k⟩ v H1 a r => ?_) h⟩, fun es P P' f q => ha.mono es _ _ (fun d ⟨c, e, k⟩ => ⟨c, e, ?_⟩) q⟩
  · subst e; cases r
    refine ⟨c, rfl, ?_⟩
    cases c with
    | true => rw [if_pos rfl] at k ⊢; exact k _ H1 a (.bl true)
    | false => rw [if_neg Bool.false_ne_true] at k ⊢; exact ⟨es, o.aft a, hb.mono es _ _ (fun d q v H2 a2 r => q v H2 (a.trans a2) r) k⟩
  · cases c with
    | true => rw [if_pos rfl] at k ⊢; exact f _ k
    | false => rw [if_neg Bool.false_ne_true] at k ⊢; exact hb.mono es _ _ f k
theorem de_not (ha : DE X R a wa) : DE X R (.UnaryOp .Not a pos) (wNotV wa) :=
  ⟨fun C => PE.imp (pe_not (ha.pe C)) fun σ H Q ⟨es, o, h⟩ => ⟨es, o, ha.mono es _ _ (fun d ⟨c, e, k⟩ v H1 a r => by subst e; cases r; exact ⟨c, rfl, k _ H1 a (.bl _)⟩) h⟩, fun es P P' f q => ha.mono es _ _ (fun d ⟨c, e, k⟩ => ⟨c, e, f _ k⟩) q⟩
def wIf (t : WT) (wa wb : WE) : WE := fun es Q => t es fun c => if c = true then wa es Q else wb es Q
theorem de_ifExp (hc : DT X R c t) (ha : DE X R a wa) (hb : DE X R b wb) : DE X R (.IfExp c a b pos) (wIf t wa wb) := by
  refine ⟨fun C => PE.imp (pe_ifExp (hc.pt C) (ha.pe C) (hb.pe C)) fun σ H Q ⟨es, o, h⟩ => ⟨es, o, hc.mono es _ _ (fun c k H1 a => ?_) h⟩, fun es P P' f q => hc.mono es _ _ (fun c k => ?_) q⟩
  · cases c with
    | true => rw [if_pos rfl] at k ⊢; exact ⟨es, o.aft a, ha.mono es _ _ (fun d q v H2 a2 r => q v H2 (a.trans a2) r) k⟩
    | false => rw [if_neg Bool.false_ne_true] at k ⊢; exact ⟨es, o.aft a, hb.mono es _ _ (fun d q v H2 a2 r => q v H2 (a.trans a2) r) k⟩
  · cases c with
    | true => rw [if_pos rfl] at k ⊢; exact ha.mono es _ _ f k
    | false => rw [if_neg Bool.false_ne_true] at k ⊢; exact hb.mono es _ _ f k

/-! argument lists, tuples and lists of written items -/
def waNil : WA := fun _ Q => Q []
def waCons (w : WE) (t : WA) : WA := fun es Q => w es fun x => t es fun xs => Q (x :: xs)
variable {es' : List Expr} {wt : WA}
theorem mono_cons (h : MonoE w) (ht : MonoE wt) : MonoE (waCons w wt) := fun es P P' f q => h es _ _ (fun d k => ht es _ _ (fun ds k => f _ k) k) q
theorem da_nil : DA X R [] waNil := ⟨fun C => PA.imp pa_nil fun σ H Q ⟨es, o, q⟩ => q [] H o.here .nil, fun _ _ _ f q => f _ q⟩
theorem da_cons (ha : DE X R e w) (hr : DA X R es' wt) (hs : starEach (e :: es') X.env = (false, eval e X.env) :: starEach es' X.env := by rfl) : DA X R (e :: es') (waCons w wt) :=
  ⟨fun C => PA.imp (pa_cons (ha.pe C) (hr.pa C) hs) fun σ H Q ⟨es, o, q⟩ => ⟨es, o, ha.mono es _ _ (fun d k v H1 a1 r1 => ⟨es, o.aft a1, hr.mono es _ _ (fun ds k vs H2 a2 r2 => k (v :: vs) H2 (a1.trans a2) (.cons (r1.ext (C.avF es) a2.ext) r2)) k⟩) q⟩, mono_cons ha.mono hr.mono⟩
theorem dab_nil : DAB X R [] waNil := ⟨fun C => PA.imp pa_nil fun σ H Q ⟨es, o, q⟩ => q [] H o.here .nil, fun _ _ _ f q => f _ q⟩
theorem dab_cons (ha : DB X R e w) (hr : DAB X R es' wt) (hs : starEach (e :: es') X.env = (false, eval e X.env) :: starEach es' X.env := by rfl) : DAB X R (e :: es') (waCons w wt) :=
  ⟨fun C => PA.imp (pa_cons (ha.pe C) (hr.pa C) hs) fun σ H Q ⟨es, o, q⟩ => ⟨es, o, ha.mono es _ _ (fun d k v H1 a1 r1 => ⟨es, o.aft a1, hr.mono es _ _ (fun ds k vs H2 a2 r2 => k (v :: vs) H2 (a1.trans a2) (.cons (r1.aft (o.aft a1) a2) r2)) k⟩) q⟩, mono_cons ha.mono hr.mono⟩
/-- (a, b, ..) -/
def wTup (t : WA) : WE := fun es Q => t es fun ds => ds.length ≤ 100000 ∧ Q (.tup ds)
def wLst (t : WA) : WA := fun es Q => t es fun ds => ds.length ≤ 100000 ∧ Q ds
theorem sz5 {n : Nat} (h : n ≤ 100000) : n ≤ sizeLine := Nat.le_trans h (by decide)
theorem de_tup {x1} (h : DA X R es' wt) : DE X R (.Tuple es' x1 pos) (wTup wt) := by
  refine ⟨fun C => PE.imp (pe_tup (h.pa C)) fun σ H Q ⟨es, o, q⟩ => ⟨es, o, h.mono es _ _ (fun ds ⟨hl, k⟩ vs H1 a1 r1 => ⟨by rw [r1.length]; exact sz5 hl, fun p hp => ?_⟩) q⟩, fun es P P' f q => h.mono es _ _ (fun ds ⟨hl, k⟩ => ⟨hl, f _ k⟩) q⟩
  have o1 := o.aft a1
  have a2 := o1.aft_new (u := .tup vs) hp
  exact k _ _ (a1.trans a2) (.tup (.inl (.inl upd_same)) (r1.ext (C.avF es) a2.ext))
theorem dn_lst (h : DA X R es' wt) : DN X R (.List es' pos) (wLst wt) := by
  refine ⟨fun C => PE.imp (pe_lst (h.pa C)) fun σ H Q ⟨es, o, q⟩ => ⟨es, o, h.mono es _ _ (fun ds ⟨hl, k⟩ vs H1 a1 r1 => ⟨by rw [r1.length]; exact sz5 hl, fun p hp => ?_⟩) q⟩, fun es P P' f q => h.mono es _ _ (fun ds ⟨hl, k⟩ => ⟨hl, f _ k⟩) q⟩
  have o1 := o.aft a1
  have a2 := o1.aft_new (u := .lst vs) hp
  exact k _ _ (a1.trans a2) ⟨a1.ext.live _ hp, vs, upd_same, (r1.more (Av' := fun b => C.Av es b ∨ b = p) fun b z => z.imp id fun z => z ▸ hp).ext (F := R.F) (fun b f => .inl (C.avF es b f)) a2.ext⟩
end
end L3

/-! L3c: operators, subscripts, slices, calls over deep data. -/
namespace L3
open PySem PySem.Spec PyProof.Rows L2

/-! ### + - * // % ** << >> & -/
def binD : Operator → Dv → Dv → Option Dv
  | .Add, .int i, .int j => some (.int (i + j))
  | .Add, .str x, .str y => some (.str (x ++ y))
  | .Add, .tup x, .tup y => some (.tup (x ++ y))
  | .Add, .lst x, .lst y => some (.lst (x ++ y))
  | .Sub, .int i, .int j => some (.int (i - j))
  | .Mult, .int i, .int j => some (.int (i * j))
  | .Mult, .lst x, .int k => some (.lst (List.replicate k.toNat x).flatten)
  | .FloorDiv, .int i, .int j => some (.int (i / j))
  | .Mod, .int i, .int j => some (.int (i % j))
  | .Pow, .int i, .int j => some (.int (i ^ j.toNat))
  | .LShift, .int i, .int j => some (.int (i * 2 ^ j.toNat))
  | .RShift, .int i, .int j => some (.int (i / 2 ^ j.toNat))
  | .BitAnd, .int i, .int j => some (.int (Builtin.bitAnd i j))
  | _, _, _ => none
def binC : Operator → Dv → Dv → Prop
  | .Add, .str x, .str y => x.length + y.length ≤ 100000
  | .Add, .tup x, .tup y => x.length + y.length ≤ 100000
  | .Add, .lst x, .lst y => x.length + y.length ≤ 100000
  | .Mult, .int i, .int j => CMul i j ∨ CMulW i j
  | .Mult, .lst x, .int k => x.length * k.toNat ≤ 100000 ∧ -(2 ^ 63) ≤ k ∧ k < 2 ^ 63
  | .FloorDiv, .int i, .int j => CDivW i j
  | .Mod, .int i, .int j => 0 < j
  | .Pow, .int i, .int j => CPow i j
  | .LShift, .int i, .int j => CPow i j
  | .RShift, .int i, .int j => 0 ≤ j
  | _, _, _ => True
def rdBin (op : Operator) : Dv → Dv → (Dv → Prop) → Prop := fun d e Q => ∃ z, binD op d e = some z ∧ binC op d e ∧ Q z
theorem rdBin_mono (op : Operator) : ∀ d e (P P' : Dv → Prop), (∀ z, P z → P' z) → rdBin op d e P → rdBin op d e P' := fun d e P P' f ⟨z, h1, h2, q⟩ => ⟨z, h1, h2, f z q⟩
section
variable {X : Cx} {R : RS}
theorem Inv.lstR {pins : List (Addr × Obj)} {σ : L2.St} {H : Hp} {s : Shared} {l : Addr} {xs : List V} (I : Inv X pins σ H s) (hH : Rd H l (.lst xs)) :
    xs.length ≤ sizeLine ∧ ∃ (its : List Value) (n : Nat), Vals xs its ∧ xs.length = its.length ∧ s.heap.get? l = some { cls := .type "list", data := .seq its.toArray n } := by
  obtain ⟨z, its, n, r, e⟩ := hH.ok I.hok
  exact ⟨z, its, n, r, r.length, e⟩
def rCatR : R2 := fun x y H Q => ∃ l b xs zs, x = .ref l ∧ y = .ref b ∧ Rd H l (.lst xs) ∧ Rd H b (.lst zs) ∧ xs.length + zs.length ≤ sizeLine ∧ ∀ p, H p = none → Q (.ref p) (upd H p (.lst (xs ++ zs)))
theorem op_catR : OpR X (binaryOp .Add) rCatR := by
  intro pins s σ H x y v u Q I rx ry h
  obtain ⟨l, b, xs, zs, rfl, rfl, hH, hB, hz, q⟩ := h
  cases rx
  cases ry
  obtain ⟨z, its, n, r, hl, e⟩ := Inv.lstR I hH
  obtain ⟨z2, its2, n2, r2, hl2, e2⟩ := Inv.lstR I hB
  refine PySem.P.add_list e e2 ?_ (by rw [List.size_toArray, List.size_toArray]; omega)
  have ea : its.toArray ++ its2.toArray = (its ++ its2).toArray := by simp
  rw [ea]
  exact ⟨.ref _, _, I.lnew (t' := s.toks) (r.append r2) (by rw [List.length_append]; omega), rfl, q _ I.fresh⟩
theorem semI {op : Operator} {Cc : Int → Int → Prop} {g : Int → Int → Int} (h : OpR X (binaryOp op) (rI Cc fun i j => .int (g i j)))
    (h1 : ∀ d e z, binD op d e = some z → binC op d e → ∃ i j, d = .int i ∧ e = .int j ∧ Cc i j ∧ z = .int (g i j)) : SemOp X R (binaryOp op) (rdBin op) :=
  ⟨⟨_, h, fun C es σ H x y d e Q o rx ry ⟨z, q1, q2, q⟩ => by
    obtain ⟨i, j, rfl, rfl, c, rfl⟩ := h1 d e z q1 q2
    exact ⟨i, j, rx.int, ry.int, c, q _ H o.here (.int _)⟩⟩, rdBin_mono op⟩
theorem sem_sub : SemOp X R (binaryOp .Sub) (rdBin .Sub) := by
  refine ⟨⟨_, op_sub, fun C es σ H x y d e Q o rx ry ⟨z, q1, q2, q⟩ => ?_⟩, rdBin_mono _⟩
  unfold binD at q1
  split at q1 <;> first | (cases q1; exact ⟨_, _, rx.int, ry.int, q _ H o.here (.int _)⟩) | contradiction
theorem sem_fdiv : SemOp X R (binaryOp .FloorDiv) (rdBin .FloorDiv) := semI op_fdivW fun d e z q1 q2 => by
  unfold binD at q1
  split at q1 <;> first | (cases q1; exact ⟨_, _, rfl, rfl, q2, rfl⟩) | contradiction
theorem sem_mod : SemOp X R (binaryOp .Mod) (rdBin .Mod) := semI op_mod fun d e z q1 q2 => by
  unfold binD at q1
  split at q1 <;> first | (cases q1; exact ⟨_, _, rfl, rfl, q2, rfl⟩) | contradiction
theorem sem_pow : SemOp X R (binaryOp .Pow) (rdBin .Pow) := semI op_pow fun d e z q1 q2 => by
  unfold binD at q1
  split at q1 <;> first | (cases q1; exact ⟨_, _, rfl, rfl, q2, rfl⟩) | contradiction
theorem sem_shl : SemOp X R (binaryOp .LShift) (rdBin .LShift) := semI op_shl fun d e z q1 q2 => by
  unfold binD at q1
  split at q1 <;> first | (cases q1; exact ⟨_, _, rfl, rfl, q2, rfl⟩) | contradiction
theorem sem_shr : SemOp X R (binaryOp .RShift) (rdBin .RShift) := semI op_shr fun d e z q1 q2 => by
  unfold binD at q1
  split at q1 <;> first | (cases q1; exact ⟨_, _, rfl, rfl, q2, rfl⟩) | contradiction
theorem sem_band : SemOp X R (binaryOp .BitAnd) (rdBin .BitAnd) := by
  refine ⟨⟨_, op_and, fun C es σ H x y d e Q o rx ry ⟨z, q1, q2, q⟩ => ?_⟩, rdBin_mono _⟩
  unfold binD at q1
  split at q1 <;> first | (cases q1; exact ⟨_, _, rx.int, ry.int, q _ H o.here (.int _)⟩) | contradiction
theorem new_tup {K : PySem.W.Frag} {C : DC R} {es : Es} {σ : L2.St} {H : Hp} {Q : VK} {xs : List V} {ds : List Dv} (o : Ok K C es σ H) (r : RepL K (C.Av es) H xs ds) (q : ∀ v H', Aft R H H' → Rep K (C.Av es) H' v (.tup ds) → Q v H') :
    ∀ p, H p = none → Q (.ref p) (upd H p (.tup xs)) := fun p hp => q _ _ (o.aft_new hp) (.tup (.inl (.inl upd_same)) (r.ext (C.avF es) (Ext.new hp)))
theorem new_lst {K : PySem.W.Frag} {C : DC R} {es : Es} {σ : L2.St} {H : Hp} {Q : VK} {xs : List V} {ds : List Dv} (o : Ok K C es σ H) (r : RepL K (C.Av es) H xs ds) (q : ∀ v H', Aft R H H' → Rep K (C.Av es) H' v (.lst ds) → Q v H') :
    ∀ p, H p = none → Q (.ref p) (upd H p (.lst xs)) := fun p hp => q _ _ (o.aft_new hp) (.lst ⟨upd_same, fun z => o.live z hp⟩ (r.ext (C.avF es) (Ext.new hp)))
theorem sem_add : SemOp X R (binaryOp .Add) (rdBin .Add) := by
  refine ⟨⟨_, op_add.or (op_add_str.or (op_catA.or op_catR)), fun C es σ H x y d e Q o rx ry ⟨z, q1, q2, q⟩ => ?_⟩, rdBin_mono _⟩
  unfold binD at q1
  split at q1 <;> first | contradiction | skip
  · cases q1
    exact .inl ⟨_, _, rx.int, ry.int, q _ H o.here (.int _)⟩
  · cases q1
    exact .inr (.inl ⟨_, _, rx.str, ry.str, sz5 q2, q _ H o.here (.str _)⟩)
  · cases q1
    obtain ⟨a, xs, e1, h1, r1⟩ := rx.tup
    obtain ⟨b, ys, e2, h2, r2⟩ := ry.tup
    refine .inr (.inr (.inl ⟨a, b, xs, ys, e1, e2, h1, h2, sz5 (by rw [r1.length, r2.length]; exact q2), fun z => ?_, fun _ z => ?_, fun _ _ => ?_⟩))
    · subst z
      cases r1
      exact q _ H o.here (.tup h2 r2)
    · subst z
      cases r2
      exact q _ H o.here (.tup h1 (by rw [List.append_nil]; exact r1))
    · exact new_tup o (r1.append r2) q
  · cases q1
    obtain ⟨a, xs, e1, h1, r1⟩ := rx.lst
    obtain ⟨b, ys, e2, h2, r2⟩ := ry.lst
    exact .inr (.inr (.inr ⟨a, b, xs, ys, e1, e2, h1, h2, sz5 (by rw [r1.length, r2.length]; exact q2), new_lst o (r1.append r2) q⟩))
def rRepR : R2 := fun x y H Q => ∃ l k xs, x = .ref l ∧ y = .int k ∧ Rd H l (.lst xs) ∧ -(2 ^ 63) ≤ k ∧ k < 2 ^ 63 ∧ xs.length * k.toNat ≤ sizeLine ∧
  ∀ p, H p = none → Q (.ref p) (upd H p (.lst (List.replicate k.toNat xs).flatten))
theorem op_repR : OpR X (binaryOp .Mult) rRepR := by
  intro pins s σ H x y v u Q I rx ry h
  obtain ⟨l, k, xs, rfl, rfl, hH, h1, h2, hz, q⟩ := h
  cases rx
  obtain ⟨t, rfl⟩ := ry
  obtain ⟨z, its, n, r, hl, e⟩ := Inv.lstR I hH
  have hlen : its.toArray.size * k.toNat ≤ sizeLine := by rw [List.size_toArray, ← hl]; exact hz
  have hcap : ¬ its.toArray.size * k.toNat > (2 ^ 63 - 1) / 8 := by
    have : (sizeLine : Nat) ≤ (2 ^ 63 - 1) / 8 := by decide
    omega
  have hfit : ¬ (!Builtin.List.listFitsIndex k) = true := by
    rw [fitsIndex_both h1 h2]
    exact Bool.false_ne_true
  have hlong : ¬ Builtin.List.listTooLong (its.toArray.size * k.toNat) = true := by
    rw [notLongL hlen]
    exact Bool.false_ne_true
  have hnew : List.foldl (fun x1 x2 => x1 ++ x2) #[] (List.replicate (if its.toArray.isEmpty = true then 0 else k.toNat) its.toArray) = (List.replicate k.toNat its).flatten.toArray := by
    have f0 : ∀ m : Nat, List.foldl (fun x1 x2 => x1 ++ x2) #[] (List.replicate m its.toArray) = (List.replicate m its).flatten.toArray := fun m => by
      have := foldl_rep its m []
      rw [List.nil_append] at this
      exact this
    rw [f0]
    cases its with
    | nil => simp
    | cons a r' => rw [if_neg (by simp)]
  refine wpAny_binaryOp_repeat_ref (T := "list") (U := "int") (by decide) ⟨_, e, rfl⟩ (fun s' => typeIs_int s' k t) noFill_list_mul F.fills_int_mul F.slot_int_rmul repeat_list F.slot_int_index.lookup
    (call_meets F.slot_int_rmul (typeIs_int s k t) F.entry_int_rmul (F.args_int_rmul_2 _ _) (int___rmul___int_list k t l its.toArray n)
      ⟨e, rfl, ⟨_, e, rfl⟩, call_meets F.slot_list_mul ⟨_, e, rfl⟩ F.entry_list_mul (F.args_list_mul_2 _ _) (AutoListH.list___mul___list_int_3 l its.toArray n k t hfit hcap hlong) ⟨e, ?_⟩⟩)
  rw [hnew]
  exact ⟨.ref _, _, I.lnew (t' := s.toks) (r.rep k.toNat) (by rw [PyProof.Rows.lm_len_rep_flat, Nat.mul_comm]; exact hz), rfl, q _ I.fresh⟩
theorem RepL.repF {K : PySem.W.Frag} {Av : Addr → Prop} {H : Hp} {xs : List V} {ds : List Dv} (r : RepL K Av H xs ds) : ∀ n : Nat, RepL K Av H (List.replicate n xs).flatten (List.replicate n ds).flatten
  | 0 => .nil
  | n + 1 => by rw [List.replicate_succ, List.replicate_succ, List.flatten_cons, List.flatten_cons]; exact r.append (RepL.repF r n)
theorem sem_mul : SemOp X R (binaryOp .Mult) (rdBin .Mult) := by
  refine ⟨⟨_, (op_mul.or op_mulW).or op_repR, fun C es σ H x y d e Q o rx ry ⟨z, q1, q2, q⟩ => ?_⟩, rdBin_mono _⟩
  unfold binD at q1
  split at q1 <;> first | contradiction | skip
  · cases q1
    exact .inl (q2.imp (fun q2 => ⟨_, _, rx.int, ry.int, q2, q _ H o.here (.int _)⟩) fun q2 => ⟨_, _, rx.int, ry.int, q2, q _ H o.here (.int _)⟩)
  · cases q1
    obtain ⟨a, xs, e1, h1, r1⟩ := rx.lst
    exact .inr ⟨a, _, xs, e1, ry.int, h1, q2.2.1, q2.2.2, sz5 (by rw [r1.length]; exact q2.1), new_lst o (r1.repF _) q⟩
def okBin : Operator → Bool
  | .Add | .Sub | .Mult | .FloorDiv | .Mod | .Pow | .LShift | .RShift | .BitAnd => true
  | _ => false
theorem sem_bin : ∀ {op : Operator}, okBin op = true → SemOp X R (binaryOp op) (rdBin op)
  | .Add, _ => sem_add
  | .Sub, _ => sem_sub
  | .Mult, _ => sem_mul
  | .FloorDiv, _ => sem_fdiv
  | .Mod, _ => sem_mod
  | .Pow, _ => sem_pow
  | .LShift, _ => sem_shl
  | .RShift, _ => sem_shr
  | .BitAnd, _ => sem_band
variable {e a b c : Expr} {w wa wb wc : WE} {pos : Pos}
theorem de_bin {op : Operator} (ha : DB X R a wa) (hb : DB X R b wb) (h : okBin op = true := by rfl) : DE X R (.BinOp a op b pos) (w2 (rdBin op) wa wb) := de_op2 (sem_bin h) ha hb
/-- list + list, list * int: a new list -/
theorem dn_cat (ha : DB X R a wa) (hb : DB X R b wb) : DN X R (.BinOp a .Add b pos) (fun es Q => wa es fun x => wb es fun y => ∃ xs ys, x = .lst xs ∧ y = .lst ys ∧ xs.length + ys.length ≤ 100000 ∧ Q (xs ++ ys)) := by
  refine ⟨fun C => PE.imp (pe_op op_catR (ha.pe C) (hb.pe C)) fun σ H Q ⟨es, o, q⟩ => ⟨es, o, ha.mono es _ _ (fun d k v H1 a1 r1 => ⟨es, o.aft a1, hb.mono es _ _ (fun d ⟨xs, ys, e1, e2, hl, kk⟩ v H2 a2 r2 => ?_) k⟩) q⟩,
    fun es P P' f q => ha.mono es _ _ (fun d k => hb.mono es _ _ (fun e ⟨xs, ys, e1, e2, hl, k⟩ => ⟨xs, ys, e1, e2, hl, f _ k⟩) k) q⟩
  subst e1 e2
  obtain ⟨a, vs, e1, h1, q1⟩ := (r1.aft (o.aft a1) a2).lst
  obtain ⟨b, us, e2, h2, q2⟩ := r2.lst
  refine ⟨a, b, vs, us, e1, e2, h1, h2, sz5 (by rw [q1.length, q2.length]; exact hl), fun p hp => ?_⟩
  have a3 := (o.aft (a1.trans a2)).aft_new (u := .lst (vs ++ us)) hp
  exact kk _ _ ((a1.trans a2).trans a3) ⟨(a1.trans a2).ext.live _ hp, _, upd_same, ((q1.append q2).more (Av' := fun b => C.Av es b ∨ b = p) fun b z => z.imp id fun z => z ▸ hp).ext (F := R.F) (fun b f => .inl (C.avF es b f)) a3.ext⟩
theorem dn_rep (ha : DB X R a wa) (hb : DB X R b wb) : DN X R (.BinOp a .Mult b pos) (fun es Q => wa es fun x => wb es fun y => ∃ xs k, x = .lst xs ∧ y = .int k ∧ (xs.length * k.toNat ≤ 100000 ∧ -(2 ^ 63) ≤ k ∧ k < 2 ^ 63) ∧ Q (List.replicate k.toNat xs).flatten) := by
  refine ⟨fun C => PE.imp (pe_op op_repR (ha.pe C) (hb.pe C)) fun σ H Q ⟨es, o, q⟩ => ⟨es, o, ha.mono es _ _ (fun d k v H1 a1 r1 => ⟨es, o.aft a1, hb.mono es _ _ (fun d ⟨xs, n, e1, e2, hl, kk⟩ v H2 a2 r2 => ?_) k⟩) q⟩,
    fun es P P' f q => ha.mono es _ _ (fun d k => hb.mono es _ _ (fun e ⟨xs, n, e1, e2, hl, k⟩ => ⟨xs, n, e1, e2, hl, f _ k⟩) k) q⟩
  subst e1 e2
  obtain ⟨a, vs, e1, h1, q1⟩ := (r1.aft (o.aft a1) a2).lst
  refine ⟨a, n, vs, e1, r2.int, h1, hl.2.1, hl.2.2, sz5 (by rw [q1.length]; exact hl.1), fun p hp => ?_⟩
  have a3 := (o.aft (a1.trans a2)).aft_new (u := .lst (List.replicate n.toNat vs).flatten) hp
  exact kk _ _ ((a1.trans a2).trans a3) ⟨(a1.trans a2).ext.live _ hp, _, upd_same, ((q1.repF n.toNat).more (Av' := fun b => C.Av es b ∨ b = p) fun b z => z.imp id fun z => z ▸ hp).ext (F := R.F) (fun b f => .inl (C.avF es b f)) a3.ext⟩
/-- -n -/
def wNeg (wa : WE) : WE := fun es Q => wa es fun x => ∃ i, x = .int i ∧ Q (.int (-i))
theorem de_neg (ha : DE X R a wa) : DE X R (.UnaryOp .USub a pos) (wNeg wa) :=
  ⟨fun C => PE.imp (pe_un un_neg (ha.pe C)) fun σ H Q ⟨es, o, q⟩ => ⟨es, o, ha.mono es _ _ (fun d ⟨i, e, k⟩ v H1 a r => by subst e; cases r; exact ⟨i, rfl, k _ H1 a (.int _)⟩) q⟩, fun es P P' f q => ha.mono es _ _ (fun d ⟨i, e, k⟩ => ⟨i, e, f _ k⟩) q⟩

/-! ### == and != -/
mutual
def toPy : Dv → PyData
  | .non => .none
  | .bl b => .bool b
  | .int i => .int i
  | .str x => .str x
  | .tup ds => .tuple (toPyL ds)
  | .lst ds => .list (toPyL ds)
  | _ => .dict []
def toPyL : List Dv → List PyData
  | [] => []
  | d :: ds => toPy d :: toPyL ds
end
/-- no bools, no dicts, at most n deep -/
def pl : Nat → Dv → Bool
  | _, .non => true
  | _, .int _ => true
  | _, .str x => PyData.strOk x
  | n + 1, .tup ds => ds.all (pl n)
  | n + 1, .lst ds => ds.all (pl n)
  | _, _ => false
mutual
theorem Rep.dp {K : PySem.W.Frag} {Av : Addr → Prop} {H : Hp} : ∀ {v : V} {d : Dv}, Rep K Av H v d → (toPy d).canLay0 = true → Dp K H v (toPy d)
  | _, _, .non, _ => .non
  | _, _, .bl b, _ => .bl b
  | _, _, .int i, _ => .int i
  | _, _, .str x, _ => .str x
  | _, _, .tup h r, q => .tup h (RepL.dp r (by simpa [toPy, PyData.canLay0] using q))
  | _, _, .lst h r, q => .lst h.sq (RepL.dp r (by simpa [toPy, PyData.canLay0] using q))
  | _, _, .scr _, q => by simp [toPy, PyData.canLay0] at q
  | _, _, .dK _ _ _, q => by simp [toPy, PyData.canLay0] at q
  | _, _, .dT _ _ _, q => by simp [toPy, PyData.canLay0] at q
  | _, _, .fT _ _ _, q => by simp [toPy, PyData.canLay0] at q
  | _, _, .ref _, q => by simp [toPy, PyData.canLay0] at q
  | _, _, .exc _, q => by simp [toPy, PyData.canLay0] at q
theorem RepL.dp {K : PySem.W.Frag} {Av : Addr → Prop} {H : Hp} : ∀ {vs : List V} {ds : List Dv}, RepL K Av H vs ds → PyData.canLayAll0 (toPyL ds) = true → DpAll K H vs (toPyL ds)
  | _, _, .nil, _ => .nil
  | _, _, .cons (d := d) (ds := ds) q r, h => by
    have h' : ((toPy d).canLay0 && PyData.canLayAll0 (toPyL ds)) = true := by simpa [toPyL, PyData.canLayAll0] using h
    have h2 := Bool.and_eq_true_iff.mp h'
    exact .cons (Rep.dp q h2.1) (RepL.dp r h2.2)
end
theorem RepB.dp {K : PySem.W.Frag} {C : DC R} {es : Es} {H : Hp} {v : V} {d : Dv} (h : RepB K C es H v d) (q : (toPy d).canLay0 = true) : Dp K H v (toPy d) := by
  rcases h with h | ⟨l, e, hl, h⟩
  · exact h.dp q
  · subst e
    exact (h.rep (Av' := fun _ => False) (fun z => z) (fun _ z => z.elim)).dp q
theorem depth_all {n : Nat} : ∀ {ds : List Dv}, (∀ d ∈ ds, (toPy d).depth ≤ n) → PyData.depthAll (toPyL ds) ≤ n
  | [], _ => by simp [toPyL, PyData.depthAll]
  | d :: ds, h => by
    have h1 := h d List.mem_cons_self
    have h2 := depth_all (ds := ds) fun d q => h d (List.mem_cons_of_mem _ q)
    simp only [toPyL, PyData.depthAll]
    omega
theorem lay_all : ∀ {ds : List Dv}, (∀ d ∈ ds, (toPy d).canLay0 = true) → PyData.canLayAll0 (toPyL ds) = true
  | [], _ => by simp [toPyL, PyData.canLayAll0]
  | d :: ds, h => by
    simp only [toPyL, PyData.canLayAll0, Bool.and_eq_true]
    exact ⟨h d List.mem_cons_self, lay_all fun d q => h d (List.mem_cons_of_mem _ q)⟩
theorem pl_lay : ∀ {n : Nat} {d : Dv}, pl n d = true → (toPy d).canLay0 = true ∧ (toPy d).depth ≤ n
  | n, .non, _ => by simp [toPy, PyData.canLay0, PyData.depth]
  | n, .int i, _ => by simp [toPy, PyData.canLay0, PyData.depth]
  | n, .str x, h => by
    have : PyData.strOk x = true := by cases n <;> simpa [pl] using h
    simp [toPy, PyData.canLay0, PyData.depth, this]
  | n + 1, .tup ds, h => by
    have h' : ∀ d ∈ ds, pl n d = true := by simpa [pl] using h
    have h1 := lay_all fun d q => (pl_lay (h' d q)).1
    have h2 := depth_all fun d q => (pl_lay (h' d q)).2
    simp only [toPy, PyData.canLay0, PyData.depth]
    exact ⟨h1, by omega⟩
  | n + 1, .lst ds, h => by
    have h' : ∀ d ∈ ds, pl n d = true := by simpa [pl] using h
    have h1 := lay_all fun d q => (pl_lay (h' d q)).1
    have h2 := depth_all fun d q => (pl_lay (h' d q)).2
    simp only [toPy, PyData.canLay0, PyData.depth]
    exact ⟨h1, by omega⟩
  | 0, .tup ds, h => by simp [pl] at h
  | 0, .lst ds, h => by simp [pl] at h
  | n, .bl b, h => by cases n <;> simp [pl] at h
  | n, .scr b, h => by cases n <;> simp [pl] at h
  | n, .dK b c, h => by cases n <;> simp [pl] at h
  | n, .dT b c, h => by cases n <;> simp [pl] at h
  | n, .fT b c, h => by cases n <;> simp [pl] at h
  | n, .ref b, h => by cases n <;> simp [pl] at h
  | n, .exc b, h => by cases n <;> simp [pl] at h
theorem pl_shaped {n : Nat} {d : Dv} (h : pl n d = true) (hn : n ≤ 60) : SeqAt.shaped (toPy d) = true := by
  obtain ⟨h1, h2⟩ := pl_lay h
  unfold SeqAt.shaped
  rw [h1, Bool.true_and]
  exact decide_eq_true (by omega)
mutual
theorem pl_eqv : ∀ (n m : Nat) (d e : Dv), pl n d = true → pl m e = true → (PyData.eqv (toPy d) (toPy e) = true ↔ d = e)
  | n, m, .non, e, h, h' => by cases e <;> (cases m <;> simp [pl] at h' <;> simp [toPy, PyData.eqv])
  | n, m, .int i, e, h, h' => by cases e <;> (cases m <;> simp [pl] at h' <;> simp [toPy, PyData.eqv])
  | n, m, .str i, e, h, h' => by cases e <;> (cases m <;> simp [pl] at h' <;> simp [toPy, PyData.eqv])
  | n + 1, m, .tup ds, e, h, h' => by
    cases e with
    | tup es =>
      cases m with
      | zero => simp [pl] at h'
      | succ m =>
        have := pl_eqvL n m ds es (by simpa [pl] using h) (by simpa [pl] using h')
        simpa [toPy, PyData.eqv] using this
    | _ => cases m <;> simp [pl] at h' <;> simp [toPy, PyData.eqv]
  | n + 1, m, .lst ds, e, h, h' => by
    cases e with
    | lst es =>
      cases m with
      | zero => simp [pl] at h'
      | succ m =>
        have := pl_eqvL n m ds es (by simpa [pl] using h) (by simpa [pl] using h')
        simpa [toPy, PyData.eqv] using this
    | _ => cases m <;> simp [pl] at h' <;> simp [toPy, PyData.eqv]
  | 0, _, .tup ds, _, h, _ => by simp [pl] at h
  | 0, _, .lst ds, _, h, _ => by simp [pl] at h
  | n, _, .bl b, _, h, _ => by cases n <;> simp [pl] at h
  | n, _, .scr b, _, h, _ => by cases n <;> simp [pl] at h
  | n, _, .dK b c, _, h, _ => by cases n <;> simp [pl] at h
  | n, _, .dT b c, _, h, _ => by cases n <;> simp [pl] at h
  | n, _, .fT b c, _, h, _ => by cases n <;> simp [pl] at h
  | n, _, .ref b, _, h, _ => by cases n <;> simp [pl] at h
  | n, _, .exc b, _, h, _ => by cases n <;> simp [pl] at h
theorem pl_eqvL : ∀ (n m : Nat) (ds es : List Dv), (∀ d ∈ ds, pl n d = true) → (∀ d ∈ es, pl m d = true) → (PyData.eqvAll (toPyL ds) (toPyL es) = true ↔ ds = es)
  | n, m, [], es, _, _ => by cases es <;> simp [toPyL, PyData.eqvAll]
  | n, m, d :: ds, [], _, _ => by simp [toPyL, PyData.eqvAll]
  | n, m, d :: ds, e :: es, h, h' => by
    have h1 := pl_eqv n m d e (h d List.mem_cons_self) (h' e List.mem_cons_self)
    have h2 := pl_eqvL n m ds es (fun d q => h d (List.mem_cons_of_mem _ q)) (fun d q => h' d (List.mem_cons_of_mem _ q))
    simp only [toPyL, PyData.eqvAll, Bool.and_eq_true, h1, h2, List.cons.injEq]
end
/-- two scalars that == tells apart as data does -/
def scD : Dv → Dv → Bool
  | .bl _, .bl _ => true
  | .int _, .int _ => true
  | .str _, .str _ => true
  | .non, .non => true
  | _, _ => false
def eqC (d e : Dv) : Prop := scD d e = true ∨ ∃ n, n ≤ 60 ∧ pl n d = true ∧ pl n e = true
def rdEq : Dv → Dv → (Dv → Prop) → Prop := fun d e Q => eqC d e ∧ ∀ k, (k = true ↔ d = e) → Q (.bl k)
def rdNe : Dv → Dv → (Dv → Prop) → Prop := fun d e Q => eqC d e ∧ ∀ k, (k = true ↔ d = e) → Q (.bl (!k))
theorem sc_eq {K : PySem.W.Frag} {C : DC R} {es : Es} {H : Hp} {x y : V} {d e : Dv} (rx : RepB K C es H x d) (ry : RepB K C es H y e) (h : scD d e = true) : scal x y = true ∧ (decide (x = y) = true ↔ d = e) := by
  cases d <;> cases e <;> simp [scD] at h
  · rw [rx.non, ry.non]; simp [scal]
  · rw [rx.bl, ry.bl]; simp [scal]
  · rw [rx.int, ry.int]; simp [scal]
  · rw [rx.str, ry.str]; simp [scal]
theorem sem_eq (hu : X.A.units + 64 < cLine) : SemOp X R (compareOp .Eq) rdEq := by
  refine ⟨⟨_, op_eq.or (op_eqD hu), fun C es σ H x y d e Q o rx ry ⟨c, q⟩ => ?_⟩, fun d e P P' f ⟨c, q⟩ => ⟨c, fun k h => f _ (q k h)⟩⟩
  rcases c with c | ⟨n, hn, h1, h2⟩
  · obtain ⟨s, i⟩ := sc_eq rx ry c
    exact .inl ⟨s, q _ i _ H o.here (.bl _)⟩
  · exact .inr ⟨_, _, rx.dp (pl_lay h1).1, ry.dp (pl_lay h2).1, pl_shaped h1 hn, pl_shaped h2 hn, q _ (pl_eqv n n d e h1 h2) _ H o.here (.bl _)⟩
theorem sem_ne (hu : X.A.units + 64 < cLine) : SemOp X R (compareOp .NotEq) rdNe := by
  refine ⟨⟨_, op_ne.or (op_neD hu), fun C es σ H x y d e Q o rx ry ⟨c, q⟩ => ?_⟩, fun d e P P' f ⟨c, q⟩ => ⟨c, fun k h => f _ (q k h)⟩⟩
  rcases c with c | ⟨n, hn, h1, h2⟩
  · obtain ⟨s, i⟩ := sc_eq rx ry c
    exact .inl ⟨s, q _ i _ H o.here (.bl _)⟩
  · exact .inr ⟨_, _, rx.dp (pl_lay h1).1, ry.dp (pl_lay h2).1, pl_shaped h1 hn, pl_shaped h2 hn, q _ (pl_eqv n n d e h1 h2) _ H o.here (.bl _)⟩
theorem de_eq (hu : X.A.units + 64 < cLine) (ha : DB X R a wa) (hb : DB X R b wb) : DE X R (.Compare a [.Eq] [b] pos) (w2 rdEq wa wb) := de_cmp2 (sem_eq hu) ha hb (nomark _)
theorem dt_eq (hu : X.A.units + 64 < cLine) (ha : DB X R a wa) (hb : DB X R b wb) : DT X R (.Compare a [.Eq] [b] pos) (w2T rdEq wa wb) := dt_cmp2 (sem_eq hu) ha hb (nomark _)
theorem de_ne (hu : X.A.units + 64 < cLine) (ha : DB X R a wa) (hb : DB X R b wb) : DE X R (.Compare a [.NotEq] [b] pos) (w2 rdNe wa wb) := de_cmp2 (sem_ne hu) ha hb (nomark _)
theorem dt_ne (hu : X.A.units + 64 < cLine) (ha : DB X R a wa) (hb : DB X R b wb) : DT X R (.Compare a [.NotEq] [b] pos) (w2T rdNe wa wb) := dt_cmp2 (sem_ne hu) ha hb (nomark _)

/-! ### < <= > >= of ints -/
def ordD : CmpOp → Int → Int → Bool
  | .Lt, i, j => decide (i < j)
  | .LtE, i, j => decide (i ≤ j)
  | .Gt, i, j => decide (j < i)
  | _, i, j => decide (j ≤ i)
def okOrd : CmpOp → Bool
  | .Lt | .LtE | .Gt | .GtE => true
  | _ => false
def rdOrd (op : CmpOp) : Dv → Dv → (Dv → Prop) → Prop := fun d e Q => ∃ i j, d = .int i ∧ e = .int j ∧ Q (.bl (ordD op i j))
theorem op_ord : ∀ {op : CmpOp}, okOrd op = true → OpR X (compareOp op) (rI0 fun i j => .bl (ordD op i j))
  | .Lt, _ => op_lt
  | .LtE, _ => op_le
  | .Gt, _ => op_gt
  | .GtE, _ => op_ge
theorem sem_ord {op : CmpOp} (h : okOrd op = true) : SemOp X R (compareOp op) (rdOrd op) :=
  ⟨⟨_, op_ord h, fun C es σ H x y d e Q o rx ry ⟨i, j, e1, e2, q⟩ => by subst e1 e2; exact ⟨i, j, rx.int, ry.int, q _ H o.here (.bl _)⟩⟩, fun d e P P' f ⟨i, j, e1, e2, q⟩ => ⟨i, j, e1, e2, f _ q⟩⟩
theorem ord_mark {op : CmpOp} (h : okOrd op = true) (b : Expr) : behindInMarks op b = false := nobehind b (by intro z; subst z; cases h) (by intro z; subst z; cases h)
theorem de_ord {op : CmpOp} (ha : DB X R a wa) (hb : DB X R b wb) (h : okOrd op = true := by rfl) : DE X R (.Compare a [op] [b] pos) (w2 (rdOrd op) wa wb) := de_cmp2 (sem_ord h) ha hb (ord_mark h b)
theorem dt_ord {op : CmpOp} (ha : DB X R a wa) (hb : DB X R b wb) (h : okOrd op = true := by rfl) : DT X R (.Compare a [op] [b] pos) (w2T (rdOrd op) wa wb) := dt_cmp2 (sem_ord h) ha hb (ord_mark h b)
/-- a <= b < c of ints -/
def wChain (op op' : CmpOp) (wa wb wc : WE) : WT := fun es Q => wa es fun x => wb es fun y => ∃ i j, x = .int i ∧ y = .int j ∧ if ordD op i j = true then wc es fun z => ∃ k, z = .int k ∧ Q (ordD op' j k) else Q false
theorem dt_chain {op op' : CmpOp} (ha : DB X R a wa) (hb : DB X R b wb) (hc : DB X R c wc) (h : okOrd op = true := by rfl) (h' : okOrd op' = true := by rfl) (hm : lastMarks [op, op'] [b, c] = false := by with_unfolding_all rfl) :
    DT X R (.Compare a [op, op'] [b, c] pos) (wChain op op' wa wb wc) := by
  refine ⟨fun C => PT.imp (pt_chain (op_ord h) (op_ord h') (ha.pe C) (hb.pe C) (hc.pe C) hm) fun σ H Q ⟨es, o, q⟩ => ⟨es, o, ha.mono es _ _ (fun d k v H1 a1 r1 => ⟨es, o.aft a1, hb.mono es _ _ (fun d ⟨i, j, e1, e2, kk⟩ v H2 a2 r2 => ?_) k⟩) q⟩,
    fun es P P' f q => ha.mono es _ _ (fun d k => hb.mono es _ _ (fun e ⟨i, j, e1, e2, kk⟩ => ⟨i, j, e1, e2, ?_⟩) k) q⟩
  · subst e1 e2
    refine ⟨i, j, r1.int, r2.int, _, rfl, ?_⟩
    by_cases z : ordD op i j = true
    · rw [if_pos z] at kk ⊢
      exact ⟨es, o.aft (a1.trans a2), hc.mono es _ _ (fun d ⟨n, e, k⟩ v H3 a3 r3 => by subst e; exact ⟨j, n, r2.int, r3.int, _, rfl, k H3 ((a1.trans a2).trans a3)⟩) kk⟩
    · rw [if_neg z] at kk ⊢
      exact ⟨_, rfl, kk H2 (a1.trans a2)⟩
  · by_cases z : ordD op i j = true
    · rw [if_pos z] at kk ⊢
      exact hc.mono es _ _ (fun d ⟨n, e, k⟩ => ⟨n, e, f _ k⟩) kk
    · rw [if_neg z] at kk ⊢
      exact f _ kk

/-! ### is None -/
theorem rep_non {K : PySem.W.Frag} {C : DC R} {es : Es} {H : Hp} {x : V} {d : Dv} (h : RepB K C es H x d) : (decide (x = .non) = true ↔ d = .non) := by
  rcases h with h | ⟨l, e, hl, h⟩
  · cases h <;> simp
  · subst e
    cases d <;> first | exact h.elim | simp
def rdIsN : Dv → Dv → (Dv → Prop) → Prop := fun d e Q => e = .non ∧ ∀ k, (k = true ↔ d = .non) → Q (.bl k)
def rdNotN : Dv → Dv → (Dv → Prop) → Prop := fun d e Q => e = .non ∧ ∀ k, (k = true ↔ d = .non) → Q (.bl (!k))
theorem sem_isN : SemOp X R (compareOp .Is) rdIsN :=
  ⟨⟨_, op_isN, fun C es σ H x y d e Q o rx ry ⟨e1, q⟩ => by subst e1; exact ⟨ry.non, q _ (rep_non rx) _ H o.here (.bl _)⟩⟩, fun d e P P' f ⟨e1, q⟩ => ⟨e1, fun k h => f _ (q k h)⟩⟩
theorem sem_notN : SemOp X R (compareOp .IsNot) rdNotN :=
  ⟨⟨_, op_notN, fun C es σ H x y d e Q o rx ry ⟨e1, q⟩ => by subst e1; exact ⟨ry.non, q _ (rep_non rx) _ H o.here (.bl _)⟩⟩, fun d e P P' f ⟨e1, q⟩ => ⟨e1, fun k h => f _ (q k h)⟩⟩
theorem de_isN (ha : DB X R a wa) (hb : DB X R b wb) : DE X R (.Compare a [.Is] [b] pos) (w2 rdIsN wa wb) := de_cmp2 sem_isN ha hb (nomark _)
theorem dt_isN (ha : DB X R a wa) (hb : DB X R b wb) : DT X R (.Compare a [.Is] [b] pos) (w2T rdIsN wa wb) := dt_cmp2 sem_isN ha hb (nomark _)
theorem de_notN (ha : DB X R a wa) (hb : DB X R b wb) : DE X R (.Compare a [.IsNot] [b] pos) (w2 rdNotN wa wb) := de_cmp2 sem_notN ha hb (nomark _)
theorem dt_notN (ha : DB X R a wa) (hb : DB X R b wb) : DT X R (.Compare a [.IsNot] [b] pos) (w2T rdNotN wa wb) := dt_cmp2 sem_notN ha hb (nomark _)

/-! ### subscripts -/
def ixD : Dv → Dv → Option Dv
  | .lst ds, .int i => atI ds i
  | .tup ds, .int i => atI ds i
  | .scr ns, .int i => (atI ns i).map .int
  | .str z, .int i => (atI z.cps.toList i).map fun c => .str ⟨#[c]⟩
  | _, _ => none
def ixC : Dv → Prop
  | .str z => z.length ≤ 100000
  | _ => True
def wIx (wa wb : WE) : WE := fun es Q => wa es fun x => wb es fun y => ∃ z, ixD x y = some z ∧ ixC x ∧ Q z
theorem RepL.atI {K : PySem.W.Frag} {Av : Addr → Prop} {H : Hp} {xs : List V} {ds : List Dv} {i : Int} {d : Dv} (r : RepL K Av H xs ds) (h : atI ds i = some d) : ∃ v, atI xs i = some v ∧ Rep K Av H v d := by
  unfold L2.atI at h ⊢
  rw [r.length]
  cases q : ixN ds.length i with
  | none => rw [q] at h; cases h
  | some j =>
    rw [q] at h
    obtain ⟨v, h1, h2⟩ := r.get' (show ds[j]? = some d from h)
    exact ⟨v, h1, h2⟩
theorem atI_map {α β : Type} (f : α → β) (xs : List α) (i : Int) : atI (xs.map f) i = (atI xs i).map f := by
  unfold L2.atI
  rw [List.length_map]
  cases ixN xs.length i with
  | none => rfl
  | some j => show (xs.map f)[j]? = (xs[j]?).map f; rw [List.getElem?_map]
theorem de_ix (ha : DB X R a wa) (hb : DE X R b wb) (hs : PlainIx b := by intro _ _; rfl) : DE X R (.Subscript a b pos) (wIx wa wb) := by
  refine ⟨fun C => PE.imp (pe_ix ix_seq (ha.pe C) (hb.bb.pe C) hs) fun σ H Q ⟨es, o, q⟩ => ⟨es, o, ha.mono es _ _ (fun d k v H1 a1 r1 => ⟨es, o.aft a1, hb.mono es _ _ (fun e ⟨z, h, hc, kk⟩ u H2 a2 r2 => ?_) k⟩) q⟩,
    fun es P P' f q => ha.mono es _ _ (fun d k => hb.mono es _ _ (fun e ⟨z, h, hc, k⟩ => ⟨z, h, hc, f _ k⟩) k) q⟩
  have r1 := r1.aft (o.aft a1) a2
  have a3 := a1.trans a2
  unfold ixD at h
  split at h
  · obtain ⟨p, xs, e1, h1, q1⟩ := r1.lst
    obtain ⟨v', h2, q2⟩ := q1.atI h
    exact .inl ⟨p, xs, _, v', e1, r2.int, .inl h1, h2, kk v' H2 a3 q2⟩
  · obtain ⟨p, xs, e1, h1, q1⟩ := r1.tup
    obtain ⟨v', h2, q2⟩ := q1.atI h
    exact .inr (.inl ⟨p, xs, _, v', e1, r2.int, h1, h2, kk v' H2 a3 q2⟩)
  · obtain ⟨p, e1, h1⟩ := r1.scr
    obtain ⟨n, h2, rfl⟩ := Option.map_eq_some_iff.mp h
    exact .inl ⟨p, _, _, .int n, e1, r2.int, h1, by rw [atI_map, h2]; rfl, kk _ H2 a3 (.int n)⟩
  · obtain ⟨c, h2, rfl⟩ := Option.map_eq_some_iff.mp h
    exact .inr (.inr ⟨_, _, c, r1.str, r2.int, sz5 hc, h2, kk _ H2 a3 (.str _)⟩)
  · cases h

/-! ### slices -/
abbrev WO := Es → (Option Int → Prop) → Prop
def liftO (K : PySem.W.Frag) (C : DC R) (w : WO) : TO := fun σ H Q => ∃ es, Ok K C es σ H ∧ w es fun d => ∀ H', Aft R H H' → Q d H'
structure DO (X : Cx) (R : RS) (e : Option Expr) (w : WO) : Prop where
  po : ∀ C : DC R, PO X e (liftO X.K C w)
  mono : MonoE w
theorem PO.imp {e : Option Expr} {t t' : TO} (h : PO X e t) (f : ∀ σ H Q, t' σ H Q → t σ H Q) : PO X e t' := ⟨fun pins s σ H Q I q => h.run pins s σ H Q I (f _ _ _ q)⟩
def woN : WO := fun _ Q => Q none
def woS (w : WE) : WO := fun es Q => w es fun x => ∃ i, x = .int i ∧ Q (some i)
theorem do_none : DO X R none woN := ⟨fun C => PO.imp po_none fun σ H Q ⟨es, o, q⟩ => q H o.here, fun _ _ _ f q => f _ q⟩
theorem do_some (h : DE X R e w) : DO X R (some e) (woS w) :=
  ⟨fun C => PO.imp (po_some (h.pe C)) fun σ H Q ⟨es, o, q⟩ => ⟨es, o, h.mono es _ _ (fun d ⟨i, e, k⟩ v H1 a r => by subst e; cases r; exact ⟨i, rfl, k H1 a⟩) q⟩, fun es P P' f q => h.mono es _ _ (fun d ⟨i, e, k⟩ => ⟨i, e, f _ k⟩) q⟩
def cutL {α : Type} (xs : List α) (lo hi : Option Int) : List α := (xs.drop (HT.sIx xs.length 0 lo)).take (HT.sIx xs.length xs.length hi - HT.sIx xs.length 0 lo)
theorem cutL_V (xs : List V) (lo hi : Option Int) : cutV xs lo hi = cutL xs lo hi := rfl
theorem cutL_map {α β : Type} (f : α → β) (xs : List α) (lo hi : Option Int) : cutL (xs.map f) lo hi = (cutL xs lo hi).map f := by
  unfold cutL
  rw [List.length_map, List.map_take, List.map_drop]
theorem RepL.cut {K : PySem.W.Frag} {Av : Addr → Prop} {H : Hp} {xs : List V} {ds : List Dv} {lo hi : Option Int} (r : RepL K Av H xs ds) : RepL K Av H (cutV xs lo hi) (cutL ds lo hi) := by
  rw [cutL_V]
  unfold cutL
  rw [r.length]
  exact (r.drop _).take _
variable {lo hi : Option Expr} {wl wh : WO} {p2 : Pos}
/-- xs[lo:hi] of a list: a new one -/
def wSlL (wa : WE) (wl wh : WO) : WA := fun es Q => wa es fun x => wl es fun l => wh es fun h => (∃ ds, x = .lst ds ∧ Q (cutL ds l h)) ∨ ∃ ns, x = .scr ns ∧ Q ((cutL ns l h).map Dv.int)
theorem dn_slice (ha : DB X R a wa) (hl : DO X R lo wl) (hh : DO X R hi wh) : DN X R (.Subscript a (.Slice lo hi none p2) pos) (wSlL wa wl wh) := by
  refine ⟨fun C => PE.imp (pe_slice sl_list (ha.pe C) (hl.po C) (hh.po C)) fun σ H Q ⟨es, o, q⟩ => ⟨es, o, ha.mono es _ _ (fun d k v H1 a1 r1 => ⟨es, o.aft a1, hl.mono es _ _ (fun l k H2 a2 => ⟨es, o.aft (a1.trans a2), hh.mono es _ _ (fun h kk H3 a3 => ?_) k⟩) k⟩) q⟩,
    fun es P P' f q => ha.mono es _ _ (fun d k => hl.mono es _ _ (fun l k => hh.mono es _ _ (fun h k => k.imp (fun ⟨ds, e, k⟩ => ⟨ds, e, f _ k⟩) fun ⟨ds, e, k⟩ => ⟨ds, e, f _ k⟩) k) k) q⟩
  have a4 := (a1.trans a2).trans a3
  have r1 := r1.aft (o.aft a1) (a2.trans a3)
  rcases kk with ⟨ds, e, kk⟩ | ⟨ns, e, kk⟩
  · subst e
    obtain ⟨p, xs, e1, h1, q1⟩ := r1.lst
    refine ⟨p, xs, e1, .inl h1, fun p hp => ?_⟩
    have a5 := (o.aft a4).aft_new (u := .lst (cutV xs l h)) hp
    exact kk _ _ (a4.trans a5) ⟨a4.ext.live _ hp, _, upd_same, (q1.cut.more (Av' := fun b => C.Av es b ∨ b = p) fun b z => z.imp id fun z => z ▸ hp).ext (F := R.F) (fun b f => .inl (C.avF es b f)) a5.ext⟩
  · subst e
    obtain ⟨p, e1, h1⟩ := r1.scr
    refine ⟨p, _, e1, h1, fun p hp => ?_⟩
    have a5 := (o.aft a4).aft_new (u := .lst (cutV (ns.map V.int) l h)) hp
    refine kk _ _ (a4.trans a5) ⟨a4.ext.live _ hp, _, upd_same, ?_⟩
    rw [cutL_V, cutL_map]
    exact RepL.of_ints _
/-- of a tuple -/
def wSlT (wa : WE) (wl wh : WO) : WE := fun es Q => wa es fun x => wl es fun l => wh es fun h => ∃ ds, x = .tup ds ∧ Q (.tup (cutL ds l h))
theorem de_sliceT (ha : DE X R a wa) (hl : DO X R lo wl) (hh : DO X R hi wh) : DE X R (.Subscript a (.Slice lo hi none p2) pos) (wSlT wa wl wh) := by
  refine ⟨fun C => PE.imp (pe_slice sl_tupA (ha.pe C) (hl.po C) (hh.po C)) fun σ H Q ⟨es, o, q⟩ => ⟨es, o, ha.mono es _ _ (fun d k v H1 a1 r1 => ⟨es, o.aft a1, hl.mono es _ _ (fun l k H2 a2 => ⟨es, o.aft (a1.trans a2), hh.mono es _ _ (fun h ⟨ds, e, kk⟩ H3 a3 => ?_) k⟩) k⟩) q⟩,
    fun es P P' f q => ha.mono es _ _ (fun d k => hl.mono es _ _ (fun l k => hh.mono es _ _ (fun h ⟨ds, e, k⟩ => ⟨ds, e, f _ k⟩) k) k) q⟩
  have a4 := (a1.trans a2).trans a3
  have r1 := r1.ext (C.avF es) (a2.trans a3).ext
  subst e
  cases r1 with
  | tup h1 q1 =>
    refine ⟨_, _, rfl, h1, fun z => ?_, fun _ => ?_⟩
    · refine kk _ H3 a4 (.tup h1 ?_)
      have : cutL ds l h = ds := by
        unfold cutL
        rw [← q1.length, z.1, z.2, List.drop_zero, q1.length, Nat.sub_zero, List.take_length]
      rw [this]
      exact q1
    · exact new_tup (o.aft a4) q1.cut fun v H' a5 r => kk v H' (a4.trans a5) r
/-- of a text -/
def wSlS (wa : WE) (wl wh : WO) : WE := fun es Q => wa es fun x => wl es fun l => wh es fun h => ∃ z : Str, x = .str z ∧ z.length ≤ 100000 ∧ Q (.str (cutS z l h))
theorem de_sliceS (ha : DE X R a wa) (hl : DO X R lo wl) (hh : DO X R hi wh) : DE X R (.Subscript a (.Slice lo hi none p2) pos) (wSlS wa wl wh) := by
  refine ⟨fun C => PE.imp (pe_slice sl_str (ha.pe C) (hl.po C) (hh.po C)) fun σ H Q ⟨es, o, q⟩ => ⟨es, o, ha.mono es _ _ (fun d k v H1 a1 r1 => ⟨es, o.aft a1, hl.mono es _ _ (fun l k H2 a2 => ⟨es, o.aft (a1.trans a2), hh.mono es _ _ (fun h ⟨z, e, hz, kk⟩ H3 a3 => ?_) k⟩) k⟩) q⟩,
    fun es P P' f q => ha.mono es _ _ (fun d k => hl.mono es _ _ (fun l k => hh.mono es _ _ (fun h ⟨z, e, hz, k⟩ => ⟨z, e, hz, f _ k⟩) k) k) q⟩
  subst e
  cases r1
  exact ⟨z, rfl, sz5 hz, kk _ H3 ((a1.trans a2).trans a3) (.str _)⟩
end
end L3

/-! L3d: calls of defs, what is walked, comprehensions. -/
namespace L3
open PySem PySem.Spec PyProof.Rows L2

/-! ### a def's promise -/
structure FSpec where
  A : Type
  B : Type
  enc : A → List Dv
  pre : A → Prop
  post : A → B → Prop
  val : A → B → Dv
def FSpec.W (S : FSpec) : List Dv → (Dv → Prop) → Prop := fun ds Q => ∃ a, ds = S.enc a ∧ S.pre a ∧ ∀ b, S.post a b → Q (S.val a b)
theorem FSpec.mono (S : FSpec) : ∀ ds (P P' : Dv → Prop), (∀ d, P d → P' d) → S.W ds P → S.W ds P' := fun ds P P' f ⟨a, e, p, q⟩ => ⟨a, e, p, fun b h => f _ (q b h)⟩
/-- one answer for each argument -/
abbrev FSpec.det (A : Type) (enc : A → List Dv) (pre : A → Prop) (val : A → Dv) : FSpec := ⟨A, Unit, enc, pre, fun _ _ => True, fun a _ => val a⟩
def spR (K : PySem.W.Frag) (R : RS) (S : FSpec) : Sp := fun vs H Q _ => ∃ (Av : Addr → Prop) (ds : List Dv), RepL K Av H vs ds ∧ (∀ a, Av a → H a ≠ none) ∧ (∀ a, R.F a → Av a) ∧ R.Z H ∧ S.W ds fun d => ∀ v H', Aft R H H' → Rep K Av H' v d → Q v H'
abbrev spP (K : PySem.W.Frag) (S : FSpec) : Sp := spR K R0 S
/-- over a family of resources -/
def spI (K : PySem.W.Frag) {I : Type} (Rf : I → RS) (Sf : I → FSpec) : Sp := fun vs H Q E => ∃ i, spR K (Rf i) (Sf i) vs H Q E
/-- a def of the module that keeps its promise -/
structure Cl (P : Program) (w : World) (K : PySem.W.Frag) (mg : Str → Option Value) (base : Heap) (k : Nat) (x : Str) (sp : Sp) : Prop where
  ex : ∃ (f : Addr) (fd : FuncData) (ps : List Str), FnOk P w K mg base CX0 k f fd ps sp ∧ mg x = some (.ref f) ∧ PySem.W.keepIn K (.ref f) = true ∧ Binds K fd ps []
section
variable {X : Cx} {R : RS} {e a b c : Expr} {w wa wb wc : WE} {pos p : Pos} {S : FSpec} {es' : List Expr} {wt : WA} {x : Str} {j k : Nat}
def wCall (S : FSpec) (wa : WA) : WE := fun es Q => wa es fun ds => S.W ds Q
theorem mono_call (h : MonoE wt) : MonoE (wCall S wt) := fun es P P' f q => h es _ _ (fun ds k => S.mono ds _ _ f k) q
theorem de_call (c : Cl X.prog X.w X.K X.mg X.base k x (spP X.K S)) (hr : Room j X.A) (hg : Gl X x) (ha : DA X R (e :: es') wt) (hk : k ≤ j := by decide) (hdb : (x == ("__debug__" : Str)) = false := by decide)
    (he : starEach (e :: es') X.env = (false, eval e X.env) :: starEach es' X.env := by rfl) (hpl : (backTo pos (starEach es' X.env)).any (·.1) = false := by rfl) : DE X R (.Call (.Name x p) (e :: es') [] pos) (wCall S wt) := by
  obtain ⟨f, fd, ps, F, hm, hkp, hb⟩ := c.ex
  refine ⟨fun C => PE.imp (pe_call F (hr.mono hk) hg hm hkp hb .nil pass0 (ha.pa C) hdb he hpl) fun σ H Q ⟨es, o, q⟩ => ⟨es, o, ha.mono es _ _ (fun ds h vs H1 a1 r1 => ?_) q⟩, mono_call ha.mono⟩
  show spP X.K S (vs ++ []) H1 Q E0
  rw [List.append_nil]
  exact ⟨C.Av es, ds, r1, fun a h => (o.aft a1).live h, fun _ z => z.elim, trivial, S.mono ds _ _ (fun d k v H' a r => k v H' (a1.aft0 a.ext) r) h⟩
/-- an own thing among the arguments; the answer holds no list -/
def wCallF (S : FSpec) (wa : WA) : WE := fun es Q => wa es fun ds => S.W ds fun d => flat d = true ∧ Q d
theorem de_callF (c : Cl X.prog X.w X.K X.mg X.base k x (spP X.K S)) (hr : Room j X.A) (hg : Gl X x) (ha : DAB X R (e :: es') wt) (hk : k ≤ j := by decide) (hdb : (x == ("__debug__" : Str)) = false := by decide)
    (he : starEach (e :: es') X.env = (false, eval e X.env) :: starEach es' X.env := by rfl) (hpl : (backTo pos (starEach es' X.env)).any (·.1) = false := by rfl) : DE X R (.Call (.Name x p) (e :: es') [] pos) (wCallF S wt) := by
  obtain ⟨f, fd, ps, F, hm, hkp, hb⟩ := c.ex
  refine ⟨fun C => PE.imp (pe_call F (hr.mono hk) hg hm hkp hb .nil pass0 (ha.pa C) hdb he hpl) fun σ H Q ⟨es, o, q⟩ => ⟨es, o, ha.mono es _ _ (fun ds h vs H1 a1 r1 => ?_) q⟩, fun es P P' f q => ha.mono es _ _ (fun ds k => S.mono ds _ _ (fun d k => ⟨k.1, f _ k.2⟩) k) q⟩
  show spP X.K S (vs ++ []) H1 Q E0
  rw [List.append_nil]
  exact ⟨C.A0, ds, PairB.a0 o r1, fun a h => (o.aft a1).live (.inl h), fun _ z => z.elim, trivial, S.mono ds _ _ (fun d k v H' a r => k.2 v H' (a1.aft0 a.ext) (r.flat k.1)) h⟩
/-- a def that uses the resource -/
theorem de_callR {I : Type} {Rf : I → RS} {Sf : I → FSpec} {i : I} (c : Cl X.prog X.w X.K X.mg X.base k x (spI X.K Rf Sf)) (hr : Room j X.A) (hg : Gl X x) (ha : DA X (Rf i) (e :: es') wt) (hk : k ≤ j := by decide) (hdb : (x == ("__debug__" : Str)) = false := by decide)
    (he : starEach (e :: es') X.env = (false, eval e X.env) :: starEach es' X.env := by rfl) (hpl : (backTo pos (starEach es' X.env)).any (·.1) = false := by rfl) : DE X (Rf i) (.Call (.Name x p) (e :: es') [] pos) (wCall (Sf i) wt) := by
  obtain ⟨f, fd, ps, F, hm, hkp, hb⟩ := c.ex
  refine ⟨fun C => PE.imp (pe_call F (hr.mono hk) hg hm hkp hb .nil pass0 (ha.pa C) hdb he hpl) fun σ H Q ⟨es, o, q⟩ => ⟨es, o, ha.mono es _ _ (fun ds h vs H1 a1 r1 => ?_) q⟩, mono_call ha.mono⟩
  show spI X.K Rf Sf (vs ++ []) H1 Q E0
  rw [List.append_nil]
  exact ⟨i, C.Av es, ds, r1, fun a h => (o.aft a1).live h, fun a f => C.avF es a f, a1.z, (Sf i).mono ds _ _ (fun d k v H' a r => k v H' (a1.trans a) r) h⟩
end

/-! ### what is walked -/
structure ItOk (K : PySem.W.Frag) (J : It) (items : List Dv) (gs : List (V × Dv)) : Prop where
  go : ∀ (Av : Addr → Prop) (H : Hp) (i : Nat), (∀ p ∈ gs, Rep K Av H p.1 p.2) → i < items.length → J.go i H
  stop : ∀ (Av : Addr → Prop) (H : Hp), (∀ p ∈ gs, Rep K Av H p.1 p.2) → J.stop items.length H
  yld : ∀ (Av : Addr → Prop) (H : Hp) (i : Nat) (x : V) (H' : Hp), (∀ p ∈ gs, Rep K Av H p.1 p.2) → i < items.length → J.yld i H x H' → Ext No H H' ∧ ∃ d, items[i]? = some d ∧ Rep K Av H' x d
/-- .. where what is walked may be an own thing that the walk leaves as it is -/
structure ItG (K : PySem.W.Frag) (R : RS) (J : It) (items : List Dv) (G : (Addr → Prop) → Hp → Prop) : Prop where
  ext : ∀ (Av : Addr → Prop) (H H' : Hp), (∀ a, R.F a → Av a) → Ext R.F H H' → G Av H → G Av H'
  more : ∀ (Av Av' : Addr → Prop) (H : Hp), (∀ a, Av' a → Av a ∨ H a = none) → G Av H → G Av' H
  go : ∀ (Av : Addr → Prop) (H : Hp) (i : Nat), G Av H → i < items.length → J.go i H
  stop : ∀ (Av : Addr → Prop) (H : Hp), G Av H → J.stop items.length H
  yld : ∀ (Av : Addr → Prop) (H : Hp) (i : Nat) (x : V) (H' : Hp), G Av H → i < items.length → J.yld i H x H' → Ext No H H' ∧ ∃ d, items[i]? = some d ∧ Rep K Av H' x d
theorem ItOk.g {K : PySem.W.Frag} {R : RS} {J : It} {items : List Dv} {gs : List (V × Dv)} (h : ItOk K J items gs) : ItG K R J items (fun Av H => ∀ p ∈ gs, Rep K Av H p.1 p.2) :=
  ⟨fun Av H H' hf e g p hp => (g p hp).ext hf e, fun Av Av' H hn g p hp => (g p hp).more hn, h.go, h.stop, h.yld⟩
def liftI (K : PySem.W.Frag) {R : RS} (C : DC R) (w : WA) : TI := fun σ H R' => ∃ es, Ok K C es σ H ∧ w es fun items => ∀ J H' gs, Aft R H H' → (∀ p ∈ gs, Rep K (C.Av es) H' p.1 p.2) → ItOk K J items gs → R' J H'
def liftIB (K : PySem.W.Frag) {R : RS} (C : DC R) (w : WA) : TI := fun σ H R' => ∃ es, Ok K C es σ H ∧ w es fun items => ∀ J H' (G : (Addr → Prop) → Hp → Prop), Aft R H H' → G (C.Av es) H' → ItG K R J items G → R' J H'
structure DI (X : Cx) (R : RS) (tg iter : Expr) (w : WA) : Prop where
  pi : ∀ C : DC R, PI X tg iter (liftI X.K C w)
  mono : MonoE w
structure DIB (X : Cx) (R : RS) (tg iter : Expr) (w : WA) : Prop where
  pi : ∀ C : DC R, PI X tg iter (liftIB X.K C w)
  mono : MonoE w
theorem PI.imp {X : Cx} {tg iter : Expr} {t t' : TI} (h : PI X tg iter t) (f : ∀ σ H Q, t' σ H Q → t σ H Q) : PI X tg iter t' := ⟨fun pins s σ H Q I q => h.run pins s σ H Q I (f _ _ _ q)⟩
section
variable {X : Cx} {R : RS} {tg e a b c : Expr} {w wa wb wc : WE} {wi : WA} {pos p : Pos}
theorem DI.bb (h : DI X R tg e wi) : DIB X R tg e wi := ⟨fun C => PI.imp (h.pi C) fun σ H Q ⟨es, o, q⟩ => ⟨es, o, h.mono es _ _ (fun items k J H' gs a g it => k J H' _ a g it.g) q⟩, h.mono⟩
/-- the items of a list, a tuple, a text, the script -/
def itemsOf : Dv → Option (List Dv)
  | .lst ds => some ds
  | .tup ds => some ds
  | .scr ns => some (ns.map .int)
  | .str z => some (z.cps.toList.map fun c => .str ⟨#[c]⟩)
  | _ => none
def wItems (w : WE) : WA := fun es Q => w es fun d => ∃ ds, itemsOf d = some ds ∧ Q ds
theorem mono_items (h : MonoE w) : MonoE (wItems w) := fun es P P' f q => h es _ _ (fun d ⟨ds, e, k⟩ => ⟨ds, e, f _ k⟩) q
def iSeq (K : PySem.W.Frag) (tl : TE) : TI := fun σ H R => tl σ H fun x H1 => (∃ a xs, x = .ref a ∧ SqL K H1 a xs ∧ R (Itl K a) H1) ∨ (∃ a xs, x = .ref a ∧ SqT K H1 a xs ∧ R (Itt K a) H1) ∨ ∃ z, x = .str z ∧ R (Its z) H1
theorem pi_seq {l : Expr} {tl : TE} (hl : PE X l tl) : PI X tg l (iSeq X.K tl) := by
  refine ⟨fun pins s σ H R I h => ?_⟩
  refine thn (hl.run pins s σ H _ I h) fun v s1 ⟨x, H1, I1, r1, q1⟩ => ?_
  rcases q1 with ⟨a, xs, e, hq, q⟩ | ⟨a, xs, e, hq, q⟩ | ⟨z, e, q⟩
  · subst e
    cases r1
    obtain ⟨its, rv, p, hz⟩ := I1.list hq
    refine wpAny_pyIter_list p.isList ?_
    refine ⟨s1.heap.objs.size, [s1.heap.objs.size], _, _, H1, rfl, I1.kept (t' := s1.toks) fun b o e => Heap.get?_push_of_some _ e, turn_list a _, ⟨_, Heap.get?_push_size _ rfl, rfl, rfl⟩, fun b hb => ?_, q⟩
    have e : b = s1.heap.objs.size := by simpa using hb
    subst e
    exact I1.fpOk (Nat.le_refl _) (I1.hok.fresh (Nat.le_refl _))
  · subst e
    cases r1
    obtain ⟨its, rv, p, hz⟩ := I1.tuple hq
    refine wpAny_pyIter_tuple (show s1.heap.IsTuple a its.toArray from p) ?_
    refine ⟨s1.heap.objs.size, [s1.heap.objs.size], _, _, H1, rfl, I1.kept (t' := s1.toks) fun b o e => Heap.get?_push_of_some _ e, turn_tuple a _, ⟨_, Heap.get?_push_size _ rfl, rfl, rfl⟩, fun b hb => ?_, q⟩
    have e : b = s1.heap.objs.size := by simpa using hb
    subst e
    exact I1.fpOk (Nat.le_refl _) (I1.hok.fresh (Nat.le_refl _))
  · subst e
    obtain ⟨t, rfl⟩ := r1
    cases ha : z.cps.all (· < 128)
    · exact wpAny_pyIter_wide ha (pi_one (tk := s1.toks) I1 _ (turn_str _ z t "str_iterator" (.inr rfl)) ⟨_, Heap.get?_push_size _ rfl, rfl, rfl⟩ q)
    · exact wpAny_pyIter_ascii ha (pi_one (tk := s1.toks) I1 _ (turn_str _ z t "str_ascii_iterator" (.inl rfl)) ⟨_, Heap.get?_push_size _ rfl, rfl, rfl⟩ q)
theorem it_lst {K : PySem.W.Frag} {a : Addr} {ds : List Dv} : ItOk K (Itl K a) ds [(.ref a, .lst ds)] where
  go := fun Av H i g hi => by
    cases g _ List.mem_cons_self with
    | lst h r =>
      obtain ⟨x, e, _⟩ := r.get' (List.getElem?_eq_getElem hi)
      exact ⟨_, x, h.sq, e⟩
  stop := fun Av H g => by
    cases g _ List.mem_cons_self with
    | lst h r => exact ⟨_, h.sq, by rw [r.length]; exact Nat.le_refl _⟩
  yld := fun Av H i x H' g hi y => by
    cases g _ List.mem_cons_self with
    | lst h r =>
      obtain ⟨e, y⟩ := y
      subst e
      obtain ⟨d, e, q⟩ := r.get (y _ h.sq)
      exact ⟨Ext.refl _, d, e, q⟩
theorem it_tup {K : PySem.W.Frag} {a : Addr} {ds : List Dv} : ItOk K (Itt K a) ds [(.ref a, .tup ds)] where
  go := fun Av H i g hi => by
    cases g _ List.mem_cons_self with
    | tup h r =>
      obtain ⟨x, e, _⟩ := r.get' (List.getElem?_eq_getElem hi)
      exact ⟨_, x, h, e⟩
  stop := fun Av H g => by
    cases g _ List.mem_cons_self with
    | tup h r => exact ⟨_, h, by rw [r.length]; exact Nat.le_refl _⟩
  yld := fun Av H i x H' g hi y => by
    cases g _ List.mem_cons_self with
    | tup h r =>
      obtain ⟨e, y⟩ := y
      subst e
      obtain ⟨d, e, q⟩ := r.get (y _ h)
      exact ⟨Ext.refl _, d, e, q⟩
theorem it_scr {K : PySem.W.Frag} {a : Addr} {ns : List Int} : ItOk K (Itl K a) (ns.map .int) [(.ref a, .scr ns)] where
  go := fun Av H i g hi => by
    cases g _ List.mem_cons_self with
    | scr h =>
      rw [List.length_map] at hi
      exact ⟨_, .int ns[i], h.sq, by rw [List.getElem?_map, List.getElem?_eq_getElem hi]; rfl⟩
  stop := fun Av H g => by
    cases g _ List.mem_cons_self with
    | scr h => exact ⟨_, h.sq, by simp⟩
  yld := fun Av H i x H' g hi y => by
    cases g _ List.mem_cons_self with
    | scr h =>
      obtain ⟨e, y⟩ := y
      subst e
      have z := y _ h.sq
      rw [List.getElem?_map] at z
      obtain ⟨n, e, rfl⟩ := Option.map_eq_some_iff.mp z
      exact ⟨Ext.refl _, .int n, by rw [List.getElem?_map, e]; rfl, .int n⟩
theorem it_str {K : PySem.W.Frag} {z : Str} : ItOk K (Its z) (z.cps.toList.map fun c => .str ⟨#[c]⟩) [] where
  go := fun Av H i g hi => by
    rw [List.length_map, Array.length_toList] at hi
    exact hi
  stop := fun Av H g => by
    show z.cps.size ≤ _
    rw [List.length_map, Array.length_toList]
    exact Nat.le_refl _
  yld := fun Av H i x H' g hi y => by
    obtain ⟨e, c, h1, rfl⟩ := y
    subst e
    exact ⟨Ext.refl _, .str ⟨#[c]⟩, by rw [List.getElem?_map, Array.getElem?_toList, h1]; rfl, .str _⟩
theorem di_seq (h : DE X R e w) : DI X R tg e (wItems w) := by
  refine ⟨fun C => PI.imp (pi_seq (h.pe C)) fun σ H Q ⟨es, o, q⟩ => ⟨es, o, h.mono es _ _ (fun d ⟨ds, e, k⟩ v H1 a r => ?_) q⟩, mono_items h.mono⟩
  cases r with
  | lst h1 r =>
    cases e
    exact .inl ⟨_, _, rfl, h1.sq, k _ H1 _ a (fun p hp => by rw [List.mem_singleton.mp hp]; exact .lst h1 r) it_lst⟩
  | tup h1 r =>
    cases e
    exact .inr (.inl ⟨_, _, rfl, h1, k _ H1 _ a (fun p hp => by rw [List.mem_singleton.mp hp]; exact .tup h1 r) it_tup⟩)
  | scr h1 =>
    cases e
    exact .inl ⟨_, _, rfl, h1.sq, k _ H1 _ a (fun p hp => by rw [List.mem_singleton.mp hp]; exact .scr h1) it_scr⟩
  | str z =>
    cases e
    exact .inr (.inr ⟨_, rfl, k _ H1 [] a (fun p hp => nomatch hp) it_str⟩)
  | _ => cases e
/-- an own list in a comprehension -/
theorem dib_seq (h : DB X R e w) : DIB X R tg e (wItems w) := by
  refine ⟨fun C => PI.imp (pi_seq (h.pe C)) fun σ H Q ⟨es, o, q⟩ => ⟨es, o, h.mono es _ _ (fun d ⟨ds, e, k⟩ v H1 a r => ?_) q⟩, mono_items h.mono⟩
  rcases r with r | ⟨l, ev, hl, r⟩
  · cases r with
    | lst h1 r =>
      cases e
      exact .inl ⟨_, _, rfl, h1.sq, k _ H1 _ a (fun p hp => by rw [List.mem_singleton.mp hp]; exact .lst h1 r) it_lst.g⟩
    | tup h1 r =>
      cases e
      exact .inr (.inl ⟨_, _, rfl, h1, k _ H1 _ a (fun p hp => by rw [List.mem_singleton.mp hp]; exact .tup h1 r) it_tup.g⟩)
    | scr h1 =>
      cases e
      exact .inl ⟨_, _, rfl, h1.sq, k _ H1 _ a (fun p hp => by rw [List.mem_singleton.mp hp]; exact .scr h1) it_scr.g⟩
    | str z =>
      cases e
      exact .inr (.inr ⟨_, rfl, k _ H1 _ a (fun p hp => nomatch hp) it_str.g⟩)
    | _ => cases e
  · subst ev
    cases d with
    | lst xs =>
      obtain rfl : xs = ds := Option.some.inj e
      obtain ⟨vs, h1, r1⟩ := r
      have nf := o.notF hl
      refine .inl ⟨l, vs, rfl, .inl (.inl h1), k _ H1 (fun Av H => H l = some (.lst vs) ∧ RepL X.K Av H vs xs) a ⟨h1, r1⟩
        ⟨fun Av H H' hf e g => ⟨e.keep l _ g.1 (.inl nf), g.2.ext hf e⟩, fun Av Av' H hn g => ⟨g.1, g.2.more hn⟩, fun Av H i g hi => ?_, fun Av H g => ⟨vs, .inl (.inl g.1), by rw [g.2.length]; exact Nat.le_refl _⟩, fun Av H i x H' g hi y => ?_⟩⟩
      · obtain ⟨x, e, _⟩ := g.2.get' (List.getElem?_eq_getElem hi)
        exact ⟨_, x, .inl (.inl g.1), e⟩
      · obtain ⟨e, y⟩ := y
        subst e
        obtain ⟨d, e, q⟩ := g.2.get (y _ (.inl (.inl g.1)))
        exact ⟨Ext.refl _, d, e, q⟩
    | dK ks vs => cases e
    | dT ks vs => cases e
    | _ => exact r.elim
/-- range -/
def rngD (lo : Int) (n : Nat) : List Dv := (List.range n).map fun i => .int (lo + (i : Nat))
theorem rngD_length (lo : Int) (n : Nat) : (rngD lo n).length = n := by simp [rngD]
theorem rngD_get {lo : Int} {n i : Nat} (h : i < n) : (rngD lo n)[i]? = some (.int (lo + (i : Nat))) := by simp [rngD, h]
theorem it_rng {K : PySem.W.Frag} {lo : Int} {n : Nat} : ItOk K (Itr lo n) (rngD lo n) [] where
  go := fun Av H i g hi => by rw [rngD_length] at hi; exact hi
  stop := fun Av H g => by show n ≤ _; rw [rngD_length]; exact Nat.le_refl _
  yld := fun Av H i x H' g hi y => by
    obtain ⟨rfl, rfl⟩ := y
    rw [rngD_length] at hi
    exact ⟨Ext.refl _, _, rngD_get hi, .int _⟩
def wRng1 (wa : WE) : WA := fun es Q => wa es fun x => ∃ n, x = .int n ∧ n ≤ 100000 ∧ -100000 ≤ n ∧ Q (rngD 0 n.toNat)
theorem di_range1 (hg : Gl X "range") (hm : X.mg "range" = none) (ha : DE X R a wa) (hs : starEach [a] X.env = (false, eval a X.env) :: starEach [] X.env := by rfl) (hs' : starEach [a] X.env = [(false, eval a X.env)] := by rfl) : DI X R tg (.Call (.Name "range" p) [a] [] pos) (wRng1 wa) := by
  refine ⟨fun C => PI.imp (pi_range1 hg hm (pa_cons (ha.pe C) pa_nil hs) hs') fun σ H Q ⟨es, o, q⟩ => ⟨es, o, ha.mono es _ _ (fun d ⟨n, e, h1, h2, k⟩ v H1 a r => ?_) q⟩, fun es P P' f q => ha.mono es _ _ (fun d ⟨n, e, h1, h2, k⟩ => ⟨n, e, h1, h2, f _ k⟩) q⟩
  subst e
  cases r
  exact ⟨n, rfl, by omega, by omega, k _ H1 [] a (fun p hp => nomatch hp) it_rng⟩
def wRng2 (wa wb : WE) : WA := fun es Q => wa es fun x => wb es fun y => ∃ i j, x = .int i ∧ y = .int j ∧ (-100000 ≤ i ∧ i ≤ 100000 ∧ -100000 ≤ j ∧ j ≤ 100000) ∧ Q (rngD i (j - i).toNat)
theorem di_range2 (hg : Gl X "range") (hm : X.mg "range" = none) (ha : DE X R a wa) (hb : DE X R b wb) (hs : starEach [a, b] X.env = (false, eval a X.env) :: starEach [b] X.env := by rfl) (hs1 : starEach [b] X.env = (false, eval b X.env) :: starEach [] X.env := by rfl)
    (hs' : starEach [a, b] X.env = [(false, eval a X.env), (false, eval b X.env)] := by rfl) (hs2 : starEach [b] X.env = [(false, eval b X.env)] := by rfl) : DI X R tg (.Call (.Name "range" p) [a, b] [] pos) (wRng2 wa wb) := by
  refine ⟨fun C => PI.imp (pi_range2 hg hm (pa_cons (ha.pe C) (pa_cons (hb.pe C) pa_nil hs1) hs) hs' hs2) fun σ H Q ⟨es, o, q⟩ => ⟨es, o, ha.mono es _ _ (fun d k v H1 a1 r1 => ⟨es, o.aft a1, hb.mono es _ _ (fun e ⟨i, j, e1, e2, h, kk⟩ u H2 a2 r2 => ?_) k⟩) q⟩,
    fun es P P' f q => ha.mono es _ _ (fun d k => hb.mono es _ _ (fun e ⟨i, j, e1, e2, h, k⟩ => ⟨i, j, e1, e2, h, f _ k⟩) k) q⟩
  subst e1 e2
  cases r1
  cases r2
  exact ⟨i, j, rfl, by omega, kk _ H2 [] (a1.trans a2) (fun p hp => nomatch hp) it_rng⟩
/-- range(i, j, -1) -/
def rngDn (lo : Int) (n : Nat) : List Dv := (List.range n).map fun i => .int (lo - (i : Nat))
theorem rngDn_length (lo : Int) (n : Nat) : (rngDn lo n).length = n := by simp [rngDn]
theorem rngDn_get {lo : Int} {n i : Nat} (h : i < n) : (rngDn lo n)[i]? = some (.int (lo - (i : Nat))) := by simp [rngDn, h]
theorem it_rngD {K : PySem.W.Frag} {lo : Int} {n : Nat} : ItOk K (Itc lo (-1) n) (rngDn lo n) [] where
  go := fun Av H i g hi => by rw [rngDn_length] at hi; exact hi
  stop := fun Av H g => by show n ≤ _; rw [rngDn_length]; exact Nat.le_refl _
  yld := fun Av H i x H' g hi y => by
    obtain ⟨rfl, rfl⟩ := y
    rw [rngDn_length] at hi
    refine ⟨Ext.refl _, _, rngDn_get hi, ?_⟩
    have : lo - (i : Nat) = lo + (i : Nat) * (-1) := by omega
    rw [this]
    exact .int _
def wRngD (wa wb wc : WE) : WA := fun es Q => wa es fun x => wb es fun y => wc es fun z => ∃ i j, x = .int i ∧ y = .int j ∧ z = .int (-1) ∧ (-100000 ≤ i ∧ i ≤ 100000 ∧ -100000 ≤ j ∧ j ≤ 100000) ∧ Q (rngDn i (i - j).toNat)
theorem di_range3 (hg : Gl X "range") (hm : X.mg "range" = none) (ha : DE X R a wa) (hb : DE X R b wb) (hc : DE X R c wc) (hs : starEach [a, b, c] X.env = (false, eval a X.env) :: starEach [b, c] X.env := by rfl) (hs1 : starEach [b, c] X.env = (false, eval b X.env) :: starEach [c] X.env := by rfl)
    (hs2 : starEach [c] X.env = (false, eval c X.env) :: starEach [] X.env := by rfl) (hpl : (backTo pos (starEach [b, c] X.env)).any (·.1) = false := by rfl) : DI X R tg (.Call (.Name "range" p) [a, b, c] [] pos) (wRngD wa wb wc) := by
  refine ⟨fun C => PI.imp (pi_range3 hg hm (pa_cons (ha.pe C) (pa_cons (hb.pe C) (pa_cons (hc.pe C) pa_nil hs2) hs1) hs) hs hpl) fun σ H Q ⟨es, o, q⟩ => ⟨es, o, ha.mono es _ _ (fun d k v H1 a1 r1 => ⟨es, o.aft a1, hb.mono es _ _ (fun e k u H2 a2 r2 => ⟨es, o.aft (a1.trans a2), hc.mono es _ _ (fun f ⟨i, j, e1, e2, e3, h, kk⟩ t H3 a3 r3 => ?_) k⟩) k⟩) q⟩,
    fun es P P' f q => ha.mono es _ _ (fun d k => hb.mono es _ _ (fun e k => hc.mono es _ _ (fun g ⟨i, j, e1, e2, e3, h, k⟩ => ⟨i, j, e1, e2, e3, h, f _ k⟩) k) k) q⟩
  subst e1 e2 e3
  cases r1
  cases r2
  cases r3
  exact ⟨i, j, -1, _, rfl, RgC.neg (by omega) (by omega) (by omega) (by omega), kk _ H3 [] ((a1.trans a2).trans a3) (fun p hp => nomatch hp) it_rngD⟩
end

/-! ### targets -/
inductive Tg where
  | nm (i : Nat)
  | tp (is : List Nat)
def gNs : List Nat → TGs
  | [] => gNil
  | i :: r => gCons (gName i) (gNs r)
def Tg.g (K : PySem.W.Frag) : Tg → TG
  | .nm i => gName i
  | .tp is => gTup K is.length (gNs is)
def Tg.ix : Tg → List Nat
  | .nm i => [i]
  | .tp is => is
def setAll : Es → List Nat → List Dv → Es
  | es, i :: is, d :: ds => setAll (es.set i (.v d)) is ds
  | es, _, _ => es
def Tg.w : Tg → Dv → Es → (Es → Prop) → Prop
  | .nm i, d, es, Q => Q (es.set i (.v d))
  | .tp is, d, es, Q => ∃ ds, d = .tup ds ∧ ds.length = is.length ∧ Q (setAll es is ds)
theorem Tg.mono (t : Tg) {d : Dv} {es : Es} {P P' : Es → Prop} (f : ∀ es, P es → P' es) (h : t.w d es P) : t.w d es P' := by
  cases t with
  | nm i => exact f _ h
  | tp is => obtain ⟨ds, e, l, q⟩ := h; exact ⟨ds, e, l, f _ q⟩
def wipeE (es : Es) : List Nat → Es
  | [] => es
  | v :: vs => (wipeE es vs).set v .no
section
variable {K : PySem.W.Frag} {R : RS} {C : DC R} {es : Es} {σ : L2.St} {H : Hp}
theorem Ok.setV' (o : Ok K C es σ H) {i : Nat} {x : V} {d : Dv} (r : Rep K (C.Av es) H x d) : Ok K C (es.set i (.v d)) (σ.set i (some x)) H := by
  by_cases hi : i < es.length
  · exact o.setV hi r
  · rw [List.set_eq_of_length_le (by omega), List.set_eq_of_length_le (by rw [o.len]; omega)]
    exact o
theorem Ok.setN' (o : Ok K C es σ H) {i : Nat} (x : Option V) (hx : i < es.length ∨ True) : Ok K C (es.set i .no) (σ.set i x) H := by
  by_cases hi : i < es.length
  · exact o.setN hi x
  · rw [List.set_eq_of_length_le (by omega), List.set_eq_of_length_le (by rw [o.len]; omega)]
    exact o
theorem Ok.wipe (o : Ok K C es σ H) : ∀ vs : List Nat, Ok K C (wipeE es vs) (L2.wipe σ vs) H
  | [] => o
  | v :: vs => (Ok.wipe o vs).setN' none (.inr trivial)
theorem avSet {i : Nat} {d : Dv} (a : Addr) (h : C.Av (es.set i (.v d)) a) : C.Av es a := h.elim .inl fun h => (owned_set_sub h).elim (fun z => nomatch z) .inr
theorem avSetN {i : Nat} (a : Addr) (h : C.Av (es.set i .no) a) : C.Av es a := h.elim .inl fun h => (owned_set_sub h).elim (fun z => nomatch z) .inr
theorem avWipe (a : Addr) : ∀ {vs : List Nat}, C.Av (wipeE es vs) a → C.Av es a
  | [], h => h
  | v :: vs, h => avWipe a (vs := vs) (avSetN a h)
theorem gNs_ok {V' : List Nat} : ∀ {is : List Nat} {es : Es} {σ : L2.St} {xs : List V} {ds : List Dv} {k : L2.St → Hp → Prop}, Ok K C es σ H → RepL K (C.Av es) H xs ds → ds.length = is.length → (∀ i ∈ is, i ∈ V') →
    (∀ σ', Ok K C (setAll es is ds) σ' H → (∀ j, j ∉ V' → σ'[j]? = σ[j]?) → σ'.length = σ.length → k σ' H) → gNs is xs σ H k
  | [], es, σ, xs, ds, k, o, r, hl, hv, q => by
    have e : ds = [] := List.eq_nil_of_length_eq_zero hl
    subst e
    cases r
    exact ⟨rfl, q σ o (fun _ _ => rfl) rfl⟩
  | i :: is, es, σ, xs, ds, k, o, r, hl, hv, q => by
    cases r with
    | nil => cases hl
    | @cons x d xs ds r rr =>
      refine ⟨x, xs, rfl, gNs_ok (V' := V') (is := is) (ds := ds) (o.setV' r) (rr.anti fun a h => avSet a h) (by simpa using hl) (fun j hj => hv j (List.mem_cons_of_mem _ hj)) fun σ' o' hs hlen => q σ' o' (fun j hj => ?_) (by rw [hlen, List.length_set])⟩
      rw [hs j hj, List.getElem?_set_ne (show i ≠ j from fun z => hj (by rw [← z]; exact hv i List.mem_cons_self))]
theorem wipe_get {σ : L2.St} {j : Nat} : ∀ {vs : List Nat}, (L2.wipe σ vs)[j]? = if j ∈ vs then (if j < σ.length then some none else none) else σ[j]?
  | [] => by simp [L2.wipe]
  | v :: vs => by
    unfold L2.wipe
    by_cases h : v = j
    · subst h
      rw [if_pos List.mem_cons_self]
      by_cases hl : v < σ.length
      · rw [List.getElem?_set_self (by rw [wipe_length]; exact hl), if_pos hl]
      · rw [if_neg hl, List.getElem?_eq_none (by rw [List.length_set, wipe_length]; omega)]
    · rw [List.getElem?_set_ne h, wipe_get (vs := vs)]
      have : (j ∈ v :: vs) = (j ∈ vs) := by simp [Ne.symm h]
      simp only [this]
theorem wipe_same {σ σ' : L2.St} {vs : List Nat} (hl : σ'.length = σ.length) (h : ∀ j, j ∉ vs → σ'[j]? = σ[j]?) : L2.wipe σ' vs = L2.wipe σ vs := by
  apply List.ext_getElem?
  intro j
  rw [wipe_get, wipe_get, hl]
  by_cases hj : j ∈ vs
  · rw [if_pos hj, if_pos hj]
  · rw [if_neg hj, if_neg hj, h j hj]
theorem Tg.ok {t : Tg} {x : V} {d : Dv} {k : L2.St → Hp → Prop} (o : Ok K C es σ H) (r : Rep K (C.Av es) H x d) (h : t.w d es fun es' => ∀ σ', Ok K C es' σ' H → L2.wipe σ' t.ix = L2.wipe σ t.ix → k σ' H) : t.g K x σ H k := by
  cases t with
  | nm i => exact h _ (o.setV' r) (wipe_same (List.length_set ..) fun j hj => List.getElem?_set_ne fun z => hj (by rw [← z]; exact List.mem_cons_self))
  | tp is =>
    obtain ⟨ds, e, hl, q⟩ := h
    subst e
    cases r with
    | tup h1 r1 => exact ⟨_, _, rfl, h1, by rw [r1.length]; exact hl, gNs_ok (V' := is) o r1 hl (fun _ h => h) fun σ' o' hs hlen => q σ' o' (wipe_same hlen hs)⟩
theorem unF {A B : Prop} (h : if false = true then A else B) : B := by rw [if_neg Bool.false_ne_true] at h; exact h
theorem unT {A B : Prop} (h : if true = true then A else B) : A := by rw [if_pos rfl] at h; exact h
theorem ifNone {c : Prop} [Decidable c] {x : Option HO} {u : HO} (h : (if c then none else x) = some u) : x = some u := by
  split at h
  · cases h
  · exact h
theorem noneIf {c : Prop} [Decidable c] {x : Option HO} (h : x = none) : (if c then none else x) = none := by
  rw [h]; split <;> rfl
/-- an own thing stays an own thing; another entry -/
theorem Ok.sub (o : Ok K C es σ H) {D : Addr} {Hc : Hp} (hD : H D = none) (hD' : Hc D ≠ none) (a : Aft R H Hc) :
    ∃ C' : DC R, (∀ es' b, C'.Av es' b → C.Av es' b ∨ b = D) ∧ (∀ es' b, C.Av es' b ∨ b = D → C'.Av es' b) ∧ Ok K C' es σ Hc := by
  have oc := o.aft a
  have nD : D ∉ owned es := fun h => o.live (.inr h) hD
  have live : ∀ b, (C.A0 b ∨ b = D) → (if b ∈ owned es then none else Hc b) ≠ none := fun b h => by
    rcases h with h | h
    · rw [if_neg fun z => o.notA z h]
      exact oc.live (.inl h)
    · subst h
      rw [if_neg nD]
      exact hD'
  refine ⟨⟨fun b => C.A0 b ∨ b = D, fun b => if b ∈ owned es then none else Hc b, C.gh, fun b f => .inl (C.fA b f), live⟩, fun es' b h => ?_, fun es' b h => ?_, ?_⟩
  · rcases h with (h | h) | h
    · exact .inl (.inl h)
    · exact .inr h
    · exact .inl (.inr h)
  · rcases h with (h | h) | h
    · exact .inl (.inl h)
    · exact .inr h
    · exact .inl (.inr h)
  · have av : ∀ b, ((C.A0 b ∨ b = D) ∨ b ∈ owned es) → C.Av es b ∨ H b = none := fun b h => by
      rcases h with (h | h) | h
      · exact .inl (.inl h)
      · exact .inr (h ▸ hD)
      · exact .inl (.inr h)
    have mv : ∀ {y e}, Rep K (C.Av es) H y e → Rep K (fun b => (C.A0 b ∨ b = D) ∨ b ∈ owned es) Hc y e := fun q => (q.more av).ext (F := R.F) (fun b f => .inl (.inl (C.fA b f))) a.ext
    have mvl : ∀ {y e}, RepL K (C.Av es) H y e → RepL K (fun b => (C.A0 b ∨ b = D) ∨ b ∈ owned es) Hc y e := fun q => (q.more av).ext (F := R.F) (fun b f => .inl (.inl (C.fA b f))) a.ext
    exact ⟨o.len, fun i d h => let ⟨x, e, r⟩ := o.val i d h; ⟨x, e, mv r⟩, fun i l d h => let ⟨e, r⟩ := o.own i l d h; ⟨e, r.map (fun u q _ => a.ext.keep l u q (.inl (o.notF (mem_owned h)))) fun _ _ q => mvl q⟩,
      fun i as ds h => let ⟨e, r⟩ := o.many i as ds h; ⟨e, fun k b d h1 h2 => (r k b d h1 h2).map (fun u q _ => a.ext.keep b u q (.inl (o.notF (mem_many h h1)))) fun _ _ q => mvl q⟩,
      fun l h => if_pos h, o.nd, ⟨fun b u h _ => ifNone h, fun b h => noneIf h⟩, a.z, fun p hp => mv (o.gh p hp),
      fun _ vs s => R.sst vs _ Hc s fun b u _ h => ifNone h, fun i ds h => let ⟨vs, s, r⟩ := o.stt i ds h; ⟨vs, a.st vs s, mvl r⟩, o.one⟩
end

/-- no own thing at these slots -/
def notOwn : Option Sl → Bool
  | some (.own _ _) => false
  | some (.many _ _) => false
  | _ => true
def ownFree (es : Es) : List Nat → Bool
  | [] => true
  | i :: is => notOwn es[i]? && ownFree es is
theorem notOwn_addrs {s : Sl} (h : notOwn (some s) = true) : s.addrs = [] := by
  cases s with
  | own l d => cases h
  | many as ds => cases h
  | no => rfl
  | v d => rfl
  | st ds => rfl
section
variable {es : Es}
theorem owned_set_no {i : Nat} {s : Sl} (h : notOwn es[i]? = true) {l : Addr} (hl : l ∈ owned es) : l ∈ owned (es.set i s) := by
  obtain ⟨j, t, hj, e⟩ := owned_get hl
  have hij : i ≠ j := fun z => by
    rw [z, hj] at h
    rw [notOwn_addrs h] at e
    cases e
  exact mem_ownedA (show (es.set i s)[j]? = some t by rw [List.getElem?_set_ne hij]; exact hj) e
theorem wipeE_get_own {j : Nat} (h : notOwn es[j]? = true) : ∀ {vs : List Nat}, notOwn (wipeE es vs)[j]? = true
  | [] => h
  | v :: vs => by
    unfold wipeE
    by_cases z : v = j
    · subst z
      by_cases hl : v < (wipeE es vs).length
      · rw [List.getElem?_set_self hl]; rfl
      · rw [List.getElem?_eq_none (by rw [List.length_set]; omega)]; rfl
    · rw [List.getElem?_set_ne z]; exact wipeE_get_own h
theorem ownFree_spec : ∀ {is : List Nat}, ownFree es is = true → ∀ i ∈ is, notOwn es[i]? = true
  | [], _, i, hi => nomatch hi
  | j :: is, h, i, hi => by
    have h' := Bool.and_eq_true_iff.mp h
    rcases List.mem_cons.mp hi with z | z
    · subst z; exact h'.1
    · exact ownFree_spec h'.2 i z
theorem owned_wipe {l : Addr} (hl : l ∈ owned es) : ∀ {is : List Nat}, (∀ i ∈ is, notOwn es[i]? = true) → l ∈ owned (wipeE es is)
  | [], _ => hl
  | i :: is, h => owned_set_no (wipeE_get_own (h i List.mem_cons_self)) (owned_wipe hl fun j hj => h j (List.mem_cons_of_mem _ hj))
theorem notOwn_setV {i j : Nat} {d : Dv} (h : notOwn es[j]? = true) : notOwn (es.set i (.v d))[j]? = true := by
  by_cases z : i = j
  · subst z
    by_cases hi : i < es.length
    · rw [List.getElem?_set_self hi]; rfl
    · rw [List.getElem?_eq_none (by rw [List.length_set]; omega)]; rfl
  · rw [List.getElem?_set_ne z]; exact h
theorem owned_setAll {l : Addr} : ∀ {is : List Nat} {ds : List Dv} {es : Es}, l ∈ owned es → (∀ i ∈ is, notOwn es[i]? = true) → l ∈ owned (setAll es is ds)
  | [], ds, es, hl, _ => by cases ds <;> exact hl
  | i :: is, [], es, hl, _ => hl
  | i :: is, d :: ds, es, hl, h => by
    show l ∈ owned (setAll (es.set i (.v d)) is ds)
    exact owned_setAll (es := es.set i (.v d)) (owned_set_no (h i List.mem_cons_self) hl) fun j hj => notOwn_setV (h j (List.mem_cons_of_mem _ hj))
theorem Tg.owned {t : Tg} {d : Dv} {P : Es → Prop} (hf : ∀ i ∈ t.ix, notOwn es[i]? = true) (h : t.w d es P) : t.w d es fun es2 => P es2 ∧ ∀ l, l ∈ L3.owned es → l ∈ L3.owned es2 := by
  cases t with
  | nm i => exact ⟨h, fun l hl => owned_set_no (hf i List.mem_cons_self) hl⟩
  | tp is => obtain ⟨ds, e, hl, q⟩ := h; exact ⟨ds, e, hl, q, fun l h => owned_setAll h hf⟩
end

/-! ### comprehensions -/
structure DTs (X : Cx) (R : RS) (ifs : List Expr) (w : WT) : Prop where
  pts : ∀ C : DC R, PTs X ifs (liftT X.K C w)
  mono : MonoE w
theorem PTs.imp {X : Cx} {e : List Expr} {t t' : TT} (h : PTs X e t) (f : ∀ σ H Q, t' σ H Q → t σ H Q) : PTs X e t' := ⟨fun pins s σ H Q I q => h.run pins s σ H Q I (f _ _ _ q)⟩
def wYes : WT := fun _ Q => Q true
section
variable {X : Cx} {R : RS} {elt tg iter c : Expr} {ifs : List Expr} {scope : Scope} {own : List (Str × Nat)} {pos spos : Pos} {wi : WA} {wt : WT} {we : WE} {t : Tg}
theorem dts_nil : DTs X R [] wYes := ⟨fun C => PTs.imp pts_nil fun σ H Q ⟨es, o, q⟩ => q H o.here, fun _ _ _ f q => f _ q⟩
theorem dts_one (h : DT X R c wt) : DTs X R [c] wt := ⟨fun C => pts_one (h.pt C), h.mono⟩
def wLc (wi : WA) (t : Tg) (wt : WT) (we : WE) : WA := fun es Q => wi es fun items => items.length ≤ 100000 ∧ ownFree es t.ix = true ∧ ∃ Iv : Nat → List Dv → Prop, Iv 0 [] ∧
  (∀ i d acc, items[i]? = some d → Iv i acc → t.w d (wipeE es t.ix) fun es2 => wt es2 fun b => if b = true then we es2 fun z => Iv (i + 1) (acc ++ [z]) else Iv (i + 1) acc) ∧ ∀ acc, Iv items.length acc → Q acc
theorem mono_lc (h : MonoE wi) : MonoE (wLc wi t wt we) := fun es P P' f q => h es _ _ (fun items ⟨hl, hf, Iv, h0, hs, hd⟩ => ⟨hl, hf, Iv, h0, hs, fun acc k => f _ (hd acc k)⟩) q
/-- tests and elements, at any entry -/
def tAny (K : PySem.W.Frag) (R : RS) (w : WE) : TE := fun σ H Q => ∃ C : DC R, liftE K C w σ H Q
def tAnyT (K : PySem.W.Frag) (R : RS) (w : WT) : TT := fun σ H Q => ∃ C : DC R, liftT K C w σ H Q
theorem lc_ok {K : PySem.W.Frag} {C : DC R} {σ : L2.St} {H : Hp} {Q : VK} (mi : MonoE wi) (mt : MonoE wt) (me : MonoE we) (h : liftN K C (wLc wi t wt we) σ H Q) : tLc (liftIB K C wi) (t.g K) (tAnyT K R wt) (tAny K R we) t.ix σ H Q := by
  obtain ⟨es, o, h⟩ := h
  refine ⟨es, o, mi es _ _ (fun items ⟨hl, hf, Iv, h0, hs, hd⟩ J H1 G a1 g it => fun D hD => ?_) h⟩
  have o1 := o.aft a1
  have avD : ∀ b, (C.Av es b ∨ b = D) → C.Av es b ∨ H1 b = none := fun b z => z.imp id fun z => by rw [z]; exact hD
  have fD : ∀ b, R.F b → (C.Av es b ∨ b = D) := fun b f => .inl (C.avF es b f)
  have nFD : ¬ R.F D := fun f => o1.live (C.avF es D f) hD
  refine ⟨fun i m Hc => m = items.length - i ∧ i ≤ items.length ∧ Aft R H1 Hc ∧ ∃ xs acc, Hc D = some (.lst xs) ∧ RepL K (fun b => C.Av es b ∨ b = D) Hc xs acc ∧ acc.length ≤ i ∧ Iv i acc,
    ⟨items.length, by simp, Nat.zero_le _, o1.aft_new hD, [], [], upd_same, .nil, Nat.le_refl _, h0⟩, ?_⟩
  rintro i m Hc ⟨rfl, hi, ac, xs, acc, hx, rx, hlen, iv⟩
  have gc : G (fun b => C.Av es b ∨ b = D) Hc := it.ext _ H1 Hc fD ac.ext (it.more _ _ H1 avD g)
  by_cases hlt : i < items.length
  · refine .inr ⟨it.go _ _ i gc hlt, fun H' => i + 1 ≤ items.length ∧ Aft R H1 H' ∧ ∃ xs acc, H' D = some (.lst xs) ∧ RepL K (fun b => C.Av es b ∨ b = D) H' xs acc ∧ acc.length ≤ i + 1 ∧ Iv (i + 1) acc,
      fun H' ⟨h1, h2⟩ => ⟨items.length - (i + 1), by omega, rfl, h1, h2⟩, fun x H' y => ?_⟩
    obtain ⟨ey, d, hd', rd⟩ := it.yld _ _ i x H' gc hlt y
    have ac' : Aft R H1 H' := ac.aft0 ey
    have hx' : H' D = some (.lst xs) := ey.keep D _ hx (.inl fun z => z)
    have rx' := rx.ext fD (Ext.of0 (F := R.F) ey)
    obtain ⟨C', hav, hva, oS⟩ := (o1.wipe t.ix).sub hD (by rw [hx']; exact fun z => nomatch z) ac'
    have rdC : Rep K (C'.Av (wipeE es t.ix)) H' x d := rd.anti fun b z => (hav _ b z).imp (fun z => avWipe b z) id
    have hf1 := ownFree_spec hf
    refine Tg.ok oS rdC (t.mono (fun es2 ⟨q, how⟩ σ2 o2 hw => ?_) (Tg.owned (fun i hi => wipeE_get_own (hf1 i hi)) (hs i d acc hd' iv)))
    have avE : ∀ b, C.Av es b ∨ b = D → C'.Av es2 b := fun b z => hva es2 b (z.imp (fun z => z.imp id fun z => how b (owned_wipe z hf1)) id)
    refine ⟨by rw [hw]; exact wipe_same (wipe_length _ _) fun j hj => by rw [wipe_get, if_neg hj], C', es2, o2, mt es2 _ _ (fun b k H3 a3 => ?_) q⟩
    have hx3 : H3 D = some (.lst xs) := a3.ext.keep D _ hx' (.inl nFD)
    have rx3 := rx'.ext fD a3.ext
    cases b with
    | false =>
      exact iteF ⟨hlt, ac'.trans a3, xs, acc, hx3, rx3, by omega, unF k⟩
    | true =>
      refine iteT ⟨C', es2, o2.aft a3, me es2 _ _ (fun z k v H4 a4 r4 => ?_) (unT k)⟩
      have hx4 : H4 D = some (.lst xs) := a4.ext.keep D _ hx3 (.inl nFD)
      have rx4 := rx3.ext fD a4.ext
      have ac4 := (ac'.trans a3).trans a4
      have stay : ∀ (b : Addr) (u : HO), (R.F b ∨ Imm u) → H4 b = some u → upd H4 D (.lst (xs ++ [v])) b = some u := fun b u f e => by
        rw [upd_ne (show b ≠ D from fun z => f.elim (fun f => nFD (by rw [← z]; exact f)) fun i => by rw [z, hx4] at e; cases e; exact i)]
        exact e
      refine ⟨xs, hx4, by rw [rx4.length]; exact Nat.lt_of_le_of_lt (Nat.le_trans hlen hi) (Nat.lt_of_le_of_lt hl (by decide)), hlt, ⟨?_, ?_, ?_⟩, xs ++ [v], acc ++ [z], upd_same, ?_, by rw [List.length_append, List.length_singleton]; omega, k⟩
      · refine ⟨fun b u e q => ?_, fun b e => ?_⟩
        · rw [upd_ne (ne_of_none e hD)]; exact ac4.ext.keep b u e q
        · by_cases z : b = D
          · rw [z]; exact hD
          · rw [upd_ne z] at e; exact ac4.ext.live b e
      · exact R.zst H4 _ ac4.z stay
      · exact fun vs s => R.sst vs H4 _ (ac4.st vs s) stay
      · have r4' : Rep K (fun b => C.Av es b ∨ b = D) H4 v z := r4.anti avE
        have imm : ∀ u, H4 D = some u → ¬ Imm u := fun u e => by rw [hx4] at e; cases e; exact fun z => z
        exact (rx4.append (.cons r4' .nil)).mut (.inr rfl) imm
  · have e : i = items.length := by omega
    subst e
    refine .inl ⟨it.stop _ _ gc, ?_⟩
    exact hd acc iv D Hc (a1.trans ac) ⟨a1.ext.live D hD, xs, hx, rx⟩
end
end L3

/-! L3e: statements, loops, defs over deep data. -/
namespace L3
open PySem PySem.Spec PyProof.Rows L2

structure DEnds where
  nx : Es → Prop
  rt : Dv → Prop
  bk : Es → Prop
  ct : Es → Prop
abbrev WS := DEnds → Es → Prop
structure DEnds.Le (D D' : DEnds) : Prop where
  nx : ∀ es, D.nx es → D'.nx es
  rt : ∀ d, D.rt d → D'.rt d
  bk : ∀ es, D.bk es → D'.bk es
  ct : ∀ es, D.ct es → D'.ct es
def MonoS (w : WS) : Prop := ∀ D D' es, D.Le D' → w D es → w D' es
theorem DEnds.Le.withNx {D D' : DEnds} (h : D.Le D') {f g : Es → Prop} (q : ∀ es, f es → g es) : ({ D with nx := f } : DEnds).Le { D' with nx := g } := ⟨q, h.rt, h.bk, h.ct⟩
theorem DEnds.Le.loop {D D' : DEnds} (h : D.Le D') {f g : Es → Prop} (q : ∀ es, f es → g es) : ({ D with nx := f, ct := f, bk := D.nx } : DEnds).Le { D' with nx := g, ct := g, bk := D'.nx } := ⟨q, h.rt, h.nx, q⟩
section
variable (K : PySem.W.Frag) {R : RS} (C : DC R)
/-- what an answer says: the resource's things as they were; or, where they change, what they hold now beside the answer's data -/
def RetOk (d : Dv) (v : V) (H : Hp) : Prop := (R.ro = true → Rep K C.A0 H v d ∧ ∀ vs, R.S vs C.H0 → R.S vs H) ∧ (R.ro = false → ∃ r ds vs, d = .tup [r, .lst ds] ∧ Rep K C.A0 H v r ∧ R.S vs H ∧ RepL K C.A0 H vs ds)
def endsD (D : Ends) : DEnds where
  nx := fun es => ∀ σ H, Ok K C es σ H → D.nx σ H
  rt := fun d => ∀ v H, Ext R.F C.H0 H → R.Z H → RetOk K C d v H → D.rt v H
  bk := fun es => ∀ σ H, Ok K C es σ H → D.bk σ H
  ct := fun es => ∀ σ H, Ok K C es σ H → D.ct σ H
def liftS (w : WS) : TS := fun D σ H => ∃ es, Ok K C es σ H ∧ w (endsD K C D) es
end
structure DS (X : Cx) (R : RS) (st : Stmt) (w : WS) : Prop where
  ps : ∀ C : DC R, PS X st (liftS X.K C w)
  mono : MonoS w
structure DSs (X : Cx) (R : RS) (sts : List Stmt) (w : WS) : Prop where
  pss : ∀ C : DC R, PSs X sts (liftS X.K C w)
  mono : MonoS w
section
variable {X : Cx} {R : RS} {st : Stmt} {rest sts : List Stmt} {e a b c : Expr} {w wa wb wc we : WE} {wn : WA} {wt : WT} {t u : WS} {pos : Pos}
/-! ### blocks, small statements -/
def wsNil : WS := fun D es => D.nx es
def wsSeq (t u : WS) : WS := fun D es => t { D with nx := u D } es
theorem dss_nil : DSs X R [] wsNil := ⟨fun C => PSs.imp pss_nil fun D σ H ⟨es, o, q⟩ => q σ H o, fun D D' es h q => h.nx es q⟩
theorem dss_cons (h1 : DS X R st t) (h2 : DSs X R rest u) : DSs X R (st :: rest) (wsSeq t u) :=
  ⟨fun C => PSs.imp (pss_cons (h1.ps C) (h2.pss C)) fun D σ H ⟨es, o, q⟩ => ⟨es, o, h1.mono { endsD X.K C D with nx := u (endsD X.K C D) } _ es ⟨fun es k σ' H' o' => ⟨es, o', k⟩, fun _ k => k, fun _ k => k, fun _ k => k⟩ q⟩, fun D D' es h q => h1.mono _ _ es (h.withNx fun es k => h2.mono _ _ es h k) q⟩
theorem dss_one (h1 : DS X R st t) : DSs X R [st] t := ⟨fun C => PSs.imp (pss_one (h1.ps C)) fun D σ H q => q, h1.mono⟩
def wsBrk : WS := fun D es => D.bk es
def wsCont : WS := fun D es => D.ct es
theorem ds_pass : DS X R (.Pass pos) wsNil := ⟨fun C => PSt.imp ps_pass fun D σ H ⟨es, o, q⟩ => q σ H o, fun D D' es h q => h.nx es q⟩
theorem ds_break : DS X R (.Break pos) wsBrk := ⟨fun C => PSt.imp ps_break fun D σ H ⟨es, o, q⟩ => q σ H o, fun D D' es h q => h.bk es q⟩
theorem ds_continue : DS X R (.Continue pos) wsCont := ⟨fun C => PSt.imp ps_continue fun D σ H ⟨es, o, q⟩ => q σ H o, fun D D' es h q => h.ct es q⟩
/-- never reached -/
def wsNever : WS := fun _ _ => False
theorem ds_never : DS X R st wsNever := ⟨fun C => ⟨fun _ _ _ _ _ _ ⟨_, _, h⟩ => h.elim⟩, fun _ _ _ _ h => h⟩
theorem dss_never : DSs X R sts wsNever := ⟨fun C => ⟨fun _ _ _ _ _ _ ⟨_, _, h⟩ => h.elim⟩, fun _ _ _ _ h => h⟩
/-- an own thing is from now on a value -/
def wsFrz (i : Nat) (t : WS) : WS := fun D es => ∃ l d, es[i]? = some (.own l d) ∧ t D (es.set i (.v d))
theorem ds_frz (i : Nat) (h : DS X R st t) : DS X R st (wsFrz i t) := ⟨fun C => PSt.imp (h.ps C) fun D σ H ⟨es, o, l, d, e, q⟩ => ⟨_, o.frz e, q⟩, fun D D' es h' ⟨l, d, e, q⟩ => ⟨l, d, e, h.mono _ _ _ h' q⟩⟩
def wsRet (w : WE) : WS := fun D es => w es D.rt
theorem RetOk.of {K : PySem.W.Frag} {C : DC R} {es : Es} {σ : L2.St} {H : Hp} {d : Dv} {v : V} (o : Ok K C es σ H) (hro : R.ro = true) (r : Rep K C.A0 H v d) : RetOk K C d v H := ⟨fun h => ⟨r, o.ro h⟩, fun h => by rw [hro] at h; cases h⟩
theorem ds_ret (h : DB X R e w) (hro : R.ro = true := by rfl) : DS X R (.Return (some e) pos) (wsRet w) :=
  ⟨fun C => PSt.imp (ps_ret (h.pe C)) fun D σ H ⟨es, o, q⟩ => ⟨es, o, h.mono es _ _ (fun d k v H' a r => k v H' (o.ext.trans a.ext) a.z (RetOk.of (o.aft a) hro (r.a0 o))) q⟩, fun D D' es hD q => h.mono es _ _ (fun d k => hD.rt d k) q⟩
def wsRetN : WS := fun D _ => D.rt .non
theorem ds_retN (hro : R.ro = true := by rfl) : DS X R (.Return none pos) wsRetN := ⟨fun C => PSt.imp ps_retN fun D σ H ⟨es, o, q⟩ => q .non H o.ext o.z (RetOk.of o hro .non), fun D D' es h q => h.rt _ q⟩
def wsDrop (w : WE) : WS := fun D es => w es fun _ => D.nx es
theorem ds_expr (h : DE X R e w) (hs : swapsWith e none pos.line X.env = pure false := by rfl) : DS X R (.Expr e pos) (wsDrop w) :=
  ⟨fun C => PSt.imp (ps_expr (h.pe C) hs) fun D σ H ⟨es, o, q⟩ => ⟨es, o, h.mono es _ _ (fun d k v H' a r => k σ H' (o.aft a)) q⟩, fun D D' es hD q => h.mono es _ _ (fun d k => hD.nx _ k) q⟩
/-- x = e -/
def wsSet (i : Nat) (w : WE) : WS := fun D es => w es fun d => D.nx (es.set i (.v d))
theorem mono_set {i : Nat} (h : MonoE w) : MonoS (wsSet i w) := fun D D' es hD q => h es _ _ (fun d k => hD.nx _ k) q
theorem set_ok {K : PySem.W.Frag} {C : DC R} {i : Nat} {D : Ends} {σ : L2.St} {H : Hp} (m : MonoE w) (h : liftS K C (wsSet i w) D σ H) : tAsg (liftE K C w) (gName i) D σ H := by
  obtain ⟨es, o, q⟩ := h
  exact ⟨es, o, m es _ _ (fun d k v H' a r => k _ H' ((o.aft a).setV' r)) q⟩
theorem ds_set {i : Nat} {x : Str} {pos' : Pos} (hN : X.N.Nodup) (he : DE X R e w) (hi : X.N[i]? = some x := by rfl) (hx : Loc X.env.scope x := by first | exact Or.inl rfl | exact Or.inr rfl) (hs : swapsWith e (some (.Name x pos')) pos.line X.env = pure false := by rfl)
    (hf : X.fn x = true ∨ X.env.scope.names.lookup x = some .local := by first | exact .inl rfl | exact .inr rfl) : DS X R (.Assign [.Name x pos'] e pos) (wsSet i w) :=
  ⟨fun C => PSt.imp (ps_set hN hi hx (he.pe C) hs hf) fun D σ H h => set_ok he.mono h, mono_set he.mono⟩
/-- x = a new list, the def's own -/
def wsSetN (i : Nat) (w : WA) : WS := fun D es => w es fun ds => ∀ l, D.nx (es.set i (.own l (.lst ds)))
theorem mono_setN {i : Nat} (h : MonoE wn) : MonoS (wsSetN i wn) := fun D D' es hD q => h es _ _ (fun d k l => hD.nx _ (k l)) q
theorem Ok.setO' {K : PySem.W.Frag} {C : DC R} {es : Es} {σ : L2.St} {H H' : Hp} (o : Ok K C es σ H) {i : Nat} {l : Addr} {d : Dv} (hn : H l = none) (a : Aft R H H') (r : OwnAt K (fun b => C.Av es b ∨ b = l) H' l d) : Ok K C (es.set i (.own l d)) (σ.set i (some (.ref l))) H' := by
  by_cases hi : i < es.length
  · exact o.setO hi hn a r
  · rw [List.set_eq_of_length_le (by omega), List.set_eq_of_length_le (by rw [o.len]; omega)]
    exact o.aft a
theorem setN_ok {K : PySem.W.Frag} {C : DC R} {i : Nat} {D : Ends} {σ : L2.St} {H : Hp} (m : MonoE wn) (h : liftS K C (wsSetN i wn) D σ H) : tAsg (liftN K C wn) (gName i) D σ H := by
  obtain ⟨es, o, q⟩ := h
  exact ⟨es, o, m es _ _ (fun d k l H' a ⟨hn, xs, e, r⟩ => k l _ H' (o.setO' hn a ⟨xs, e, r⟩)) q⟩
theorem ds_setN {i : Nat} {x : Str} {pos' : Pos} (hN : X.N.Nodup) (he : DN X R e wn) (hi : X.N[i]? = some x := by rfl) (hx : Loc X.env.scope x := by first | exact Or.inl rfl | exact Or.inr rfl) (hs : swapsWith e (some (.Name x pos')) pos.line X.env = pure false := by rfl)
    (hf : X.fn x = true ∨ X.env.scope.names.lookup x = some .local := by first | exact .inl rfl | exact .inr rfl) : DS X R (.Assign [.Name x pos'] e pos) (wsSetN i wn) :=
  ⟨fun C => PSt.imp (ps_set hN hi hx (he.pe C) hs hf) fun D σ H h => setN_ok he.mono h, mono_setN he.mono⟩
/-- {} -/
def wsSetD (i : Nat) (d : Dv) : WS := fun D es => ∀ l, D.nx (es.set i (.own l d))
theorem setD_ok {K : PySem.W.Frag} {C : DC R} {i : Nat} {D : Ends} {σ : L2.St} {H : Hp} {u : HO} {d : Dv} (hu : ∀ (Av : Addr → Prop) p, OwnAt K Av (upd H p u) p d) (h : liftS K C (wsSetD i d) D σ H) : ∀ p, H p = none → D.nx (σ.set i (some (.ref p))) (upd H p u) := by
  obtain ⟨es, o, q⟩ := h
  intro p hp
  exact q p _ _ (o.setO' hp (o.aft_new hp) (hu _ _))
theorem ds_setDK {i : Nat} {x : Str} {pos' p2 : Pos} (hN : X.N.Nodup) (hi : X.N[i]? = some x := by rfl) (hx : Loc X.env.scope x := by first | exact Or.inl rfl | exact Or.inr rfl) (hs : swapsWith (.Dict [] [] p2) (some (.Name x pos')) pos.line X.env = pure false := by rfl)
    (hf : X.fn x = true ∨ X.env.scope.names.lookup x = some .local := by first | exact .inl rfl | exact .inr rfl) : DS X R (.Assign [.Name x pos'] (.Dict [] [] p2) pos) (wsSetD i (.dK [] [])) :=
  ⟨fun C => PSt.imp (ps_set hN hi hx pe_dnewK hs hf) fun D σ H h => setD_ok (d := .dK [] []) (fun _ _ => ⟨[], upd_same, rfl, .nil⟩) h, fun D D' es hD q l => hD.nx _ (q l)⟩
theorem ds_setDT {i : Nat} {x : Str} {pos' p2 : Pos} (hN : X.N.Nodup) (hi : X.N[i]? = some x := by rfl) (hx : Loc X.env.scope x := by first | exact Or.inl rfl | exact Or.inr rfl) (hs : swapsWith (.Dict [] [] p2) (some (.Name x pos')) pos.line X.env = pure false := by rfl)
    (hf : X.fn x = true ∨ X.env.scope.names.lookup x = some .local := by first | exact .inl rfl | exact .inr rfl) : DS X R (.Assign [.Name x pos'] (.Dict [] [] p2) pos) (wsSetD i (.dT [] [])) :=
  ⟨fun C => PSt.imp (ps_set hN hi hx pe_dnewT hs hf) fun D σ H h => setD_ok (d := .dT [] []) (fun _ _ => ⟨[], upd_same, rfl, .nil⟩) h, fun D D' es hD q l => hD.nx _ (q l)⟩
/-- a, b = a tuple -/
def wsTup (is : List Nat) (w : WE) : WS := fun D es => w es fun d => ∃ ds, d = .tup ds ∧ ds.length = is.length ∧ D.nx (setAll es is ds)
theorem ds_tup {tg : Expr} {is : List Nat} (he : DE X R e w) (hg : PG X tg (Tg.g X.K (.tp is))) (hs : swapsWithSole [tg] e pos.line X.env = pure false := by rfl) (hw : swappedStores [tg] e X.env = pure none := by rfl)
    (h1 : (assignEach [tg] X.env).map (·.2) = [assign tg X.env] := by rfl) : DS X R (.Assign [tg] e pos) (wsTup is w) :=
  ⟨fun C => PSt.imp (ps_asg (he.pe C) hg hs hw h1) fun D σ H ⟨es, o, q⟩ => ⟨es, o, he.mono es _ _ (fun d ⟨ds, e1, hl, k⟩ v H' a r => Tg.ok (t := .tp is) (o.aft a) r ⟨ds, e1, hl, fun σ' o' _ => k σ' H' o'⟩) q⟩,
    fun D D' es hD q => he.mono es _ _ (fun d ⟨ds, e1, hl, k⟩ => ⟨ds, e1, hl, hD.nx _ k⟩) q⟩
/-- x += e of ints -/
def wsAug (i : Nat) (f : Int → Int → Int) (w : WE) : WS := fun D es => ∃ m, es[i]? = some (.v (.int m)) ∧ w es fun d => ∃ n, d = .int n ∧ D.nx (es.set i (.v (.int (f m n))))
theorem ds_aug {i : Nat} {x : Str} {op : Operator} {f : Int → Int → Int} {pos' : Pos} (hN : X.N.Nodup) (he : DE X R e w) (ho : PIp X op (ipI f)) (hi : X.N[i]? = some x := by rfl) (hx : Loc X.env.scope x := by first | exact Or.inl rfl | exact Or.inr rfl)
    (hf : X.fn x = true ∨ X.env.scope.names.lookup x = some .local := by first | exact .inl rfl | exact .inr rfl) : DS X R (.AugAssign (.Name x pos') op e pos) (wsAug i f w) :=
  ⟨fun C => PSt.imp (ps_aug hN hi hx (he.pe C) ho hf) fun D σ H ⟨es, o, m, e, q⟩ => by
    obtain ⟨x, e1, r⟩ := o.val i _ e
    cases r
    exact ⟨_, e1, es, o, he.mono es _ _ (fun d ⟨n, e2, k⟩ v H' a r => by subst e2; cases r; exact ⟨m, n, rfl, rfl, k _ H' ((o.aft a).setV' (.int _))⟩) q⟩,
    fun D D' es hD ⟨m, e, q⟩ => ⟨m, e, he.mono es _ _ (fun d ⟨n, e2, k⟩ => ⟨n, e2, hD.nx _ k⟩) q⟩⟩
def wsIf (c : WT) (t u : WS) : WS := fun D es => c es fun b => if b = true then t D es else u D es
theorem ds_if {sa sb : List Stmt} (hc : DT X R c wt) (ha : DSs X R sa t) (hb : DSs X R sb u) : DS X R (.If c sa sb pos) (wsIf wt t u) := by
  refine ⟨fun C => PSt.imp (ps_if (hc.pt C) (ha.pss C) (hb.pss C)) fun D σ H ⟨es, o, q⟩ => ⟨es, o, hc.mono es _ _ (fun b k H1 a1 => ?_) q⟩, fun D D' es hD q => hc.mono es _ _ (fun b k => ?_) q⟩
  · cases b with
    | true => exact iteT ⟨es, o.aft a1, unT k⟩
    | false => exact iteF ⟨es, o.aft a1, unF k⟩
  · cases b with
    | true => exact iteT (ha.mono _ _ _ hD (unT k))
    | false => exact iteF (hb.mono _ _ _ hD (unF k))

/-! ### own lists -/
def wsApp (i : Nat) (w : WE) : WS := fun D es => ∃ l ds, es[i]? = some (.own l (.lst ds)) ∧ w es fun d => ds.length < 100000 ∧ D.nx (es.set i (.own l (.lst (ds ++ [d]))))
theorem ds_append (i : Nat) {x : Str} {px apos cpos : Pos} (he : DE X R e w) (hN : X.N[i]? = some x := by rfl) (hv : Vis X.env.scope x := by first | exact Or.inl rfl | exact Or.inr (Or.inl rfl) | exact Or.inr (Or.inr rfl)) (hd : (x == ("__debug__" : Str)) = false := by decide)
    (hcd : (x == ("__classdict__" : Str)) = false := by decide) (hbase : attributeBase (.Name x px) "append" X.env (eval (.Name x px) X.env) = eval (.Name x px) X.env := by rfl)
    (hfew : ((backTo cpos (starEach [e] X.env)).all (fun x => !x.1) && (backToKw cpos (keywordEach [] X.env)).all (fun x => x.1.isSome)
      && decide (([e] : List Expr).length + ([] : List Keyword).length + (if ([] : List Keyword).isEmpty then 0 else 1) < 30)) = true := by rfl)
    (hline : (apos.endLine == cpos.line) = true := by rfl) (hs : starEach [e] X.env = (false, eval e X.env) :: starEach [] X.env := by rfl) (hplain : (backTo cpos (starEach [] X.env)).any (·.1) = false := by rfl)
    (hsw : swapsWith (.Call (.Attribute (.Name x px) "append" apos) [e] [] cpos) none pos.line X.env = pure false := by rfl) :
    DS X R (.Expr (.Call (.Attribute (.Name x px) "append" apos) [e] [] cpos) pos) (wsApp i w) := by
  refine ⟨fun C => PSt.imp (ps_expr (pe_bm PySem.F.plainAttrs_list PySem.F.slot_list_append PySem.F.type_list_append mt_append (pe_var hN hv hd hcd) (pa_cons (he.pe C) pa_nil hs) hbase hfew hline hs hplain) hsw) fun D σ H ⟨es, o, l, ds, h1, q⟩ => ?_,
    fun D D' es hD ⟨l, ds, h1, q⟩ => ⟨l, ds, h1, he.mono es _ _ (fun d ⟨h2, k⟩ => ⟨h2, hD.nx _ k⟩) q⟩⟩
  obtain ⟨e1, xs, hx, rx⟩ := o.own i l _ h1
  refine ⟨.ref l, e1, .inl ⟨rfl, xs, .inl (.inl hx)⟩, es, o, he.mono es _ _ (fun d ⟨h2, k⟩ v H1 a1 r1 => ?_) q⟩
  have o1 := o.aft a1
  obtain ⟨_, xs', hx', rx'⟩ := o1.own i l _ h1
  exact ⟨l, xs', v, rfl, rfl, hx', Nat.lt_of_lt_of_le (by rw [rx'.length]; exact h2) (by decide), k _ _ (o1.mutO h1 ⟨_, upd_same, (rx'.append (.cons r1 .nil)).mut (.inr (mem_owned h1)) fun u e => by rw [hx'] at e; cases e; exact fun z => z⟩)⟩
/-- x.extend(a new list) -/
def wsExt (i : Nat) (w : WA) : WS := fun D es => ∃ l ds, es[i]? = some (.own l (.lst ds)) ∧ w es fun ns => ds.length + ns.length ≤ 100000 ∧ D.nx (es.set i (.own l (.lst (ds ++ ns))))
theorem ds_extend (i : Nat) {x : Str} {px apos cpos : Pos} (he : DN X R e wn) (hN : X.N[i]? = some x := by rfl) (hv : Vis X.env.scope x := by first | exact Or.inl rfl | exact Or.inr (Or.inl rfl) | exact Or.inr (Or.inr rfl)) (hd : (x == ("__debug__" : Str)) = false := by decide)
    (hcd : (x == ("__classdict__" : Str)) = false := by decide) (hbase : attributeBase (.Name x px) "extend" X.env (eval (.Name x px) X.env) = eval (.Name x px) X.env := by rfl)
    (hfew : ((backTo cpos (starEach [e] X.env)).all (fun x => !x.1) && (backToKw cpos (keywordEach [] X.env)).all (fun x => x.1.isSome)
      && decide (([e] : List Expr).length + ([] : List Keyword).length + (if ([] : List Keyword).isEmpty then 0 else 1) < 30)) = true := by rfl)
    (hline : (apos.endLine == cpos.line) = true := by rfl) (hs : starEach [e] X.env = (false, eval e X.env) :: starEach [] X.env := by rfl) (hplain : (backTo cpos (starEach [] X.env)).any (·.1) = false := by rfl)
    (hsw : swapsWith (.Call (.Attribute (.Name x px) "extend" apos) [e] [] cpos) none pos.line X.env = pure false := by rfl) :
    DS X R (.Expr (.Call (.Attribute (.Name x px) "extend" apos) [e] [] cpos) pos) (wsExt i wn) := by
  refine ⟨fun C => PSt.imp (ps_expr (pe_bm PySem.F.plainAttrs_list PySem.F.slot_list_extend PySem.F.type_list_extend mt_extend (pe_var hN hv hd hcd) (pa_cons (he.pe C) pa_nil hs) hbase hfew hline hs hplain) hsw) fun D σ H ⟨es, o, l, ds, h1, q⟩ => ?_,
    fun D D' es hD ⟨l, ds, h1, q⟩ => ⟨l, ds, h1, he.mono es _ _ (fun d ⟨h2, k⟩ => ⟨h2, hD.nx _ k⟩) q⟩⟩
  obtain ⟨e1, xs, hx, rx⟩ := o.own i l _ h1
  refine ⟨.ref l, e1, .inl ⟨rfl, xs, .inl (.inl hx)⟩, es, o, he.mono es _ _ (fun d ⟨h2, k⟩ n H1 a1 ⟨hn, ys, hy, ry⟩ => ?_) q⟩
  have o1 := o.aft a1
  obtain ⟨_, xs', hx', rx'⟩ := o1.own i l _ h1
  exact ⟨l, n, xs', ys, rfl, rfl, hx', hy, sz5 (by rw [rx'.length, ry.length]; exact h2), k _ _ (o1.mutO h1 ⟨_, upd_same, (rx'.append (ry.anti fun b z => .inl z)).mut (.inr (mem_owned h1)) fun u e => by rw [hx'] at e; cases e; exact fun z => z⟩)⟩
/-- x[j] = e -/
def wsItem (i : Nat) (wj w : WE) : WS := fun D es => ∃ l ds, es[i]? = some (.own l (.lst ds)) ∧ w es fun d => wj es fun y => ∃ n j, y = .int n ∧ ixN ds.length n = some j ∧ D.nx (es.set i (.own l (.lst (ds.set j d))))
theorem ds_item (i : Nat) {x : Str} {px p2 : Pos} {j : Expr} {wj : WE} (hj : DE X R j wj) (he : DE X R e w) (hN : X.N[i]? = some x := by rfl) (hv : Vis X.env.scope x := by first | exact Or.inl rfl | exact Or.inr (Or.inl rfl) | exact Or.inr (Or.inr rfl)) (hd : (x == ("__debug__" : Str)) = false := by decide)
    (hcd : (x == ("__classdict__" : Str)) = false := by decide) (hs : swapsWithSole [.Subscript (.Name x px) j p2] e pos.line X.env = pure false := by rfl) (hw : swappedStores [.Subscript (.Name x px) j p2] e X.env = pure none := by rfl)
    (h1 : (assignEach [.Subscript (.Name x px) j p2] X.env).map (·.2) = [assign (.Subscript (.Name x px) j p2) X.env] := by rfl)
    (ha : ∀ v, assign (.Subscript (.Name x px) j p2) X.env v = (do
      let ov ← holding [v] (eval (.Name x px) X.env)
      let iv ← holding [v, ov] (eval j X.env)
      standAt p2
      holding [v, ov, iv] (setItem ov iv v)
      release [v, ov, iv] []) := by intro _; rfl) : DS X R (.Assign [.Subscript (.Name x px) j p2] e pos) (wsItem i wj w) := by
  refine ⟨fun C => PSt.imp (ps_asg (he.pe C) (pg_sub (pe_var hN hv hd hcd) (hj.pe C) set_list ha) hs hw h1) fun D σ H ⟨es, o, l, ds, hl, q⟩ => ⟨es, o, he.mono es _ _ (fun d k v H1 a1 r1 => ?_) q⟩,
    fun D D' es hD ⟨l, ds, hl, q⟩ => ⟨l, ds, hl, he.mono es _ _ (fun d k => hj.mono es _ _ (fun y ⟨n, j, h2, h3, k⟩ => ⟨n, j, h2, h3, hD.nx _ k⟩) k) q⟩⟩
  have o1 := o.aft a1
  obtain ⟨e1, xs, hx, rx⟩ := o1.own i l _ hl
  refine ⟨.ref l, e1, es, o1, hj.mono es _ _ (fun y ⟨n, j, h2, h3, kk⟩ u H2 a2 r2 => ?_) k⟩
  subst h2
  cases r2
  have o2 := o1.aft a2
  obtain ⟨_, xs', hx', rx'⟩ := o2.own i l _ hl
  exact ⟨l, xs', n, j, rfl, rfl, hx', by rw [rx'.length]; exact h3, kk _ _ (o2.mutO hl ⟨_, upd_same, (rx'.set (r1.ext (C.avF es) a2.ext) j).mut (.inr (mem_owned hl)) fun u e => by rw [hx'] at e; cases e; exact fun z => z⟩)⟩

/-! ### loops -/
theorem Ok.forget {K : PySem.W.Frag} {C : DC R} {es : Es} {σ : L2.St} {H : Hp} (o : Ok K C es σ H) : ∀ vs : List Nat, Ok K C (wipeE es vs) σ H
  | [] => o
  | v :: vs => by
    have o1 := Ok.forget o vs
    by_cases hi : v < σ.length
    · have := o1.setN' (i := v) (σ[v]) (.inr trivial)
      rw [List.set_getElem_self] at this
      exact this
    · have : (wipeE es vs).set v .no = wipeE es vs := List.set_eq_of_length_le (by rw [← o1.len]; omega)
      unfold wipeE
      rw [this]
      exact o1
def tAnyS (K : PySem.W.Frag) (R : RS) (w : WS) : TS := fun D σ H => ∃ C : DC R, liftS K C w D σ H
theorem any_pss {sts : List Stmt} (h : DSs X R sts t) : PSs X sts (tAnyS X.K R t) := ⟨fun pins s σ H D I ⟨C, q⟩ => (h.pss C).run pins s σ H D I q⟩
def wsFor (wi : WA) (tg : Tg) (fg : List Nat) (tb : WS) : WS := fun D es => wi es fun items => ∃ Iv : Nat → Es → Prop, Iv 0 (wipeE es fg) ∧
  (∀ i d es', items[i]? = some d → Iv i es' → tg.w d es' fun es2 => tb { D with nx := fun e => Iv (i + 1) (wipeE e fg), ct := fun e => Iv (i + 1) (wipeE e fg), bk := D.nx } es2) ∧ ∀ es', Iv items.length es' → D.nx es'
theorem ds_for {tg iter : Expr} {body : List Stmt} {wi : WA} (tt : Tg) (fg : List Nat) (hp : PassesOwn (model X.prog X.w) X.A X.env X.xe) (hc : X.calm = true) (hi : DI X R tg iter wi) (hg : PG X tg (tt.g X.K)) (hb : DSs X R body t)
    (hs : ∀ x, foldedSetIterable iter X.env x = pure x := by intro _; rfl) : DS X R (.For tg iter body [] pos) (wsFor wi tt fg t) := by
  refine ⟨fun C => PSt.imp (ps_for hp hc (hi.pi C) hg (any_pss hb) hs) fun D σ H ⟨es, o, q⟩ => ⟨es, o, hi.mono es _ _ (fun items ⟨Iv, h0, hst, hd⟩ J H1 gs a1 hgs it => ?_) q⟩,
    fun D D' es hD q => hi.mono es _ _ (fun items ⟨Iv, h0, hst, hd⟩ => ⟨Iv, h0, fun i d es' e k => tt.mono (fun es2 k => hb.mono _ _ _ (hD.loop fun _ z => z) k) (hst i d es' e k), fun es' k => hD.nx _ (hd es' k)⟩) q⟩
  have o1 := o.aft a1
  refine ⟨fun i m σ' H' => m = items.length - i ∧ i ≤ items.length ∧ ∃ es', Iv i es' ∧ Ok X.K (C.push gs) es' σ' H', ⟨items.length, by simp, Nat.zero_le _, _, h0, (o1.gh_push hgs).forget fg⟩, ?_⟩
  rintro i m σ' H' ⟨rfl, hi', es', iv, o'⟩
  have hgs' : ∀ p ∈ gs, Rep X.K ((C.push gs).Av es') H' p.1 p.2 := fun p hp => o'.gh p (List.mem_append_left _ hp)
  by_cases hlt : i < items.length
  · refine .inr ⟨it.go _ _ i hgs' hlt, fun σ2 H2 => i + 1 ≤ items.length ∧ ∃ es', Iv (i + 1) es' ∧ Ok X.K (C.push gs) es' σ2 H2, fun σ2 H2 ⟨h1, h2⟩ => ⟨items.length - (i + 1), by omega, rfl, h1, h2⟩, fun x H2 y => ?_⟩
    obtain ⟨ey, d, hd', rd⟩ := it.yld _ _ i x H2 hgs' hlt y
    refine Tg.ok (o'.aft (o'.aft0 ey)) rd (tt.mono (fun es2 k σ2 o2 _ => ⟨C.push gs, es2, o2, hb.mono { endsD X.K C D with nx := fun e => Iv (i + 1) (wipeE e fg), ct := fun e => Iv (i + 1) (wipeE e fg), bk := (endsD X.K C D).nx } _ _ ⟨fun es3 k3 σ3 H3 o3 => ?_, fun d3 k3 v H3 e3 z3 r3 => k3 v H3 e3 z3 r3, fun es3 k3 σ3 H3 o3 => k3 σ3 H3 o3.gh_pop, fun es3 k3 σ3 H3 o3 => ?_⟩ k⟩) (hst i d es' hd' iv))
    · exact ⟨hlt, _, k3, o3.forget fg⟩
    · exact ⟨hlt, _, k3, o3.forget fg⟩
  · have e : i = items.length := by omega
    subst e
    exact .inl ⟨it.stop _ _ hgs', hd es' iv σ' H' o'.gh_pop⟩
def wsWhile (c : WT) (fg : List Nat) (tb : WS) : WS := fun D es => ∃ Iv : Nat → Es → Prop, (∃ m, Iv m (wipeE es fg)) ∧ ∀ m es', Iv m es' →
  c es' fun b => if b = true then tb { D with nx := fun e => ∃ m', m' < m ∧ Iv m' (wipeE e fg), ct := fun e => ∃ m', m' < m ∧ Iv m' (wipeE e fg), bk := D.nx } es' else D.nx es'
theorem ds_while {body : List Stmt} (fg : List Nat) (hp : PassesOwn (model X.prog X.w) X.A X.env X.xe) (hc : DT X R c wt) (hb : DSs X R body t) : DS X R (.While c body [] pos) (wsWhile wt fg t) := by
  refine ⟨fun C => PSt.imp (ps_while hp (hc.pt C) (hb.pss C)) fun D σ H ⟨es, o, Iv, ⟨m0, h0⟩, hst⟩ => ?_, fun D D' es hD ⟨Iv, h0, hst⟩ => ⟨Iv, h0, fun m es' k => hc.mono es' _ _ (fun b k => ?_) (hst m es' k)⟩⟩
  · refine ⟨fun m σ' H' => ∃ es', Iv m es' ∧ Ok X.K C es' σ' H', ⟨m0, _, h0, o.forget fg⟩, ?_⟩
    rintro m σ' H' ⟨es', iv, o'⟩
    refine ⟨es', o', hc.mono es' _ _ (fun b k H1 a1 => ?_) (hst m es' iv)⟩
    cases b with
    | true =>
      refine iteT ⟨fun σ2 H2 => ∃ m', m' < m ∧ ∃ es', Iv m' es' ∧ Ok X.K C es' σ2 H2, fun σ2 H2 ⟨m', hm, q⟩ => ⟨m', hm, q⟩, es', o'.aft a1, hb.mono { endsD X.K C D with nx := fun e => ∃ m', m' < m ∧ Iv m' (wipeE e fg), ct := fun e => ∃ m', m' < m ∧ Iv m' (wipeE e fg), bk := (endsD X.K C D).nx } _ _ ⟨fun es3 ⟨m', hm, k3⟩ σ3 H3 o3 => ⟨m', hm, _, k3, o3.forget fg⟩, fun d3 k3 => k3, fun es3 k3 => k3, fun es3 ⟨m', hm, k3⟩ σ3 H3 o3 => ⟨m', hm, _, k3, o3.forget fg⟩⟩ (unT k)⟩
    | false => exact iteF (unF k σ' H1 (o'.aft a1))
  · cases b with
    | true => exact iteT (hb.mono _ _ _ (hD.loop fun _ z => z) (unT k))
    | false => exact iteF (hD.nx _ (unF k))
end

/-! ### a comprehension as an expression, as x = [..] -/
section
variable {X : Cx} {R : RS} {elt tg iter : Expr} {ifs : List Expr} {scope : Scope} {own : List (Str × Nat)} {pos spos : Pos} {wi : WA} {wt : WT} {we : WE} {t : Tg}
theorem dn_lc (hc : X.calm = true) (hN : X.N.Nodup) (hi : DIB X R tg iter wi) (ok : BlkOk X.N X.env.scope scope own) (hix : own.map (·.2) = t.ix)
    (hg : ∀ (s : Shared) (H : Hp) (C : Addr) (cl : List (Str × Addr)) (fp : List Addr), PG (X.blk s H scope (compEnvC scope cl C X.env) fp) tg (t.g X.K)) (ht : ∀ (s : Shared) (H : Hp) (C : Addr) (cl : List (Str × Addr)) (fp : List Addr), DTs (X.blk s H scope (compEnvC scope cl C X.env) fp) R ifs wt)
    (he : ∀ (s : Shared) (H : Hp) (C : Addr) (cl : List (Str × Addr)) (fp : List Addr), DE (X.blk s H scope (compEnvC scope cl C X.env) fp) R elt we) (hs : ∀ x, foldedSetIterable iter X.env x = pure x := by intro _; rfl) :
    DN X R (.ListComp elt [⟨tg, iter, ifs, 0⟩] scope pos) (wLc wi t wt we) := by
  refine ⟨fun C => PE.imp (pe_lc (own := own) (g := t.g X.K) (tt := tAnyT X.K R wt) (te := tAny X.K R we) hc hN (hi.pi C) ok hg (fun s H C cl fp => ⟨fun pins s' σ H' Q I ⟨C', q⟩ => ((ht s H C cl fp).pts C').run pins s' σ H' Q I q⟩) (fun s H C cl fp => ⟨fun pins s' σ H' Q I ⟨C', q⟩ => ((he s H C cl fp).pe C').run pins s' σ H' Q I q⟩) hs) fun σ H Q h => ?_, mono_lc hi.mono⟩
  rw [hix]
  exact lc_ok hi.mono (ht X.s_0 X.H_0 0 [] []).mono (he X.s_0 X.H_0 0 [] []).mono h
theorem ds_setLc {i : Nat} {y : Str} {py : Pos} (hc : X.calm = true) (hN : X.N.Nodup) (hi : DIB X R tg iter wi) (ok : BlkOk X.N X.env.scope scope own) (hix : own.map (·.2) = t.ix)
    (hg : ∀ (s : Shared) (H : Hp) (C : Addr) (cl : List (Str × Addr)) (fp : List Addr), PG (X.blk s H scope (compEnvC scope cl C X.env) fp) tg (t.g X.K)) (ht : ∀ (s : Shared) (H : Hp) (C : Addr) (cl : List (Str × Addr)) (fp : List Addr), DTs (X.blk s H scope (compEnvC scope cl C X.env) fp) R ifs wt)
    (he : ∀ (s : Shared) (H : Hp) (C : Addr) (cl : List (Str × Addr)) (fp : List Addr), DE (X.blk s H scope (compEnvC scope cl C X.env) fp) R elt we)
    (hsw : swapsWith (.ListComp elt [⟨tg, iter, ifs, 0⟩] scope pos) (some (.Name y py)) spos.line X.env = pure true)
    (hs : ∀ x, foldedSetIterable iter X.env x = pure x := by intro _; rfl) (hy : X.N[i]? = some y := by rfl) (hyl : X.env.scope.names.lookup y = some .local := by rfl) :
    DS X R (.Assign [.Name y py] (.ListComp elt [⟨tg, iter, ifs, 0⟩] scope pos) spos) (wsSetN i (wLc wi t wt we)) := by
  refine ⟨fun C => PSt.imp (ps_setLc (own := own) (g := t.g X.K) (tt := tAnyT X.K R wt) (te := tAny X.K R we) hc hN hy hyl hsw (hi.pi C) ok hg (fun s H C cl fp => ⟨fun pins s' σ H' Q I ⟨C', q⟩ => ((ht s H C cl fp).pts C').run pins s' σ H' Q I q⟩) (fun s H C cl fp => ⟨fun pins s' σ H' Q I ⟨C', q⟩ => ((he s H C cl fp).pe C').run pins s' σ H' Q I q⟩) hs) fun D σ H h => ?_, mono_setN (mono_lc hi.mono)⟩
  rw [hix]
  exact lc_ok (Q := fun x H1 => gName i x σ H1 D.nx) hi.mono (ht X.s_0 X.H_0 0 [] []).mono (he X.s_0 X.H_0 0 [] []).mono (setN_ok (mono_lc hi.mono) h)
/-- the list, when it is not changed -/
theorem ds_val {st : Stmt} {i : Nat} {w : WA} (m : MonoE w) (h : DS X R st (wsSetN i w)) : DS X R st (wsSet i (wL w)) :=
  ⟨fun C => PSt.imp (h.ps C) fun D σ H ⟨es, o, q⟩ => ⟨es, o, m es _ _ (fun ds k l σ' H' o' => by
    by_cases hi : i < es.length
    · have := o'.frz (i := i) (l := l) (d := .lst ds) (List.getElem?_set_self hi)
      rw [List.set_set] at this
      exact k σ' H' this
    · have e1 : es.set i (.own l (.lst ds)) = es := List.set_eq_of_length_le (by omega)
      have e2 : es.set i (.v (.lst ds)) = es := List.set_eq_of_length_le (by omega)
      rw [e1] at o'
      have k' : ∀ σ H, Ok X.K C (es.set i (.v (.lst ds))) σ H → D.nx σ H := k
      rw [e2] at k'
      exact k' σ' H' o') q⟩, mono_set fun es P P' f q => m es _ _ (fun d k => f _ k) q⟩
end
end L3

/-! L3f: defs by their bodies; built-ins; dicts. -/
namespace L3
open PySem PySem.Spec PyProof.Rows L2

/-! ### a def of the text -/
structure Df (K : PySem.W.Frag) (mg : Str → Option Value) (x : Str) (st : Stmt) (ps : List Str) : Prop where
  ex : ∃ (f : Addr) (fd : FuncData), Fun K x x st f fd ∧ mg x = some (.ref f) ∧ Binds K fd ps []
def startE (N : List Str) (ds : List Dv) : Es := ds.map .v ++ List.replicate (N.length - ds.length) .no
theorem start_addrs {N : List Str} {ds : List Dv} {s : Sl} (h : s ∈ startE N ds) : s.addrs = [] ∧ (∀ as xs, s ≠ .many as xs) ∧ ∀ xs, s ≠ .st xs := by
  unfold startE at h
  rcases List.mem_append.mp h with z | z
  · obtain ⟨d, _, rfl⟩ := List.mem_map.mp z
    exact ⟨rfl, fun _ _ => nofun, fun _ => nofun⟩
  · rw [(List.mem_replicate.mp z).2]
    exact ⟨rfl, fun _ _ => nofun, fun _ => nofun⟩
theorem owned_start {N : List Str} {ds : List Dv} : owned (startE N ds) = [] := by
  refine List.eq_nil_iff_forall_not_mem.mpr fun l hl => ?_
  obtain ⟨i, s, hi, hs⟩ := owned_get hl
  rw [(start_addrs (List.mem_of_getElem? hi)).1] at hs
  cases hs
theorem ok_start {K : PySem.W.Frag} {R : RS} {C : DC R} {N : List Str} {vs : List V} {ds : List Dv} (r : RepL K C.A0 C.H0 vs ds) (z : R.Z C.H0) (hg : C.gh = []) : Ok K C (startE N ds) (L2.start N vs) C.H0 where
  len := by
    unfold startE L2.start
    rw [List.length_append, List.length_append, List.length_map, List.length_map, List.length_replicate, List.length_replicate, r.length]
  val := fun i d h => by
    unfold startE at h
    by_cases hi : i < ds.length
    · rw [List.getElem?_append_left (by simpa using hi), List.getElem?_map] at h
      obtain ⟨d', e, q⟩ := Option.map_eq_some_iff.mp h
      cases q
      obtain ⟨x, e', q⟩ := r.get' e
      refine ⟨x, ?_, q.anti fun a z => z.elim id fun z => by rw [owned_start] at z; cases z⟩
      unfold L2.start
      rw [List.getElem?_append_left (by rw [List.length_map, r.length]; exact hi), List.getElem?_map, e']
      rfl
    · rw [List.getElem?_append_right (by simpa using hi), List.getElem?_replicate] at h
      split at h <;> cases h
  own := fun i l d h => by
    have := mem_owned h
    rw [owned_start] at this
    cases this
  many := fun i as xs h => absurd rfl ((start_addrs (List.mem_of_getElem? h)).2.1 as xs)
  fresh := fun l h => by rw [owned_start] at h; cases h
  nd := by rw [owned_start]; exact List.nodup_nil
  ext := Ext.refl _
  z := z
  gh := fun p hp => by rw [hg] at hp; cases hp
  ro := fun _ _ s => s
  stt := fun i xs h => absurd rfl ((start_addrs (List.mem_of_getElem? h)).2.2 xs)
  one := fun i j xs ys h => absurd rfl ((start_addrs (List.mem_of_getElem? h)).2.2 xs)
section
variable {P : Program} {w : World} {K : PySem.W.Frag} {mg : Str → Option Value} {base : Heap}
theorem W_len {S : FSpec} {n : Nat} (h : ∀ a, (S.enc a).length = n) {ds : List Dv} {Q : Dv → Prop} (q : S.W ds Q) : ds.length = n := by
  obtain ⟨a, e, _⟩ := q
  rw [e, h a]
/-- THE RULE: a def over a family of resources -/
theorem fn_I {I : Type} {Rf : I → RS} {Sf : I → FSpec} {x : Str} {st : Stmt} {N ps : List Str} {k : Nat} (D : Df K mg x st ps) (S : FnScope N ps (defScope st)) (hlen : ∀ i a, ((Sf i).enc a).length = ps.length)
    (hbody : ∀ (i : I) (f : Addr) (cdv : Value) (A : Around) (outer : List Env) (s : Shared) (H : Hp) (E : XK), Room k (A.deeper (envOfC x (defScope st) s.heap.objs.size f cdv)) →
      ∃ wb, DSs (cxOf CX0 P w K mg base N x (defScope st) f cdv A outer s H E).nox (Rf i) (defBody st) wb ∧
        ∀ (a : (Sf i).A) (Q : Dv → Prop), (Sf i).pre a → (∀ b, (Sf i).post a b → Q ((Sf i).val a b)) → wb ⟨fun _ => Q .non, Q, fun _ => False, fun _ => False⟩ (startE N ((Sf i).enc a)))
    (hro : ∀ i, (Rf i).ro = true := by intros; rfl) : Cl P w K mg base (k + 1) x (spI K Rf Sf) := by
  obtain ⟨f, fd, F, hm, hb⟩ := D.ex
  refine ⟨f, fd, ps, F.ok S (fun vs H Q E h => ?_) (fun cdv A outer s H vs Q E hr h => ?_), hm, F.kp, hb⟩
  · obtain ⟨i, Av, ds, r, _, _, _, q⟩ := h
    rw [r.length]
    exact W_len (hlen i) q
  · obtain ⟨i, Av, ds, r, live, hF, z, a, e, pre, q⟩ := h
    subst e
    obtain ⟨wb, hd, hw⟩ := hbody i f cdv A outer s H E hr
    refine ⟨_, hd.pss ⟨Av, H, [], hF, live⟩, startE N ((Sf i).enc a), ok_start (C := ⟨Av, H, [], hF, live⟩) r z rfl, hd.mono ⟨fun _ => ∀ v H', Aft (Rf i) H H' → Rep K Av H' v .non → Q v H', fun d => ∀ v H', Aft (Rf i) H H' → Rep K Av H' v d → Q v H', fun _ => False, fun _ => False⟩ _ _ ⟨fun es k σ H' o => ?_, fun d k v H' e z r => ?_, fun es k => k.elim, fun es k => k.elim⟩ (hw a (fun d => ∀ v H', Aft (Rf i) H H' → Rep K Av H' v d → Q v H') pre q)⟩
    · exact k .non H' ⟨o.ext, o.z, o.ro (hro i)⟩ .non
    · exact k v H' ⟨e, z, (r.1 (hro i)).2⟩ (r.1 (hro i)).1
/-- .. a pure one -/
theorem fn_P {S' : FSpec} {x : Str} {st : Stmt} {N ps : List Str} {k : Nat} (D : Df K mg x st ps) (S : FnScope N ps (defScope st)) (hlen : ∀ a, (S'.enc a).length = ps.length)
    (hbody : ∀ (f : Addr) (cdv : Value) (A : Around) (outer : List Env) (s : Shared) (H : Hp) (E : XK), Room k (A.deeper (envOfC x (defScope st) s.heap.objs.size f cdv)) →
      ∃ wb, DSs (cxOf CX0 P w K mg base N x (defScope st) f cdv A outer s H E).nox R0 (defBody st) wb ∧
        ∀ (a : S'.A) (Q : Dv → Prop), S'.pre a → (∀ b, S'.post a b → Q (S'.val a b)) → wb ⟨fun _ => Q .non, Q, fun _ => False, fun _ => False⟩ (startE N (S'.enc a))) :
    Cl P w K mg base (k + 1) x (spP K S') := by
  obtain ⟨f, fd, ps', F, hm, hk, hb⟩ := fn_I (Rf := fun _ : Unit => R0) (Sf := fun _ => S') D S (fun _ => hlen) (fun _ => hbody)
  exact ⟨f, fd, ps', F.imp fun vs H Q E h => ⟨(), h⟩, hm, hk, hb⟩
end

/-! ### built-ins, by values -/
structure SemCall (X : Cx) (R : RS) (f : Value) (rd : List Dv → (Dv → Prop) → Prop) : Prop where
  ex : ∃ r, CallR X f r ∧ ∀ (C : DC R) (es : Es) (σ : L2.St) (H : Hp) (vs : List V) (ds : List Dv) (Q : VK), Ok X.K C es σ H → Paired (RepB X.K C es H) vs ds →
    rd ds (fun z => ∀ v H', Aft R H H' → Rep X.K (C.Av es) H' v z → Q v H') → r vs H Q
  mono : ∀ ds (P P' : Dv → Prop), (∀ z, P z → P' z) → rd ds P → rd ds P'
def wBi (rd : List Dv → (Dv → Prop) → Prop) (wa : WA) : WE := fun es Q => wa es fun ds => rd ds Q
section
variable {X : Cx} {R : RS} {e a b c : Expr} {es' : List Expr} {w wa wb : WE} {wt wn : WA} {pos p : Pos} {x : Str} {rd : List Dv → (Dv → Prop) → Prop}
theorem bi_ok {K : PySem.W.Frag} {C : DC R} {r : List V → Hp → VK → Prop} {σ : L2.St} {H : Hp} {Q : VK} (m : MonoE wt) (mr : ∀ ds (P P' : Dv → Prop), (∀ z, P z → P' z) → rd ds P → rd ds P')
    (imp : ∀ (C : DC R) (es : Es) (σ : L2.St) (H : Hp) (vs : List V) (ds : List Dv) (Q : VK), Ok K C es σ H → Paired (RepB K C es H) vs ds → rd ds (fun z => ∀ v H', Aft R H H' → Rep K (C.Av es) H' v z → Q v H') → r vs H Q)
    (h : liftE K C (wBi rd wt) σ H Q) : tCB r (liftAB K C wt) σ H Q := by
  obtain ⟨es, o, q⟩ := h
  exact ⟨es, o, m es _ _ (fun ds k vs H1 a1 r1 => imp C es σ H1 vs ds Q (o.aft a1) r1 (mr ds _ _ (fun z k v H' a' r => k v H' (a1.trans a') r) k)) q⟩
theorem de_bi {id : String} (S : SemCall X R (.builtin id) rd) (hv : bootBuiltins x = some (.builtin id)) (hg : Gl X x) (hm : X.mg x = none) (ha : DAB X R (e :: es') wt) (hn : x ≠ "__name__" := by decide) (hdb : (x == ("__debug__" : Str)) = false := by decide)
    (he : starEach (e :: es') X.env = (false, eval e X.env) :: starEach es' X.env := by rfl) (hpl : (backTo pos (starEach es' X.env)).any (·.1) = false := by rfl) : DE X R (.Call (.Name x p) (e :: es') [] pos) (wBi rd wt) := by
  refine ⟨fun C => ?_, fun es P P' f q => ha.mono es _ _ (fun ds k => S.mono ds _ _ f k) q⟩
  obtain ⟨r, hr, imp⟩ := S.ex
  exact PE.imp (pe_callB hr hg hm hv (ha.pa C) hn hdb he hpl) fun σ H Q h => bi_ok ha.mono S.mono imp h
theorem de_ty {T : String} (S : SemCall X R (.type T) rd) (hv : bootBuiltins x = some (.type T)) (hg : Gl X x) (hm : X.mg x = none) (ha : DAB X R (e :: es') wt) (hn : x ≠ "__name__" := by decide) (hdb : (x == ("__debug__" : Str)) = false := by decide)
    (he : starEach (e :: es') X.env = (false, eval e X.env) :: starEach es' X.env := by rfl) (hpl : (backTo pos (starEach es' X.env)).any (·.1) = false := by rfl) : DE X R (.Call (.Name x p) (e :: es') [] pos) (wBi rd wt) := by
  refine ⟨fun C => ?_, fun es P P' f q => ha.mono es _ _ (fun ds k => S.mono ds _ _ f k) q⟩
  obtain ⟨r, hr, imp⟩ := S.ex
  exact PE.imp (pe_callTy hr hg hm hv (ha.pa C) hn hdb he hpl) fun σ H Q h => bi_ok ha.mono S.mono imp h
theorem CallR.or {f : Value} {r r' : List V → Hp → VK → Prop} (h : CallR X f r) (h' : CallR X f r') : CallR X f (fun xs H Q => r xs H Q ∨ r' xs H Q) := by
  intro pins s σ H xs us Q I rs q
  rcases q with q | q
  · exact h pins s σ H xs us Q I rs q
  · exact h' pins s σ H xs us Q I rs q
/-- len -/
def lenD : Dv → Option Nat
  | .lst ds => some ds.length
  | .tup ds => some ds.length
  | .scr ns => some ns.length
  | .str z => some z.length
  | _ => none
def lenC : Dv → Prop
  | .str z => z.length ≤ 100000
  | _ => True
def rdLen : List Dv → (Dv → Prop) → Prop := fun ds Q => ∃ x n, ds = [x] ∧ lenD x = some n ∧ lenC x ∧ Q (.int (n : Nat))
theorem sem_len : SemCall X R (.builtin "len") rdLen := by
  refine ⟨⟨_, call_len, fun C es σ H vs ds Q o r ⟨x, n, e, h, hc, q⟩ => ?_⟩, fun ds P P' f ⟨x, n, e, h, hc, q⟩ => ⟨x, n, e, h, hc, f _ q⟩⟩
  subst e
  cases r with
  | cons r rr =>
    cases rr
    refine ⟨_, n, rfl, ?_, q _ H o.here (.int _)⟩
    unfold lenD at h
    split at h
    · obtain ⟨a, xs, e1, h1, r1⟩ := r.lst
      cases h
      subst e1
      exact .inl ⟨xs, .inl h1, r1.length.symm⟩
    · obtain ⟨a, xs, e1, h1, r1⟩ := r.tup
      cases h
      subst e1
      exact .inr ⟨xs, h1, r1.length.symm⟩
    · obtain ⟨a, e1, h1⟩ := r.scr
      cases h
      subst e1
      exact .inl ⟨_, h1, by rw [List.length_map]⟩
    · cases h
      have := r.str
      subst this
      exact ⟨sz5 hc, rfl⟩
    · cases h
theorem de_len (hm : X.mg "len" = none) (ha : DAB X R [e] wt) (hg : Gl X "len" := by rfl) (he : starEach [e] X.env = (false, eval e X.env) :: starEach [] X.env := by rfl) (hpl : (backTo pos (starEach [] X.env)).any (·.1) = false := by rfl) :
    DE X R (.Call (.Name "len" p) [e] [] pos) (wBi rdLen wt) := de_bi sem_len PySem.boot_len hg hm ha (he := he) (hpl := hpl)
/-- one int, two ints -/
def rd1I (f : Int → Int) : List Dv → (Dv → Prop) → Prop := fun ds Q => ∃ i, ds = [.int i] ∧ Q (.int (f i))
def rd2I (f : Int → Int → Int) : List Dv → (Dv → Prop) → Prop := fun ds Q => ∃ i j, ds = [.int i, .int j] ∧ Q (.int (f i j))
theorem sem_abs : SemCall X R (.builtin "abs") (rd1I fun i => if i < 0 then -i else i) := by
  refine ⟨⟨_, call_abs, fun C es σ H vs ds Q o r ⟨i, e, q⟩ => ?_⟩, fun ds P P' f ⟨i, e, q⟩ => ⟨i, e, f _ q⟩⟩
  subst e
  cases r with
  | cons r rr => cases rr; have := r.int; subst this; exact ⟨i, rfl, q _ H o.here (.int _)⟩
theorem sem2 {id : String} {f : Int → Int → Int} (h : CallR X (.builtin id) (fun xs H Q => ∃ i j, xs = [.int i, .int j] ∧ Q (.int (f i j)) H)) : SemCall X R (.builtin id) (rd2I f) := by
  refine ⟨⟨_, h, fun C es σ H vs ds Q o r ⟨i, j, e, q⟩ => ?_⟩, fun ds P P' f ⟨i, j, e, q⟩ => ⟨i, j, e, f _ q⟩⟩
  subst e
  cases r with
  | cons r rr =>
    cases rr with
    | cons r' rr => cases rr; have h1 := r.int; have h2 := r'.int; subst h1 h2; exact ⟨i, j, rfl, q _ H o.here (.int _)⟩
theorem de_abs (hm : X.mg "abs" = none) (ha : DAB X R [e] wt) (hg : Gl X "abs" := by rfl) (he : starEach [e] X.env = (false, eval e X.env) :: starEach [] X.env := by rfl) (hpl : (backTo pos (starEach [] X.env)).any (·.1) = false := by rfl) :
    DE X R (.Call (.Name "abs" p) [e] [] pos) (wBi (rd1I fun i => if i < 0 then -i else i) wt) := de_bi sem_abs boot_abs hg hm ha (he := he) (hpl := hpl)
theorem de_max2 (hc : X.calm = true) (hm : X.mg "max" = none) (ha : DAB X R [a, b] wt) (hg : Gl X "max" := by rfl) (he : starEach [a, b] X.env = (false, eval a X.env) :: starEach [b] X.env := by rfl) (hpl : (backTo pos (starEach [b] X.env)).any (·.1) = false := by rfl) :
    DE X R (.Call (.Name "max" p) [a, b] [] pos) (wBi (rd2I fun i j => if j > i then j else i) wt) := de_bi (sem2 (call_max2 hc)) boot_max hg hm ha (he := he) (hpl := hpl)
theorem de_min2 (hc : X.calm = true) (hm : X.mg "min" = none) (ha : DAB X R [a, b] wt) (hg : Gl X "min" := by rfl) (he : starEach [a, b] X.env = (false, eval a X.env) :: starEach [b] X.env := by rfl) (hpl : (backTo pos (starEach [b] X.env)).any (·.1) = false := by rfl) :
    DE X R (.Call (.Name "min" p) [a, b] [] pos) (wBi (rd2I fun i j => if j < i then j else i) wt) := de_bi (sem2 (call_min2 hc)) boot_min hg hm ha (he := he) (hpl := hpl)
/-- int(n), int(a bool) -/
def rdInt : List Dv → (Dv → Prop) → Prop := fun ds Q => (∃ i, ds = [.int i] ∧ Q (.int i)) ∨ ∃ k, ds = [.bl k] ∧ Q (.int (if k = true then 1 else 0))
theorem sem_int : SemCall X R (.type "int") rdInt := by
  refine ⟨⟨_, call_int1, fun C es σ H vs ds Q o r h => ?_⟩, fun ds P P' f h => h.imp (fun ⟨i, e, q⟩ => ⟨i, e, f _ q⟩) fun ⟨i, e, q⟩ => ⟨i, e, f _ q⟩⟩
  rcases h with ⟨i, e, q⟩ | ⟨k, e, q⟩
  · subst e
    cases r with
    | cons r rr => cases rr; have := r.int; subst this; exact .inl ⟨i, rfl, q _ H o.here (.int _)⟩
  · subst e
    cases r with
    | cons r rr => cases rr; have := r.bl; subst this; exact .inr ⟨k, rfl, q _ H o.here (.int _)⟩
theorem de_intB (hm : X.mg "int" = none) (ha : DAB X R [e] wt) (hg : Gl X "int" := by rfl) (he : starEach [e] X.env = (false, eval e X.env) :: starEach [] X.env := by rfl) (hpl : (backTo pos (starEach [] X.env)).any (·.1) = false := by rfl) :
    DE X R (.Call (.Name "int" p) [e] [] pos) (wBi rdInt wt) := de_ty sem_int boot_int hg hm ha (he := he) (hpl := hpl)
/-- str(n) -/
def rdStr : List Dv → (Dv → Prop) → Prop := fun ds Q => ∃ i : Int, ds = [.int i] ∧ i.natAbs.log2 < 1920 ∧ Q (.str (toString i))
theorem sem_str : SemCall X R (.type "str") rdStr := by
  refine ⟨⟨_, call_str_int, fun C es σ H vs ds Q o r ⟨i, e, hl, q⟩ => ?_⟩, fun ds P P' f ⟨i, e, hl, q⟩ => ⟨i, e, hl, f _ q⟩⟩
  subst e
  cases r with
  | cons r rr => cases rr; have := r.int; subst this; exact ⟨i, rfl, hl, q _ H o.here (.str _)⟩
theorem de_strI (hm : X.mg "str" = none) (ha : DAB X R [e] wt) (hg : Gl X "str" := by rfl) (he : starEach [e] X.env = (false, eval e X.env) :: starEach [] X.env := by rfl) (hpl : (backTo pos (starEach [] X.env)).any (·.1) = false := by rfl) :
    DE X R (.Call (.Name "str" p) [e] [] pos) (wBi rdStr wt) := de_ty sem_str boot_str hg hm ha (he := he) (hpl := hpl)
/-- tuple(a list), tuple(a tuple) -/
def seqD : Dv → Option (List Dv)
  | .lst ds => some ds
  | .tup ds => some ds
  | .scr ns => some (ns.map .int)
  | _ => none
def rdTuple : List Dv → (Dv → Prop) → Prop := fun ds Q => ∃ x xs, ds = [x] ∧ seqD x = some xs ∧ Q (.tup xs)
theorem seq_of {K : PySem.W.Frag} {C : DC R} {es : Es} {H : Hp} {v : V} {x : Dv} {ds : List Dv} (r : RepB K C es H v x) (h : seqD x = some ds) : ∃ p xs, v = .ref p ∧ (SqL K H p xs ∨ SqT K H p xs) ∧ RepL K (C.Av es) H xs ds ∧ (∀ q, x = .tup q → SqT K H p xs) ∧ ((∀ q, x ≠ .tup q) → SqL K H p xs) := by
  unfold seqD at h
  split at h
  · obtain ⟨a, xs, e1, h1, r1⟩ := r.lst
    cases h
    exact ⟨a, xs, e1, .inl (.inl h1), r1, (fun q z => nomatch z), fun _ => .inl h1⟩
  · obtain ⟨a, xs, e1, h1, r1⟩ := r.tup
    cases h
    exact ⟨a, xs, e1, .inr h1, r1, (fun q z => h1), fun z => (z _ rfl).elim⟩
  · obtain ⟨a, e1, h1⟩ := r.scr
    cases h
    exact ⟨a, _, e1, .inl h1, RepL.of_ints _, (fun q z => nomatch z), fun _ => h1⟩
  · cases h
theorem sem_tuple : SemCall X R (.type "tuple") rdTuple := by
  refine ⟨⟨_, call_tuple_of, fun C es σ H vs ds Q o r ⟨x, xs, e, h, q⟩ => ?_⟩, fun ds P P' f ⟨x, xs, e, h, q⟩ => ⟨x, xs, e, h, f _ q⟩⟩
  subst e
  cases r with
  | cons r rr =>
    cases rr
    obtain ⟨p, ys, e1, _, r1, hT, hL⟩ := seq_of r h
    subst e1
    by_cases z : ∃ q, x = .tup q
    · obtain ⟨q', z⟩ := z
      have h2 := hT q' z
      exact ⟨p, ys, rfl, .inr ⟨h2, q _ H o.here (.tup h2 r1)⟩⟩
    · exact ⟨p, ys, rfl, .inl ⟨hL fun q z' => z ⟨q, z'⟩, new_tup o r1 q⟩⟩
theorem de_tupleOf (hm : X.mg "tuple" = none) (ha : DAB X R [e] wt) (hg : Gl X "tuple" := by rfl) (he : starEach [e] X.env = (false, eval e X.env) :: starEach [] X.env := by rfl) (hpl : (backTo pos (starEach [] X.env)).any (·.1) = false := by rfl) :
    DE X R (.Call (.Name "tuple" p) [e] [] pos) (wBi rdTuple wt) := de_ty sem_tuple boot_tuple hg hm ha (he := he) (hpl := hpl)
/-- list(..): a new one -/
theorem dn_list (hm : X.mg "list" = none) (ha : DB X R e w) (hg : Gl X "list" := by rfl) (he : starEach [e] X.env = (false, eval e X.env) :: starEach [] X.env := by rfl) (hpl : (backTo pos (starEach [] X.env)).any (·.1) = false := by rfl) :
    DN X R (.Call (.Name "list" p) [e] [] pos) (fun es Q => w es fun x => ∃ xs, seqD x = some xs ∧ Q xs) := by
  refine ⟨fun C => PE.imp (pe_callTy call_list_of hg hm boot_list (pa_cons (ha.pe C) pa_nil he) (by decide) (by decide) he hpl) fun σ H Q ⟨es, o, q⟩ => ⟨es, o, ha.mono es _ _ (fun d ⟨xs, h, k⟩ v H1 a1 r1 => ?_) q⟩, fun es P P' f q => ha.mono es _ _ (fun d ⟨xs, h, k⟩ => ⟨xs, h, f _ k⟩) q⟩
  obtain ⟨p, ys, e1, hs, rr, _, _⟩ := seq_of r1 h
  subst e1
  refine ⟨p, ys, rfl, hs, fun l hl => ?_⟩
  have a2 := (o.aft a1).aft_new (u := .lst ys) hl
  exact k _ _ (a1.trans a2) ⟨a1.ext.live _ hl, _, upd_same, (rr.more (Av' := fun b => C.Av es b ∨ b = l) fun b z => z.imp id fun z => z ▸ hl).ext (F := R.F) (fun b f => .inl (C.avF es b f)) a2.ext⟩
/-- sum of ints -/
theorem cr_sumT (hc : X.calm = true) : CallR X (.builtin "sum") (fun vs H Q => ∃ (a : Addr) (ns : List Int), vs = [V.ref a] ∧ SqT X.K H a (ns.map V.int) ∧ Q (.int ns.sum) H) := by
  intro pins s σ H vs us Q I r h
  obtain ⟨a, ns, rfl, hs, q⟩ := h
  obtain ⟨its, rv, ht, _⟩ := I.tuple hs
  rw [Vals.ref1 r]
  have hi := rv.ints
  obtain ⟨xs, hx⟩ := hi.allInts.items
  have hn : numsOf its.toArray.toList = ns := by rw [show its.toArray.toList = its from rfl, hi.numsOf]
  have ht' : s.heap.IsTuple a its.toArray := ht
  rw [hx] at ht' hn
  rw [nums_intItems] at hn
  refine PySem.W.ktm_sumG (I.ok.hd hc) ht' fun h' tk t' hk => ?_
  rw [preSum_eq, List.take_of_length_le (by simp), hn]
  exact ⟨.int _, H, I.kept hk, ⟨_, rfl⟩, q⟩
def rdSum : List Dv → (Dv → Prop) → Prop := fun ds Q => ∃ (x : Dv) (ns : List Int), ds = [x] ∧ seqD x = some (ns.map Dv.int) ∧ Q (.int ns.sum)
theorem sem_sum (hc : X.calm = true) : SemCall X R (.builtin "sum") rdSum := by
  refine ⟨⟨_, CallR.or (cr_sum hc) (cr_sumT hc), fun C es σ H vs ds Q o r ⟨x, ns, e, h, q⟩ => ?_⟩, fun ds P P' f ⟨x, ns, e, h, q⟩ => ⟨x, ns, e, h, f _ q⟩⟩
  subst e
  cases r with
  | cons r rr =>
    cases rr
    obtain ⟨p, ys, e1, hs, r1, _, _⟩ := seq_of r h
    subst e1
    have := r1.ints
    subst this
    rcases hs with hs | hs
    · exact .inl ⟨p, ns, rfl, hs, q _ H o.here (.int _)⟩
    · exact .inr ⟨p, ns, rfl, hs, q _ H o.here (.int _)⟩
theorem de_sum (hc : X.calm = true) (hm : X.mg "sum" = none) (ha : DAB X R [e] wt) (hg : Gl X "sum" := by rfl) (he : starEach [e] X.env = (false, eval e X.env) :: starEach [] X.env := by rfl) (hpl : (backTo pos (starEach [] X.env)).any (·.1) = false := by rfl) :
    DE X R (.Call (.Name "sum" p) [e] [] pos) (wBi rdSum wt) := de_bi (sem_sum hc) boot_sum hg hm ha (he := he) (hpl := hpl)
/-- max, min of a list of ints -/
def rdMax : List Dv → (Dv → Prop) → Prop := fun ds Q => ∃ ns : List Int, ds = [.lst (ns.map Dv.int)] ∧ 0 < ns.length ∧ ∀ m, m ∈ ns → (∀ y, y ∈ ns → y ≤ m) → Q (.int m)
def rdMin : List Dv → (Dv → Prop) → Prop := fun ds Q => ∃ ns : List Int, ds = [.lst (ns.map Dv.int)] ∧ 0 < ns.length ∧ ∀ m, m ∈ ns → (∀ y, y ∈ ns → m ≤ y) → Q (.int m)
theorem sem_max (hc : X.calm = true) : SemCall X R (.builtin "max") rdMax := by
  refine ⟨⟨_, cr_max hc, fun C es σ H vs ds Q o r ⟨ns, e, hl, q⟩ => ?_⟩, fun ds P P' f ⟨ns, e, hl, q⟩ => ⟨ns, e, hl, fun m h1 h2 => f _ (q m h1 h2)⟩⟩
  subst e
  cases r with
  | cons r rr =>
    cases rr
    obtain ⟨p, ys, e1, hs, r1⟩ := r.lst
    subst e1
    have := r1.ints
    subst this
    exact ⟨p, ns, rfl, .inl hs, hl, fun m h1 h2 => q m h1 h2 _ H o.here (.int _)⟩
theorem sem_min (hc : X.calm = true) : SemCall X R (.builtin "min") rdMin := by
  refine ⟨⟨_, cr_min hc, fun C es σ H vs ds Q o r ⟨ns, e, hl, q⟩ => ?_⟩, fun ds P P' f ⟨ns, e, hl, q⟩ => ⟨ns, e, hl, fun m h1 h2 => f _ (q m h1 h2)⟩⟩
  subst e
  cases r with
  | cons r rr =>
    cases rr
    obtain ⟨p, ys, e1, hs, r1⟩ := r.lst
    subst e1
    have := r1.ints
    subst this
    exact ⟨p, ns, rfl, .inl hs, hl, fun m h1 h2 => q m h1 h2 _ H o.here (.int _)⟩
theorem de_maxL (hc : X.calm = true) (hm : X.mg "max" = none) (ha : DAB X R [e] wt) (hg : Gl X "max" := by rfl) (he : starEach [e] X.env = (false, eval e X.env) :: starEach [] X.env := by rfl) (hpl : (backTo pos (starEach [] X.env)).any (·.1) = false := by rfl) :
    DE X R (.Call (.Name "max" p) [e] [] pos) (wBi rdMax wt) := de_bi (sem_max hc) boot_max hg hm ha (he := he) (hpl := hpl)
theorem de_minL (hc : X.calm = true) (hm : X.mg "min" = none) (ha : DAB X R [e] wt) (hg : Gl X "min" := by rfl) (he : starEach [e] X.env = (false, eval e X.env) :: starEach [] X.env := by rfl) (hpl : (backTo pos (starEach [] X.env)).any (·.1) = false := by rfl) :
    DE X R (.Call (.Name "min" p) [e] [] pos) (wBi rdMin wt) := de_bi (sem_min hc) boot_min hg hm ha (he := he) (hpl := hpl)
/-- isinstance -/
def tyD : Dv → Option String
  | .non => some "NoneType"
  | .bl _ => some "bool"
  | .int _ => some "int"
  | .str _ => some "str"
  | .tup _ => some "tuple"
  | .lst _ => some "list"
  | _ => none
def isiS (t T : String) : Bool := t == T || (t == "bool" && T == "int")
theorem kit_all : (["NoneType", "bool", "int", "str", "tuple", "list"].all fun t => ["bool", "int", "str", "tuple", "list"].all fun T => kitB t T == some (isiS t T)) = true := by decide +kernel
theorem kit_one {t T : String} (ht : t ∈ ["NoneType", "bool", "int", "str", "tuple", "list"]) (hT : T ∈ ["bool", "int", "str", "tuple", "list"]) : kitB t T = some (isiS t T) :=
  eq_of_beq (List.all_eq_true.mp (List.all_eq_true.mp kit_all t ht) T hT)
theorem ty_mem {d : Dv} {t : String} (h : tyD d = some t) : t ∈ ["NoneType", "bool", "int", "str", "tuple", "list"] := by
  unfold tyD at h
  split at h <;> first | (cases h; decide) | cases h
theorem sqT_ty {K : PySem.W.Frag} {H : Hp} {a : Addr} {xs : List V} (h : SqT K H a xs) : TyX K H (.ref a) (.type "tuple") := by
  rcases h with (h | ⟨o, h⟩) | ⟨o, its, n, h, c, _⟩
  · exact .base (.tup h)
  · exact .fTuple h
  · exact .kTuple h c
theorem ty_of {K : PySem.W.Frag} {C : DC R} {es : Es} {H : Hp} {v : V} {d : Dv} {t : String} (r : RepB K C es H v d) (h : tyD d = some t) : TyX K H v (.type t) := by
  unfold tyD at h
  split at h <;> cases h
  · rw [r.non]; exact .base .non
  · rw [r.bl]; exact .base (.bl _)
  · rw [r.int]; exact .base (.int _)
  · rw [r.str]; exact .base (.str _)
  · obtain ⟨a, xs, e1, h1, r1⟩ := r.tup
    rw [e1]; exact sqT_ty h1
  · obtain ⟨a, xs, e1, h1, r1⟩ := r.lst
    rw [e1]
    rcases h1 with h1 | ⟨o, h1⟩
    · exact .base (.lst h1)
    · exact .base (.frz h1)
def wIsi (T : String) (w : WE) : WE := fun es Q => w es fun x => ∃ t, tyD x = some t ∧ Q (.bl (isiS t T))
theorem de_isi {y : Str} {T : String} {py : Pos} (hm : X.mg "isinstance" = none) (hmy : X.mg y = none) (hvy : bootBuiltins y = some (.type T)) (hT : T ∈ ["bool", "int", "str", "tuple", "list"]) (ha : DB X R e w) (hg : Gl X "isinstance" := by rfl) (hgy : Gl X y := by rfl) (hny : y ≠ "__name__" := by decide) (hdy : (y == ("__debug__" : Str)) = false := by decide)
    (he : starEach [e, .Name y py] X.env = (false, eval e X.env) :: starEach [.Name y py] X.env := by rfl) (he2 : starEach [.Name y py] X.env = (false, eval (.Name y py) X.env) :: starEach [] X.env := by rfl) (hpl : (backTo pos (starEach [.Name y py] X.env)).any (·.1) = false := by rfl) :
    DE X R (.Call (.Name "isinstance" p) [e, .Name y py] [] pos) (wIsi T w) := by
  refine ⟨fun C => PE.imp (pe_callB call_isi hg hm boot_isinstance (pa_cons (ha.pe C) (pa_cons (pe_bltn (v := .ty T) hgy hmy hvy rfl hny hdy) pa_nil he2) he) (by decide) (by decide) he hpl) fun σ H Q ⟨es, o, q⟩ => ⟨es, o, ha.mono es _ _ (fun d ⟨t, h, k⟩ v H1 a1 r1 => ?_) q⟩,
    fun es P P' f q => ha.mono es _ _ (fun d ⟨t, h, k⟩ => ⟨t, h, f _ k⟩) q⟩
  exact ⟨v, .ty T, .type t, .type T, _, rfl, .ty T, ty_of r1 h, kit_ty (kit_one (ty_mem h) hT), k _ H1 a1 (.bl _)⟩
/-- isinstance(x, (T, U)) -/
def wIsi2 (T U : String) (w : WE) : WE := fun es Q => w es fun x => ∃ t, tyD x = some t ∧ Q (.bl (isiS t T || isiS t U))
theorem de_isi2 {y z : Str} {T U : String} {py pz pt : Pos} {kt : Nat} (hm : X.mg "isinstance" = none) (hmy : X.mg y = none) (hvy : bootBuiltins y = some (.type T)) (hT : T ∈ ["bool", "int", "str", "tuple", "list"]) (hmz : X.mg z = none) (hvz : bootBuiltins z = some (.type U)) (hU : U ∈ ["bool", "int", "str", "tuple", "list"]) (ha : DB X R e w)
    (hg : Gl X "isinstance" := by rfl) (hgy : Gl X y := by rfl) (hny : y ≠ "__name__" := by decide) (hdy : (y == ("__debug__" : Str)) = false := by decide) (hgz : Gl X z := by rfl) (hnz : z ≠ "__name__" := by decide) (hdz : (z == ("__debug__" : Str)) = false := by decide)
    (he : starEach [e, .Tuple [.Name y py, .Name z pz] kt pt] X.env = (false, eval e X.env) :: starEach [.Tuple [.Name y py, .Name z pz] kt pt] X.env := by rfl) (he2 : starEach [.Tuple [.Name y py, .Name z pz] kt pt] X.env = (false, eval (.Tuple [.Name y py, .Name z pz] kt pt) X.env) :: starEach [] X.env := by rfl)
    (he3 : starEach [.Name y py, .Name z pz] X.env = (false, eval (.Name y py) X.env) :: starEach [.Name z pz] X.env := by rfl) (he4 : starEach [.Name z pz] X.env = (false, eval (.Name z pz) X.env) :: starEach [] X.env := by rfl)
    (hpl : (backTo pos (starEach [.Tuple [.Name y py, .Name z pz] kt pt] X.env)).any (·.1) = false := by rfl) : DE X R (.Call (.Name "isinstance" p) [e, .Tuple [.Name y py, .Name z pz] kt pt] [] pos) (wIsi2 T U w) := by
  refine ⟨fun C => PE.imp (pe_callB call_isiT hg hm boot_isinstance (pa_cons (ha.pe C) (pa_cons (pe_tup (pa_cons (pe_bltn (v := .ty T) hgy hmy hvy rfl hny hdy) (pa_cons (pe_bltn (v := .ty U) hgz hmz hvz rfl hnz hdz) pa_nil he4) he3)) pa_nil he2) he) (by decide) (by decide) he hpl) fun σ H Q ⟨es, o, q⟩ => ⟨es, o, ha.mono es _ _ (fun d ⟨t, h, k⟩ v H1 a1 r1 => ?_) q⟩,
    fun es P P' f q => ha.mono es _ _ (fun d ⟨t, h, k⟩ => ⟨t, h, f _ k⟩) q⟩
  refine ⟨(by show 2 ≤ sizeLine; decide), fun tp hp => ?_⟩
  have o1 := o.aft a1
  have a2 := o1.aft_new (u := .tup [.ty T, .ty U]) hp
  refine ⟨v, tp, [.ty T, .ty U], .type t, [.type T, .type U], _, rfl, upd_same, .cons (.ty T) (.cons (.ty U) .nil), ty_of (r1.aft o1 a2) h, ?_, k _ _ (a1.trans a2) (.bl _)⟩
  refine kitAny_cons (kit_ty (kit_one (ty_mem h) hT)) (fun e1 => kitAny_cons (kit_ty (kit_one (ty_mem h) hU)) (fun e2 => ?_) (fun e2 => ?_)) (fun e1 => ?_)
  · rw [e1, e2]; exact kitAny_nil
  · rw [e1, e2]; rfl
  · rw [e1]; rfl
end

/-! ### dicts -/
abbrev kD : Key → Dv
  | .inl i => .int i
  | .inr x => .str x
def dKof (kvs : List (Key × Dv)) : Dv := .dK (kvs.map (·.1)) (kvs.map (·.2))
def valD {κ : Type} [DecidableEq κ] (kvs : List (κ × Dv)) (k : κ) : Option Dv := (kvs.find? fun kv => decide (kv.1 = k)).map (·.2)
def putD {κ : Type} [DecidableEq κ] (kvs : List (κ × Dv)) (k : κ) (v : Dv) : List (κ × Dv) :=
  if (kvs.any fun kv => decide (kv.1 = k)) = true then kvs.map (fun kv => if kv.1 = k then (kv.1, v) else kv) else kvs ++ [(k, v)]
section
variable {κ : Type} [DecidableEq κ] {K : PySem.W.Frag} {Av : Addr → Prop} {H : Hp}
theorem val_rel : ∀ {kvs : List (κ × V)} {ds : List (κ × Dv)} (k : κ), kvs.map (·.1) = ds.map (·.1) → RepL K Av H (kvs.map (·.2)) (ds.map (·.2)) → (∀ d, valD ds k = some d → ∃ v, valV kvs k = some v ∧ Rep K Av H v d) ∧ (valD ds k = none → valV kvs k = none)
  | [], [], k, _, _ => ⟨(fun d h => nomatch h), fun _ => rfl⟩
  | [], d :: ds, k, e, _ => nomatch e
  | p :: kvs, [], k, e, _ => nomatch e
  | (k1, v1) :: kvs, (k2, d2) :: ds, k, e, r => by
    have e1 : k1 = k2 := (List.cons.inj e).1
    have e2 : kvs.map (·.1) = ds.map (·.1) := (List.cons.inj e).2
    subst e1
    have r1 : Rep K Av H v1 d2 ∧ RepL K Av H (kvs.map (·.2)) (ds.map (·.2)) := by
      cases r with
      | cons q r => exact ⟨q, r⟩
    have ih := val_rel (kvs := kvs) (ds := ds) k e2 r1.2
    by_cases z : k1 = k
    · rw [valV_pos (p := (k1, v1)) z]
      have : valD ((k1, d2) :: ds) k = some d2 := by simp [valD, List.find?_cons, z]
      rw [this]
      exact ⟨(fun d h => by cases h; exact ⟨v1, rfl, r1.1⟩), fun h => nomatch h⟩
    · rw [valV_neg (p := (k1, v1)) z]
      have : valD ((k1, d2) :: ds) k = valD ds k := by simp [valD, List.find?_cons, z]
      rw [this]
      exact ih
theorem any_rel : ∀ {kvs : List (κ × V)} {ds : List (κ × Dv)} (k : κ), kvs.map (·.1) = ds.map (·.1) → (kvs.any fun kv => decide (kv.1 = k)) = (ds.any fun kv => decide (kv.1 = k))
  | [], [], k, _ => rfl
  | [], d :: ds, k, e => nomatch e
  | p :: kvs, [], k, e => nomatch e
  | (k1, v1) :: kvs, (k2, d2) :: ds, k, e => by
    have e1 : k1 = k2 := (List.cons.inj e).1
    have e2 : kvs.map (·.1) = ds.map (·.1) := (List.cons.inj e).2
    subst e1
    rw [List.any_cons, List.any_cons, any_rel k e2]
theorem map_rel {v : V} {d : Dv} (q : Rep K Av H v d) : ∀ {kvs : List (κ × V)} {ds : List (κ × Dv)} (k : κ), kvs.map (·.1) = ds.map (·.1) → RepL K Av H (kvs.map (·.2)) (ds.map (·.2)) →
    (kvs.map fun kv => if kv.1 = k then (kv.1, v) else kv).map (·.1) = (ds.map fun kv => if kv.1 = k then (kv.1, d) else kv).map (·.1) ∧ RepL K Av H ((kvs.map fun kv => if kv.1 = k then (kv.1, v) else kv).map (·.2)) ((ds.map fun kv => if kv.1 = k then (kv.1, d) else kv).map (·.2))
  | [], [], k, _, _ => ⟨rfl, .nil⟩
  | [], d :: ds, k, e, _ => nomatch e
  | p :: kvs, [], k, e, _ => nomatch e
  | (k1, v1) :: kvs, (k2, d2) :: ds, k, e, r => by
    have e1 : k1 = k2 := (List.cons.inj e).1
    have e2 : kvs.map (·.1) = ds.map (·.1) := (List.cons.inj e).2
    subst e1
    have r1 : Rep K Av H v1 d2 ∧ RepL K Av H (kvs.map (·.2)) (ds.map (·.2)) := by
      cases r with
      | cons q r => exact ⟨q, r⟩
    have ih := map_rel q (kvs := kvs) (ds := ds) k e2 r1.2
    by_cases z : k1 = k
    · subst z
      simp only [List.map_cons, if_true]
      exact ⟨by rw [ih.1], .cons q ih.2⟩
    · simp only [List.map_cons, if_neg z]
      exact ⟨by rw [ih.1], .cons r1.1 ih.2⟩
theorem put_rel {v : V} {d : Dv} (q : Rep K Av H v d) {kvs : List (κ × V)} {ds : List (κ × Dv)} (k : κ) (e : kvs.map (·.1) = ds.map (·.1)) (r : RepL K Av H (kvs.map (·.2)) (ds.map (·.2))) :
    (putK kvs k v).map (·.1) = (putD ds k d).map (·.1) ∧ RepL K Av H ((putK kvs k v).map (·.2)) ((putD ds k d).map (·.2)) := by
  unfold putK putD
  rw [any_rel k e]
  by_cases z : (ds.any fun kv => decide (kv.1 = k)) = true
  · rw [if_pos z, if_pos z]
    exact map_rel q k e r
  · rw [if_neg z, if_neg z]
    simp only [List.map_append, List.map_cons, List.map_nil]
    exact ⟨by rw [e], r.append (.cons q .nil)⟩
end
section
variable {X : Cx} {R : RS} {d k e : Expr} {wd wk w we : WE} {pos p : Pos}
theorem RepB.dK {K : PySem.W.Frag} {C : DC R} {es : Es} {H : Hp} {v : V} {kvs : List (Key × Dv)} (h : RepB K C es H v (dKof kvs)) : ∃ a vs, v = .ref a ∧ Rd H a (.dK vs) ∧ vs.map (·.1) = kvs.map (·.1) ∧ RepL K (C.Av es) H (vs.map (·.2)) (kvs.map (·.2)) := by
  rcases h with h | ⟨l, e, hl, h⟩
  · cases h with | dK h1 h2 h3 => exact ⟨_, _, rfl, h1.elim (fun h => .inl h.1) .inr, h2.symm, h3⟩
  · obtain ⟨vs, h1, h2, h3⟩ := h; exact ⟨l, vs, e, .inl h1, h2.symm, h3⟩
theorem RepB.key {K : PySem.W.Frag} {C : DC R} {es : Es} {H : Hp} {v : V} {k : Key} (h : RepB K C es H v (kD k)) : v = kV k := by
  cases k with
  | inl i => exact RepB.int h
  | inr x => exact RepB.str h
/-- d.get(k, x) -/
def wGet2 (wd wk w : WE) : WE := fun es Q => wd es fun x => ∃ kvs, x = dKof kvs ∧ wk es fun y => w es fun z => ∃ k, y = kD k ∧ Q ((valD kvs k).getD z)
theorem get_rel {K : PySem.W.Frag} {C : DC R} {es : Es} {H : Hp} {x y : V} {kvs : List (Key × Dv)} {k : Key} (rx : RepB K C es H x (dKof kvs)) (ry : RepB K C es H y (kD k)) :
    ∃ a o, x = .ref a ∧ DGet H a y o ∧ (∀ d, valD kvs k = some d → ∃ v, o = some v ∧ Rep K (C.Av es) H v d) ∧ (valD kvs k = none → o = none) := by
  obtain ⟨a, vs, e1, h1, h2, h3⟩ := rx.dK
  obtain ⟨g1, g2⟩ := val_rel k h2 h3
  exact ⟨a, valV vs k, e1, .inl ⟨vs, k, h1, ry.key, rfl⟩, g1, g2⟩
theorem de_get2 {apos : Pos} (hu : X.A.units + 1 < cLine) (hd : DB X R d wd) (hk : DE X R k wk) (he : DE X R e w) (m : M2 X d "get" apos k e pos) : DE X R (.Call (.Attribute d "get" apos) [k, e] [] pos) (wGet2 wd wk w) := by
  refine ⟨fun C => PE.imp (pe_dget2 hu (hd.pe C) (hk.pe C) (he.pe C) m) fun σ H Q ⟨es, o, q⟩ => ⟨es, o, hd.mono es _ _ (fun d ⟨kvs, e1, q1⟩ v H1 a1 r1 => ?_) q⟩,
    fun es P P' f q => hd.mono es _ _ (fun d ⟨kvs, e1, k⟩ => ⟨kvs, e1, hk.mono es _ _ (fun e k => he.mono es _ _ (fun g ⟨k, e2, q⟩ => ⟨k, e2, f _ q⟩) k) k⟩) q⟩
  subst e1
  obtain ⟨a, vs, e1, h1, h2, h3⟩ := r1.dK
  have o1 := o.aft a1
  refine ⟨a, e1, .inl ⟨vs, h1⟩, es, o1, hk.mono es _ _ (fun y q2 u H2 a2 r2 => ⟨es, o1.aft a2, he.mono es _ _ (fun z ⟨k, e2, q3⟩ t H3 a3 r3 => ?_) q2⟩) q1⟩
  subst e2
  have r1' := (r1.aft o1 a2).aft (o1.aft a2) a3
  obtain ⟨a', og, e1', g, g1, g2⟩ := get_rel r1' (.inl (r2.ext (C.avF es) a3.ext))
  have ea : a' = a := V.ref.inj (e1'.symm.trans e1)
  subst ea
  refine ⟨og, g, q3 _ H3 ((a1.trans a2).trans a3) ?_⟩
  cases hv : valD kvs k with
  | none => rw [g2 hv]; exact r3
  | some d =>
    obtain ⟨v', e3, r4⟩ := g1 d hv
    rw [e3]
    exact r4
/-- d[k] of a dict -/
def wDIx (wd wk : WE) : WE := fun es Q => wd es fun x => wk es fun y => ∃ kvs k v, x = dKof kvs ∧ y = kD k ∧ valD kvs k = some v ∧ Q v
theorem de_dix (hu : X.A.units + 1 < cLine) (hd : DB X R d wd) (hk : DE X R k wk) (hs : NoSl k := by intro _ _; rfl) : DE X R (.Subscript d k pos) (wDIx wd wk) := by
  refine ⟨fun C => PE.imp (pe_dget hu (hd.pe C) (hk.pe C) hs) fun σ H Q ⟨es, o, q⟩ => ⟨es, o, hd.mono es _ _ (fun x q1 v H1 a1 r1 => ⟨es, o.aft a1, hk.mono es _ _ (fun y ⟨kvs, k, z, e1, e2, h, q2⟩ u H2 a2 r2 => ?_) q1⟩) q⟩,
    fun es P P' f q => hd.mono es _ _ (fun d k => hk.mono es _ _ (fun e ⟨kvs, k, z, e1, e2, h, q⟩ => ⟨kvs, k, z, e1, e2, h, f _ q⟩) k) q⟩
  subst e1 e2
  obtain ⟨a, og, e1, g, g1, _⟩ := get_rel (r1.aft (o.aft a1) a2) (.inl r2)
  obtain ⟨v', e3, r4⟩ := g1 z h
  subst e3
  exact ⟨a, v', e1, g, q2 _ H2 (a1.trans a2) r4⟩
/-- k in d, k not in d -/
def wDIn (neg : Bool) (wk wd : WE) : WE := fun es Q => wk es fun y => wd es fun x => ∃ kvs k, x = dKof kvs ∧ y = kD k ∧ Q (.bl (if neg = true then !(valD kvs k).isSome else (valD kvs k).isSome))
theorem isSome_rel {K : PySem.W.Frag} {C : DC R} {es : Es} {H : Hp} {kvs : List (Key × Dv)} {k : Key} {o : Option V} (g1 : ∀ d, valD kvs k = some d → ∃ v, o = some v ∧ Rep K (C.Av es) H v d) (g2 : valD kvs k = none → o = none) : o.isSome = (valD kvs k).isSome := by
  cases h : valD kvs k with
  | none => rw [g2 h]; rfl
  | some d => obtain ⟨v, e, _⟩ := g1 d h; rw [e]; rfl
theorem de_din (hu : X.A.units + 1 < cLine) (hk : DE X R k wk) (hd : DB X R d wd) (h1 : behindInMarks .In d = false := by rfl) : DE X R (.Compare k [.In] [d] pos) (wDIn false wk wd) := by
  refine ⟨fun C => PE.imp (pe_cmp (pc_din hu (hk.pe C) (hd.pe C)) h1) fun σ H Q ⟨es, o, q⟩ => ⟨es, o, hk.mono es _ _ (fun y q1 u H1 a1 r1 => ⟨es, o.aft a1, hd.mono es _ _ (fun x ⟨kvs, k, e1, e2, q2⟩ v H2 a2 r2 => ?_) q1⟩) q⟩,
    fun es P P' f q => hk.mono es _ _ (fun d k => hd.mono es _ _ (fun e ⟨kvs, k, e1, e2, q⟩ => ⟨kvs, k, e1, e2, f _ q⟩) k) q⟩
  subst e1 e2
  obtain ⟨a, og, e1, g, g1, g2⟩ := get_rel r2 (.inl (r1.ext (C.avF es) a2.ext))
  refine ⟨a, og, e1, g, ?_⟩
  rw [isSome_rel g1 g2]
  exact q2 _ H2 (a1.trans a2) (.bl _)
theorem de_dnotin (hu : X.A.units + 1 < cLine) (hk : DE X R k wk) (hd : DB X R d wd) (h1 : behindInMarks .NotIn d = false := by rfl) : DE X R (.Compare k [.NotIn] [d] pos) (wDIn true wk wd) := by
  refine ⟨fun C => PE.imp (pe_cmp (pc_dnotin hu (hk.pe C) (hd.pe C)) h1) fun σ H Q ⟨es, o, q⟩ => ⟨es, o, hk.mono es _ _ (fun y q1 u H1 a1 r1 => ⟨es, o.aft a1, hd.mono es _ _ (fun x ⟨kvs, k, e1, e2, q2⟩ v H2 a2 r2 => ?_) q1⟩) q⟩,
    fun es P P' f q => hk.mono es _ _ (fun d k => hd.mono es _ _ (fun e ⟨kvs, k, e1, e2, q⟩ => ⟨kvs, k, e1, e2, f _ q⟩) k) q⟩
  subst e1 e2
  obtain ⟨a, og, e1, g, g1, g2⟩ := get_rel r2 (.inl (r1.ext (C.avF es) a2.ext))
  refine ⟨a, og, e1, g, ?_⟩
  rw [isSome_rel g1 g2]
  exact q2 _ H2 (a1.trans a2) (.bl _)
/-- x[k] = e, x an own dict -/
def wsDPut (i : Nat) (wk w : WE) : WS := fun D es => ∃ l kvs, es[i]? = some (.own l (dKof kvs)) ∧ w es fun d => wk es fun y => ∃ k, y = kD k ∧ kvs.length < 100000 ∧ D.nx (es.set i (.own l (dKof (putD kvs k d))))
theorem ds_dput (i : Nat) {x : Str} {px p2 spos : Pos} (hu : X.A.units + 1 < cLine) (hk : DE X R k wk) (he : DE X R e w) (hN : X.N[i]? = some x := by rfl) (hv : Vis X.env.scope x := by first | exact Or.inl rfl | exact Or.inr (Or.inl rfl) | exact Or.inr (Or.inr rfl)) (hd : (x == ("__debug__" : Str)) = false := by decide)
    (hcd : (x == ("__classdict__" : Str)) = false := by decide) (hs : swapsWith e (some (.Subscript (.Name x px) k p2)) spos.line X.env = pure false := by rfl) : DS X R (.Assign [.Subscript (.Name x px) k p2] e spos) (wsDPut i wk w) := by
  refine ⟨fun C => PSt.imp (ps_dput hu (pe_var hN hv hd hcd) (hk.pe C) (he.pe C) hs) fun D σ H ⟨es, o, l, kvs, hl, q⟩ => ⟨es, o, he.mono es _ _ (fun d q1 v H1 a1 r1 => ?_) q⟩,
    fun D D' es hD ⟨l, kvs, hl, q⟩ => ⟨l, kvs, hl, he.mono es _ _ (fun d k => hk.mono es _ _ (fun y ⟨k, e2, h3, q⟩ => ⟨k, e2, h3, hD.nx _ q⟩) k) q⟩⟩
  have o1 := o.aft a1
  obtain ⟨ev, _⟩ := o1.own i l _ hl
  refine ⟨.ref l, ev, es, o1, hk.mono es _ _ (fun y ⟨k, e2, h3, q2⟩ u H2 a2 r2 => ?_) q1⟩
  subst e2
  have o2 := o1.aft a2
  obtain ⟨_, vs, hx, he2, hr⟩ := o2.own i l _ hl
  have ek : u = kV k := RepB.key (C := C) (es := es) (.inl r2)
  subst ek
  have hlen : vs.length = kvs.length := by have := congrArg List.length he2; simpa using this.symm
  obtain ⟨p1, p2⟩ := put_rel (r1.ext (C.avF es) a2.ext) k he2.symm hr
  refine ⟨l, _, rfl, DPut.k hx (Nat.lt_of_lt_of_le (by rw [hlen]; exact h3) (by decide)), q2 _ _ (o2.mutO hl ⟨_, upd_same, p1.symm, p2.mut (.inr (mem_owned hl)) fun u e => by rw [hx] at e; cases e; exact fun z => z⟩)⟩
end
end L3

/-! L3g: zip, enumerate, new lists from defs, lists unpacked, branches never taken. -/
namespace L3
open PySem PySem.Spec PyProof.Rows L2

/-! ### zip -/
def zipD (ds es : List Dv) : List Dv := (ds.zip es).map fun p => .tup [p.1, p.2]
theorem zipD_length (ds es : List Dv) : (zipD ds es).length = min ds.length es.length := by simp [zipD]
theorem zipD_get {ds es : List Dv} {i : Nat} {d e : Dv} (h : ds[i]? = some d) (h' : es[i]? = some e) : (zipD ds es)[i]? = some (.tup [d, e]) := by
  unfold zipD
  rw [List.getElem?_map, show (ds.zip es)[i]? = some (d, e) from List.getElem?_zip_eq_some.mpr ⟨h, h'⟩]
  rfl
theorem pair_rep {K : PySem.W.Frag} {Av : Addr → Prop} {H : Hp} {T : Addr} {x y : V} {d e : Dv} (hT : H T = none) (r : Rep K Av H x d) (r' : Rep K Av H y e) : Ext No H (upd H T (.tup [x, y])) ∧ Rep K Av (upd H T (.tup [x, y])) (.ref T) (.tup [d, e]) :=
  ⟨Ext.new hT, .tup (.inl (.inl upd_same)) (.cons (r.ext (F := No) (fun _ z => z.elim) (Ext.new hT)) (.cons (r'.ext (F := No) (fun _ z => z.elim) (Ext.new hT)) .nil))⟩
theorem it_zipL {K : PySem.W.Frag} {a b : Addr} {ds es : List Dv} : ItOk K (Itz K a b) (zipD ds es) [(.ref a, .lst ds), (.ref b, .lst es)] where
  go := fun Av H i g hi => by
    rw [zipD_length] at hi
    cases g _ List.mem_cons_self with
    | lst h r =>
      cases g _ (List.mem_cons_of_mem _ List.mem_cons_self) with
      | lst h' r' =>
        obtain ⟨x, e, _⟩ := r.get' (List.getElem?_eq_getElem (show i < ds.length by omega))
        obtain ⟨y, e', _⟩ := r'.get' (List.getElem?_eq_getElem (show i < es.length by omega))
        exact ⟨_, _, x, y, h.sq, h'.sq, e, e'⟩
  stop := fun Av H g => by
    cases g _ List.mem_cons_self with
    | lst h r =>
      cases g _ (List.mem_cons_of_mem _ List.mem_cons_self) with
      | lst h' r' =>
        refine ⟨_, _, h.sq, h'.sq, ?_⟩
        rw [zipD_length, r.length, r'.length]
        omega
  yld := fun Av H i x H' g hi y => by
    rw [zipD_length] at hi
    cases g _ List.mem_cons_self with
    | lst h r =>
      cases g _ (List.mem_cons_of_mem _ List.mem_cons_self) with
      | lst h' r' =>
        obtain ⟨T, x, z, rfl, hT, rfl, h1, h2⟩ := y
        obtain ⟨d, e, q⟩ := r.get (h1 _ h.sq)
        obtain ⟨d', e', q'⟩ := r'.get (h2 _ h'.sq)
        have := pair_rep hT q q'
        exact ⟨this.1, _, zipD_get e e', this.2⟩
theorem it_zipT {K : PySem.W.Frag} {a b : Addr} {ds es : List Dv} : ItOk K (RZ.ItzT K a b) (zipD ds es) [(.ref a, .tup ds), (.ref b, .tup es)] where
  go := fun Av H i g hi => by
    rw [zipD_length] at hi
    cases g _ List.mem_cons_self with
    | tup h r =>
      cases g _ (List.mem_cons_of_mem _ List.mem_cons_self) with
      | tup h' r' =>
        obtain ⟨x, e, _⟩ := r.get' (List.getElem?_eq_getElem (show i < ds.length by omega))
        obtain ⟨y, e', _⟩ := r'.get' (List.getElem?_eq_getElem (show i < es.length by omega))
        exact ⟨_, _, x, y, h, h', e, e'⟩
  stop := fun Av H g => by
    cases g _ List.mem_cons_self with
    | tup h r =>
      cases g _ (List.mem_cons_of_mem _ List.mem_cons_self) with
      | tup h' r' =>
        refine ⟨_, _, h, h', ?_⟩
        rw [zipD_length, r.length, r'.length]
        omega
  yld := fun Av H i x H' g hi y => by
    rw [zipD_length] at hi
    cases g _ List.mem_cons_self with
    | tup h r =>
      cases g _ (List.mem_cons_of_mem _ List.mem_cons_self) with
      | tup h' r' =>
        obtain ⟨T, x, z, rfl, hT, rfl, h1, h2⟩ := y
        obtain ⟨d, e, q⟩ := r.get (h1 _ h)
        obtain ⟨d', e', q'⟩ := r'.get (h2 _ h')
        have := pair_rep hT q q'
        exact ⟨this.1, _, zipD_get e e', this.2⟩
section
variable {X : Cx} {R : RS} {tg e a b c : Expr} {w wa wb wc : WE} {wi wn : WA} {pos p tpos : Pos} {elts : List Expr} {kk : Nat}
def wZip (wa wb : WE) : WA := fun es Q => wa es fun x => wb es fun y => (∃ ds es, x = .lst ds ∧ y = .lst es ∧ Q (zipD ds es)) ∨ ∃ ds es, x = .tup ds ∧ y = .tup es ∧ Q (zipD ds es)
theorem mono_zip (ha : MonoE wa) (hb : MonoE wb) : MonoE (wZip wa wb) := fun es P P' f q => ha es _ _ (fun d k => hb es _ _ (fun e k => k.imp (fun ⟨x, y, e1, e2, k⟩ => ⟨x, y, e1, e2, f _ k⟩) fun ⟨x, y, e1, e2, k⟩ => ⟨x, y, e1, e2, f _ k⟩) k) q
theorem di_zip (hg : Gl X "zip") (hm : X.mg "zip" = none) (ha : DE X R a wa) (hb : DE X R b wb)
    (hs : starEach [a, b] X.env = (false, eval a X.env) :: starEach [b] X.env := by rfl) (hs1 : starEach [b] X.env = (false, eval b X.env) :: starEach [] X.env := by rfl) (hpl : (backTo pos (starEach [b] X.env)).any (·.1) = false := by rfl) :
    DI X R (.Tuple elts kk tpos) (.Call (.Name "zip" p) [a, b] [] pos) (wZip wa wb) := by
  refine ⟨fun C => PI.imp (RZ.pi_zipA hg hm (pa_cons (ha.pe C) (pa_cons (hb.pe C) pa_nil hs1) hs) hs hpl) fun σ H Q ⟨es, o, q⟩ => ⟨es, o, ha.mono es _ _ (fun d k v H1 a1 r1 => ⟨es, o.aft a1, hb.mono es _ _ (fun e kk u H2 a2 r2 => ?_) k⟩) q⟩, mono_zip ha.mono hb.mono⟩
  have r1 := r1.ext (C.avF es) a2.ext
  have a3 := a1.trans a2
  rcases kk with ⟨ds, es', e1, e2, kq⟩ | ⟨ds, es', e1, e2, kq⟩
  · subst e1 e2
    cases r1 with
    | lst h1 q1 =>
      cases r2 with
      | lst h2 q2 =>
        exact ⟨_, _, _, _, rfl, .inl ⟨h1.sq, h2.sq, kq _ H2 _ a3 (fun p hp => by
          rcases List.mem_cons.mp hp with z | z
          · rw [z]; exact .lst h1 q1
          · rw [List.mem_singleton.mp z]; exact .lst h2 q2) it_zipL⟩⟩
  · subst e1 e2
    cases r1 with
    | tup h1 q1 =>
      cases r2 with
      | tup h2 q2 =>
        exact ⟨_, _, _, _, rfl, .inr ⟨h1, h2, kq _ H2 _ a3 (fun p hp => by
          rcases List.mem_cons.mp hp with z | z
          · rw [z]; exact .tup h1 q1
          · rw [List.mem_singleton.mp z]; exact .tup h2 q2) it_zipT⟩⟩
end

/-! ### enumerate -/
set_option maxHeartbeats 1000000 in
theorem meets_enum1 {v : Value} {o : Obj} {H : Heap → Prop} (B : Begins v o H) :
    Meets (Builtin.«enumerate.__new__» ⟨[.type "enumerate", v], []⟩) (fun _ R s => H s.heap ∧
      R (.ok (.ret (.ref (s.heap.push o).objs.size))) { s with heap := (s.heap.push o).push { cls := .type "enumerate", data := .fields #[.none, .bool false, .ref s.heap.objs.size, rawInt 0, .none, .none] } }) :=
  .of_wp fun prog w A R s h => by
    obtain ⟨hp, g, d, tk, os⟩ := s; obtain ⟨h1, h⟩ := h
    have hsub := sub_enumerate
    have q1 : ∀ {A' : Around} {E : Value → Shared → Prop} {Q : Value → Shared → Prop}, Q (.ref hp.objs.size) ⟨hp.push o, g, d, tk, os⟩ → wpAny (model prog w) A' (pyIter v) Q E ⟨hp, g, d, tk, os⟩ :=
      fun q => B.iter prog w _ _ ⟨hp, g, d, tk, os⟩ _ h1 q
    wp_walk using q1
    refine wpAny_stack_any fun st => wpAny_pure ?_
    split
    · rename_i c _ _ _ _ _
      cases (c == Value.type "enumerate")
      · wp_walk using q1
        exact ⟨_, rfl, h⟩
      · wp_walk using q1
        exact ⟨_, rfl, h⟩
    · wp_walk using q1
      exact ⟨_, rfl, h⟩
section
variable {prog : Program} {w : World} {A : Around} {E : Value → Shared → Prop} {s : Shared}
theorem enum1 {v : Value} {o : Obj} {H : Heap → Prop} {Q : Value → Shared → Prop} (B : Begins v o H) (h1 : H s.heap)
    (h : ∀ h', IsEnum h' (s.heap.objs.size + 1) s.heap.objs.size 0 .none → h'.get? s.heap.objs.size = some o → h'.objs.size = s.heap.objs.size + 2 →
      (∀ b o, s.heap.get? b = some o → h'.get? b = some o) → Q (.ref (s.heap.objs.size + 1)) { s with heap := h' }) :
    wpAny (model prog w) A (call (.type "enumerate") [v]) Q E s := by
  refine callType_new F.called_enumerate (by decide) (F.typeCall_enumerate_1 _) (F.newCall_enumerate_1 _) (fun obj => F.args_object_init_2 obj _) F.entry_enumerate_new
    (meets_enum1 B) ⟨h1, ?_⟩
  have hz : (s.heap.push o).objs.size = s.heap.objs.size + 1 := Heap.size_push ..
  show _ ∧ _
  rw [hz]
  have he : IsEnum ((s.heap.push o).push { cls := .type "enumerate", data := .fields #[.none, .bool false, .ref s.heap.objs.size, rawInt 0, .none, .none] }) (s.heap.objs.size + 1) s.heap.objs.size 0 .none := by
    have := Heap.get?_push_size (s.heap.push o) (o := { cls := .type "enumerate", data := .fields #[.none, .bool false, .ref s.heap.objs.size, rawInt 0, .none, .none] }) rfl
    rw [hz] at this; exact this
  refine ⟨⟨_, he, rfl⟩, h _ he (Heap.get?_push_of_some _ (Heap.get?_push_size _ B.free)) (by rw [Heap.size_push, hz]) fun b o x => Heap.get?_push_of_some _ (Heap.get?_push_of_some _ x)⟩
end
/-- the tuple at a, each item in a new pair -/
def ItT (K : PySem.W.Frag) (a : Addr) : It :=
  ⟨fun i H => ∃ (xs : List V) (x : V), SqT K H a xs ∧ xs[i]? = some x, fun i H v H' => ∃ T x, v = .ref T ∧ H T = none ∧ H' = upd H T (.tup [.int (i : Nat), x]) ∧ ∀ xs, SqT K H a xs → xs[i]? = some x, fun i H => ∃ xs : List V, SqT K H a xs ∧ xs.length = i⟩
theorem turn_enumT {P : Program} {w : World} {K : PySem.W.Frag} {elts : List Expr} {kk : Nat} {tpos : Pos} (a e it : Addr) (hea : e ≠ a) (hia : it ≠ a) :
    Turn P w K (.Tuple elts kk tpos) (ItT K a) [e, it] e (fun i h => (∃ old, IsEnum h e it ((i : Nat) : Int) old) ∧ h.IsTupleIter it a i ∧ e ≠ it) where
  mem := by simp
  obj := fun i h st b hb => by
    obtain ⟨⟨old, he⟩, ⟨o, ho, hc, hd⟩, _⟩ := st
    have e' : b = e ∨ b = it := by simpa using hb
    rcases e' with z | z
    · rw [z]; exact ⟨_, he, fun v q => nomatch q⟩
    · rw [z]; exact ⟨o, ho, fun v q => by rw [hd] at q; cases q⟩
  keep := fun i h h' st k => let ⟨⟨old, he⟩, hi, hne⟩ := st; ⟨⟨old, k e (by simp) _ he⟩, hi.at fun o q => k it (by simp) o q, hne⟩
  item := by
    intro X hP hw hK hc i pins s σ H E I hf st hg
    subst hP hw hK
    obtain ⟨⟨old, he⟩, hit, hne⟩ := st
    obtain ⟨xs, x, hq, hx⟩ := hg
    obtain ⟨its, rv, p, hz⟩ := I.tuple hq
    obtain ⟨u, hu, ru⟩ := rv.get hx
    have hel : e < s.heap.objs.size := Heap.lt_size he
    have hil : it < s.heap.objs.size := by obtain ⟨_, q, _⟩ := hit; exact Heap.lt_size q
    have hlt : i < its.toArray.size := by
      have := (List.getElem?_eq_some_iff.mp hu).1
      simpa using this
    have D : ∀ A' : Around, A'.handled = none → Draws X.prog X.w A'.in1 it [it, a] its.toArray.size (fun i v => its.toArray[i]? = some v) (fun i h => h.IsTupleIter it a i ∧ h.IsTuple a its.toArray) := fun A' h => Draws.tuple (A := A'.in1) (show A'.in1.handled = none from h) it a hia.symm its.toArray
    refine wpAny_pyNext_enum_itemD (D _ (I.ok.hd hc)) he ⟨hit, p⟩ hlt hne (by simp [hne, hea]) fun x' h' tk hP ho hs' hT hsz hk => ?_
    have ex : x' = u := by
      have h1 : its.toArray[i]? = some u := by simpa using hu
      rw [h1] at hP
      exact (Option.some.inj hP).symm
    subst ex
    refine ⟨_, rfl, wpAny_letOwnedTupleGo_enum (s := { s with heap := h', toks := tk + 1 }) ho fun h'' he' sb => ?_⟩
    have hT2 : h''.get? s.heap.objs.size = some { cls := .type "tuple", data := .seq #[.int i tk, x'] } := (sb.2 _ (Nat.ne_of_gt hel)).trans hT
    have new : ObjOk X.prog X.w (upd H s.heap.objs.size (.tup [.int (i : Nat), x])) h'' s.heap.objs.size (.tup [.int (i : Nat), x]) :=
      ⟨by show 2 ≤ sizeLine; decide, [.int i tk, x'], .cons ⟨_, rfl⟩ (.cons ru .nil), ⟨_, hT2, rfl, _, rfl⟩⟩
    have I1 : Inv X pins σ (upd H s.heap.objs.size (.tup [.int (i : Nat), x])) { s with heap := h'', toks := tk + 1 } :=
      I.turnedNew (ch := [e, it]) (fun b ob hb q => (sb.2 b (fun z => hb (by simp [z]))).trans (hk b ob (fun z => hb (by simp [z])) (fun z => hb (by simp [z])) q)) hf (Nat.le_refl _) new
    refine ⟨.ref s.heap.objs.size, _, I1, rfl, ⟨_, x, rfl, I.hok.fresh (Nat.le_refl _), rfl, fun ys hy => by rw [I.tuple_inj hy hq]; exact hx⟩, ⟨⟨x', ?_⟩, hs'.1.at fun o q => (sb.2 it (Ne.symm hne)).trans q, hne⟩, fun b hb => ?_⟩
    · have e1 : ((i + 1 : Nat) : Int) = (i : Int) + 1 := by omega
      rw [e1]; exact he'
    · have hb' : b < s.heap.objs.size := by
        have e' : b = e ∨ b = it := by simpa using hb
        rcases e' with z | z
        · rw [z]; exact hel
        · rw [z]; exact hil
      rw [upd_ne (Nat.ne_of_lt hb')]
      exact (hf b hb).1
  done := by
    intro X hP hw hK hc i pins s σ H E I hf st hg
    subst hP hw hK
    obtain ⟨⟨old, he⟩, hit, hne⟩ := st
    obtain ⟨xs, hq, hx⟩ := hg
    obtain ⟨its, rv, p, hz⟩ := I.tuple hq
    obtain ⟨f0, f1, f2, f3, f4, f5⟩ := hf it (by simp)
    have hl := rv.length
    have D : ∀ A' : Around, A'.handled = none → Draws X.prog X.w A'.in1 it [it, a] its.toArray.size (fun i v => its.toArray[i]? = some v) (fun i h => h.IsTupleIter it a i ∧ h.IsTuple a its.toArray) := fun A' h => Draws.tuple (A := A'.in1) (show A'.in1.handled = none from h) it a hia.symm its.toArray
    have hz' : its.toArray.size = i := by rw [List.size_toArray, ← hl]; exact hx
    exact wpAny_pyNext_enum_endD (D _ (I.ok.hd hc)) he (show _ from by rw [hz']; exact ⟨hit, p⟩) fun h' eb => ⟨rfl, I.turned (t' := s.toks) (fun b o hb q => eb b o hb q) f0 f1 f3 f4 f5⟩
  self := fun A i s Q E st h => let ⟨⟨_, he⟩, _⟩ := st; wpAny_pyIter_enum he h

def iEnumA (K : PySem.W.Frag) (ta : TA) : TI := fun σ H R => ta σ H fun vs H1 => ∃ a xs, vs = [.ref a] ∧ ((SqL K H1 a xs ∧ R (Ite K a) H1) ∨ (SqT K H1 a xs ∧ R (ItT K a) H1))
theorem pi_enumA {X : Cx} {e : Expr} {ta : TA} {p pos tpos : Pos} {elts : List Expr} {kk : Nat} (hg : Gl X "enumerate") (hm : X.mg "enumerate" = none) (ha : PA X [e] ta) (hs : starEach [e] X.env = [(false, eval e X.env)] := by rfl) :
    PI X (.Tuple elts kk tpos) (.Call (.Name "enumerate" p) [e] [] pos) (iEnumA X.K ta) := by
  refine ⟨fun pins s σ H R I h => ?_⟩
  refine Call_ (ld_blt I hg hm boot_enumerate (PyProof.Rows.callWith_type1 (thn (ha.run pos pins s σ H _ I h) fun us s1 ⟨vs, H1, I1, r1, q1⟩ => ?_) hs rfl))
  obtain ⟨a, xs, ex, q1⟩ := q1
  subst ex
  cases r1 with
  | cons r rr =>
    cases rr
    cases r
    have fr : ∀ b, b ∈ [s1.heap.objs.size + 1, s1.heap.objs.size] → FpOk X pins H1 b := fun b hb => by
      have e' : b = s1.heap.objs.size + 1 ∨ b = s1.heap.objs.size := by simpa using hb
      have hle : s1.heap.objs.size ≤ b := by
        rcases e' with z | z
        · rw [z]; exact Nat.le_add_right _ _
        · rw [z]; exact Nat.le_refl _
      exact I1.fpOk hle (I1.hok.fresh hle)
    rcases q1 with ⟨hq, q⟩ | ⟨hq, q⟩
    · obtain ⟨its, rv, p', hz⟩ := I1.list hq
      refine call_enumerate_list p'.isList fun h' he hit hsz hk => wpAny_pyIter_enum he ?_
      have I2 : Inv X pins σ H1 { s1 with heap := h' } := I1.kept (t' := s1.toks) hk
      exact ⟨s1.heap.objs.size + 1, [s1.heap.objs.size + 1, s1.heap.objs.size], _, _, H1, rfl, I2, turn_enum a (s1.heap.objs.size + 1) s1.heap.objs.size, ⟨⟨.none, he⟩, hit, Nat.succ_ne_self _⟩, fr, q⟩
    · obtain ⟨its, rv, p', hz⟩ := I1.tuple hq
      obtain ⟨o1, ho1, _⟩ := id p'
      have hlt := Heap.lt_size ho1
      refine enum1 (begins_tuple a its.toArray) p' fun h' he hit hsz hk => wpAny_pyIter_enum he ?_
      have I2 : Inv X pins σ H1 { s1 with heap := h' } := I1.kept (t' := s1.toks) hk
      exact ⟨s1.heap.objs.size + 1, [s1.heap.objs.size + 1, s1.heap.objs.size], _, _, H1, rfl, I2, turn_enumT a (s1.heap.objs.size + 1) s1.heap.objs.size (Nat.ne_of_gt (Nat.lt_succ_of_lt hlt)) (Nat.ne_of_gt hlt), ⟨⟨.none, he⟩, ⟨_, hit, rfl, rfl⟩, Nat.succ_ne_self _⟩, fr, q⟩
def enumD (ds : List Dv) : List Dv := (List.range ds.length).zipWith (fun i d => .tup [.int (i : Nat), d]) ds
theorem enumD_length (ds : List Dv) : (enumD ds).length = ds.length := by simp [enumD]
theorem enumD_get {ds : List Dv} {i : Nat} {d : Dv} (h : ds[i]? = some d) : (enumD ds)[i]? = some (.tup [.int (i : Nat), d]) := by
  have hi := (List.getElem?_eq_some_iff.mp h).1
  unfold enumD
  rw [List.getElem?_zipWith, h, List.getElem?_range hi]
theorem it_enumL {K : PySem.W.Frag} {a : Addr} {ds : List Dv} : ItOk K (Ite K a) (enumD ds) [(.ref a, .lst ds)] where
  go := fun Av H i g hi => by
    rw [enumD_length] at hi
    cases g _ List.mem_cons_self with
    | lst h r =>
      obtain ⟨x, e, _⟩ := r.get' (List.getElem?_eq_getElem hi)
      exact ⟨_, x, h.sq, e⟩
  stop := fun Av H g => by
    cases g _ List.mem_cons_self with
    | lst h r => exact ⟨_, h.sq, by rw [enumD_length, r.length]; exact Nat.le_refl _⟩
  yld := fun Av H i x H' g hi y => by
    cases g _ List.mem_cons_self with
    | lst h r =>
      obtain ⟨T, x, rfl, hT, rfl, h1⟩ := y
      obtain ⟨d, e, q⟩ := r.get (h1 _ h.sq)
      have := pair_rep hT (.int (i : Nat)) q
      exact ⟨this.1, _, enumD_get e, this.2⟩
theorem it_enumT {K : PySem.W.Frag} {a : Addr} {ds : List Dv} : ItOk K (ItT K a) (enumD ds) [(.ref a, .tup ds)] where
  go := fun Av H i g hi => by
    rw [enumD_length] at hi
    cases g _ List.mem_cons_self with
    | tup h r =>
      obtain ⟨x, e, _⟩ := r.get' (List.getElem?_eq_getElem hi)
      exact ⟨_, x, h, e⟩
  stop := fun Av H g => by
    cases g _ List.mem_cons_self with
    | tup h r => exact ⟨_, h, by rw [enumD_length, r.length]⟩
  yld := fun Av H i x H' g hi y => by
    cases g _ List.mem_cons_self with
    | tup h r =>
      obtain ⟨T, x, rfl, hT, rfl, h1⟩ := y
      obtain ⟨d, e, q⟩ := r.get (h1 _ h)
      have := pair_rep hT (.int (i : Nat)) q
      exact ⟨this.1, _, enumD_get e, this.2⟩
section
variable {X : Cx} {R : RS} {tg e a b c : Expr} {w wa wb wc : WE} {wi wn wt : WA} {wq : WT} {t u : WS} {pos p tpos : Pos} {elts : List Expr} {kk : Nat} {S : FSpec} {es' : List Expr} {x : Str} {j k : Nat}
def wEnum (wa : WE) : WA := fun es Q => wa es fun x => ∃ ds, (x = .lst ds ∨ x = .tup ds) ∧ Q (enumD ds)
theorem mono_enum (ha : MonoE wa) : MonoE (wEnum wa) := fun es P P' f q => ha es _ _ (fun d ⟨ds, e, k⟩ => ⟨ds, e, f _ k⟩) q
theorem di_enum (hg : Gl X "enumerate") (hm : X.mg "enumerate" = none) (ha : DE X R a wa)
    (hs : starEach [a] X.env = (false, eval a X.env) :: starEach [] X.env := by rfl) (hs' : starEach [a] X.env = [(false, eval a X.env)] := by rfl) :
    DI X R (.Tuple elts kk tpos) (.Call (.Name "enumerate" p) [a] [] pos) (wEnum wa) := by
  refine ⟨fun C => PI.imp (pi_enumA hg hm (pa_cons (ha.pe C) pa_nil hs) hs') fun σ H Q ⟨es, o, q⟩ => ⟨es, o, ha.mono es _ _ (fun d ⟨ds, e, k⟩ v H1 a1 r1 => ?_) q⟩, mono_enum ha.mono⟩
  rcases e with e | e
  · subst e
    cases r1 with
    | lst h1 q1 => exact ⟨_, _, rfl, .inl ⟨h1.sq, k _ H1 _ a1 (fun p hp => by rw [List.mem_singleton.mp hp]; exact .lst h1 q1) it_enumL⟩⟩
  · subst e
    cases r1 with
    | tup h1 q1 => exact ⟨_, _, rfl, .inr ⟨h1, k _ H1 _ a1 (fun p hp => by rw [List.mem_singleton.mp hp]; exact .tup h1 q1) it_enumT⟩⟩

/-! ### a def that answers a new list: flat things in, flat things within -/
def wCallN (S : FSpec) (wa : WA) : WA := fun es Q => wa es fun ds => flatL ds = true ∧ S.W ds fun d => ∃ xs, d = .lst xs ∧ flatL xs = true ∧ Q xs
theorem dn_call (c : Cl X.prog X.w X.K X.mg X.base k x (spP X.K S)) (hr : Room j X.A) (hg : Gl X x) (ha : DA X R (e :: es') wt) (hk : k ≤ j := by decide) (hdb : (x == ("__debug__" : Str)) = false := by decide)
    (he : starEach (e :: es') X.env = (false, eval e X.env) :: starEach es' X.env := by rfl) (hpl : (backTo pos (starEach es' X.env)).any (·.1) = false := by rfl) : DN X R (.Call (.Name x p) (e :: es') [] pos) (wCallN S wt) := by
  obtain ⟨f, fd, ps, F, hm, hkp, hb⟩ := c.ex
  refine ⟨fun C => PE.imp (pe_call F (hr.mono hk) hg hm hkp hb .nil pass0 (ha.pa C) hdb he hpl) fun σ H Q ⟨es, o, q⟩ => ⟨es, o, ha.mono es _ _ (fun ds ⟨hfl, h⟩ vs H1 a1 r1 => ?_) q⟩, fun es P P' f q => ha.mono es _ _ (fun ds ⟨hfl, k⟩ => ⟨hfl, S.mono ds _ _ (fun d ⟨xs, e, h, k⟩ => ⟨xs, e, h, f _ k⟩) k⟩) q⟩
  show spP X.K S (vs ++ []) H1 Q E0
  rw [List.append_nil]
  refine ⟨fun a => H1 a ≠ none, ds, r1.flat hfl, fun a h => h, fun _ z => z.elim, trivial, S.mono ds _ _ (fun d ⟨xs, e, hx, k⟩ v H' a r => ?_) h⟩
  subst e
  cases r with
  | lst h1 r1 =>
    have hn : ∀ l, ¬ H1 l ≠ none → H1 l = none := fun l z => Classical.byContradiction z
    exact k _ H' (a1.aft0 a.ext) ⟨a1.ext.live _ (hn _ h1.2), _, h1.1, r1.flat hx⟩

/-! ### a, b = a list -/

def wsTupW (is : List Nat) (w : WE) : WS := fun D es => w es fun d => ∃ ds, d = .lst ds ∧ ds.length = is.length ∧ D.nx (setAll es is ds)
theorem ds_tupL {tg : Expr} {is : List Nat} (he : DE X R e w) (hg : PG X tg (gLst X.K is.length (gNs is))) (hs : swapsWithSole [tg] e pos.line X.env = pure false := by rfl) (hw : swappedStores [tg] e X.env = pure none := by rfl)
    (h1 : (assignEach [tg] X.env).map (·.2) = [assign tg X.env] := by rfl) : DS X R (.Assign [tg] e pos) (wsTupW is w) :=
  ⟨fun C => PSt.imp (ps_asg (he.pe C) hg hs hw h1) fun D σ H ⟨es, o, q⟩ => ⟨es, o, he.mono es _ _ (fun d ⟨ds, e1, hl, k⟩ v H' a r => by
      subst e1
      cases r with
      | lst h1 r1 => exact ⟨_, _, rfl, h1.sq, by rw [r1.length]; exact hl, gNs_ok (V' := is) (o.aft a) r1 hl (fun _ h => h) fun σ' o' _ _ => k σ' H' o'⟩) q⟩,
    fun D D' es hD q => he.mono es _ _ (fun d ⟨ds, e1, hl, k⟩ => ⟨ds, e1, hl, hD.nx _ k⟩) q⟩

/-! ### branches that are never taken -/
def wsIfF (c : WT) (u : WS) : WS := fun D es => c es fun b => b = false ∧ u D es
theorem ds_ifF {sa sb : List Stmt} (hc : DT X R c wq) (hb : DSs X R sb u) : DS X R (.If c sa sb pos) (wsIfF wq u) := by
  refine ⟨fun C => PSt.imp (ps_if (hc.pt C) ((dss_never (X := X) (R := R) (sts := sa)).pss C) (hb.pss C)) fun D σ H ⟨es, o, q⟩ => ⟨es, o, hc.mono es _ _ (fun b k H1 a1 => ?_) q⟩, fun D D' es hD q => hc.mono es _ _ (fun b k => ⟨k.1, hb.mono _ _ _ hD k.2⟩) q⟩
  obtain ⟨e, k⟩ := k
  subst e
  exact iteF ⟨es, o.aft a1, k⟩
def wsIfT (c : WT) (t : WS) : WS := fun D es => c es fun b => b = true ∧ t D es
theorem ds_ifT {sa sb : List Stmt} (hc : DT X R c wq) (ha : DSs X R sa t) : DS X R (.If c sa sb pos) (wsIfT wq t) := by
  refine ⟨fun C => PSt.imp (ps_if (hc.pt C) (ha.pss C) ((dss_never (X := X) (R := R) (sts := sb)).pss C)) fun D σ H ⟨es, o, q⟩ => ⟨es, o, hc.mono es _ _ (fun b k H1 a1 => ?_) q⟩, fun D D' es hD q => hc.mono es _ _ (fun b k => ⟨k.1, ha.mono _ _ _ hD k.2⟩) q⟩
  obtain ⟨e, k⟩ := k
  subst e
  exact iteT ⟨es, o.aft a1, k⟩
end
/-- x = [.. for ..], a value -/
theorem ds_setLcV {X : Cx} {R : RS} {elt tg iter : Expr} {ifs : List Expr} {scope : Scope} {own : List (Str × Nat)} {pos spos : Pos} {wi : WA} {wt : WT} {we : WE} {t : Tg} {i : Nat} {y : Str} {py : Pos} (hc : X.calm = true) (hN : X.N.Nodup) (hi : DIB X R tg iter wi) (ok : BlkOk X.N X.env.scope scope own) (hix : own.map (·.2) = t.ix)
    (hg : ∀ (s : Shared) (H : Hp) (C : Addr) (cl : List (Str × Addr)) (fp : List Addr), PG (X.blk s H scope (compEnvC scope cl C X.env) fp) tg (t.g X.K)) (ht : ∀ (s : Shared) (H : Hp) (C : Addr) (cl : List (Str × Addr)) (fp : List Addr), DTs (X.blk s H scope (compEnvC scope cl C X.env) fp) R ifs wt)
    (he : ∀ (s : Shared) (H : Hp) (C : Addr) (cl : List (Str × Addr)) (fp : List Addr), DE (X.blk s H scope (compEnvC scope cl C X.env) fp) R elt we)
    (hsw : swapsWith (.ListComp elt [⟨tg, iter, ifs, 0⟩] scope pos) (some (.Name y py)) spos.line X.env = pure true)
    (hs : ∀ x, foldedSetIterable iter X.env x = pure x := by intro _; rfl) (hy : X.N[i]? = some y := by rfl) (hyl : X.env.scope.names.lookup y = some .local := by rfl) :
    DS X R (.Assign [.Name y py] (.ListComp elt [⟨tg, iter, ifs, 0⟩] scope pos) spos) (wsSet i (wL (wLc wi t wt we))) :=
  ds_val (mono_lc hi.mono) (ds_setLc hc hN hi ok hix hg ht he hsw hs hy hyl)

/-! ### the law itself: its function object is told -/
theorem fn_F {P : Program} {w : World} {K : PySem.W.Frag} {mg : Str → Option Value} {base : Heap} {R : RS} {S' : FSpec} {x : Str} {st : Stmt} {N ps : List Str} {k : Nat} {f : Addr} {fd : FuncData} (F : Fun K x x st f fd) (S : FnScope N ps (defScope st)) (hlen : ∀ a, (S'.enc a).length = ps.length)
    (hbody : ∀ (f : Addr) (cdv : Value) (A : Around) (outer : List Env) (s : Shared) (H : Hp) (E : XK), Room k (A.deeper (envOfC x (defScope st) s.heap.objs.size f cdv)) →
      ∃ wb, DSs (cxOf CX0 P w K mg base N x (defScope st) f cdv A outer s H E).nox R (defBody st) wb ∧
        ∀ (a : S'.A) (Q : Dv → Prop), S'.pre a → (∀ b, S'.post a b → Q (S'.val a b)) → wb ⟨fun _ => Q .non, Q, fun _ => False, fun _ => False⟩ (startE N (S'.enc a)))
    (hro : R.ro = true := by rfl) : FnOk P w K mg base CX0 (k + 1) f fd ps (spR K R S') := by
  refine F.ok S (fun vs H Q E h => ?_) (fun cdv A outer s H vs Q E hr h => ?_)
  · obtain ⟨Av, ds, r, _, _, _, q⟩ := h
    rw [r.length]
    exact W_len hlen q
  · obtain ⟨Av, ds, r, live, hF, z, a, e, pre, q⟩ := h
    subst e
    obtain ⟨wb, hd, hw⟩ := hbody f cdv A outer s H E hr
    refine ⟨_, hd.pss ⟨Av, H, [], hF, live⟩, startE N (S'.enc a), ok_start (C := ⟨Av, H, [], hF, live⟩) r z rfl, hd.mono ⟨fun _ => ∀ v H', Aft R H H' → Rep K Av H' v .non → Q v H', fun d => ∀ v H', Aft R H H' → Rep K Av H' v d → Q v H', fun _ => False, fun _ => False⟩ _ _ ⟨fun es k σ H' o => ?_, fun d k v H' e z r => ?_, fun es k => k.elim, fun es k => k.elim⟩ (hw a (fun d => ∀ v H', Aft R H H' → Rep K Av H' v d → Q v H') pre q)⟩
    · exact k .non H' ⟨o.ext, o.z, o.ro hro⟩ .non
    · exact k v H' ⟨e, z, (r.1 hro).2⟩ (r.1 hro).1
abbrev S_law : FSpec := .det (List Int) (fun ns => [.scr ns]) (fun ns => ns.length ≤ 63) (fun _ => .bl true)
theorem law_hsp (K : PySem.W.Frag) (H : Hp) (a : Addr) (ns : List Int) (hl : ns.length ≤ 63) (ho : Only H) (hS : SqL K H a (ns.map V.int)) : spP K S_law [.ref a] H (fun v _ => v = .bl true) fun _ _ _ => False := by
  refine ⟨fun _ => False, [.scr ns], .cons (.scr (Scr.of hS fun ys h => ?_)) .nil, fun _ z => z.elim, fun _ z => z.elim, trivial, ns, rfl, hl, fun _ _ v H' a r => ?_⟩
  · rcases ho a with z | ⟨o, xs, z⟩ <;> rw [z] at h <;> cases h
  · cases r; rfl

/-! ### how loops are told -/
section
variable {α S : Type} {items : List Dv} {e0 : Es} {n : Nat}
/-- a comprehension: what passes the test, each element -/
theorem iv_fm {Q : List Dv → Prop} {B : (Nat → List Dv → Prop) → Nat → Dv → List Dv → Prop} (xs : List α) (enc : α → Dv) (tst : α → Bool) (el : α → Dv) (hi : items = xs.map enc) (hn : n = xs.length)
    (hs : ∀ i a acc (J : Nat → List Dv → Prop), xs[i]? = some a → (tst a = true → J (i + 1) (acc ++ [el a])) → (tst a = false → J (i + 1) acc) → B J i (enc a) acc) (hd : Q ((xs.filter tst).map el)) :
    ∃ Iv : Nat → List Dv → Prop, Iv 0 [] ∧ (∀ i d acc, items[i]? = some d → Iv i acc → B Iv i d acc) ∧ ∀ acc, Iv n acc → Q acc := by
  subst hi hn
  refine ⟨fun i acc => acc = ((xs.take i).filter tst).map el, rfl, fun i d acc hd' e => ?_, fun acc e => ?_⟩
  · rw [List.getElem?_map] at hd'
    obtain ⟨a, ha, rfl⟩ := Option.map_eq_some_iff.mp hd'
    subst e
    have ht : xs.take (i + 1) = xs.take i ++ [a] := by rw [List.take_add_one, ha]; rfl
    refine hs i a _ _ ha (fun h => ?_) fun h => ?_
    · show _ = _
      rw [ht, List.filter_append, List.filter_cons_of_pos h, List.filter_nil, List.map_append]
      rfl
    · show _ = _
      rw [ht, List.filter_append, List.filter_cons_of_neg (by rw [h]; exact Bool.false_ne_true), List.filter_nil, List.append_nil]
  · subst e
    rw [List.take_length]
    exact hd
/-- a comprehension that tests nothing, elements by a relation -/
theorem iv_any {Q : List Dv → Prop} {B : (Nat → List Dv → Prop) → Nat → Dv → List Dv → Prop} (xs : List α) (enc : α → Dv) (Rl : Nat → α → Dv → Prop) (hi : items = xs.map enc) (hn : n = xs.length)
    (hs : ∀ i a acc (J : Nat → List Dv → Prop), xs[i]? = some a → (∀ z, Rl i a z → J (i + 1) (acc ++ [z])) → B J i (enc a) acc) (hd : ∀ zs : List Dv, zs.length = xs.length → (∀ i a z, xs[i]? = some a → zs[i]? = some z → Rl i a z) → Q zs) :
    ∃ Iv : Nat → List Dv → Prop, Iv 0 [] ∧ (∀ i d acc, items[i]? = some d → Iv i acc → B Iv i d acc) ∧ ∀ acc, Iv n acc → Q acc := by
  subst hi hn
  refine ⟨fun i acc => acc.length = i ∧ ∀ j a z, xs[j]? = some a → acc[j]? = some z → Rl j a z, ⟨rfl, fun j a z _ h => by simp at h⟩, fun i d acc hd' e => ?_, fun acc e => hd acc e.1 e.2⟩
  rw [List.getElem?_map] at hd'
  obtain ⟨a, ha, rfl⟩ := Option.map_eq_some_iff.mp hd'
  refine hs i a acc _ ha fun z hz => ⟨by rw [List.length_append, e.1]; rfl, fun j b y hb hy => ?_⟩
  by_cases hj : j < acc.length
  · rw [List.getElem?_append_left hj] at hy
    exact e.2 j b y hb hy
  · have hle : acc.length ≤ j := by omega
    rw [List.getElem?_append_right hle] at hy
    have h0 : j - acc.length = 0 := by
      have := (List.getElem?_eq_some_iff.mp hy).1
      simp at this
      omega
    rw [h0] at hy
    cases hy
    have : j = i := by rw [← e.1]; omega
    subst this
    rw [ha] at hb
    cases hb
    exact hz
/-- a loop: a fold -/
theorem iv_fold {Q : Es → Prop} {B : (Nat → Es → Prop) → Nat → Dv → Es → Prop} (xs : List α) (enc : α → Dv) (mk : S → Es) (f : S → α → S) (s0 : S) (I : Nat → S → Prop) (hi : items = xs.map enc) (hn : n = xs.length) (h0 : e0 = mk s0) (i0 : I 0 s0)
    (hI : ∀ i a s, xs[i]? = some a → I i s → I (i + 1) (f s a)) (hs : ∀ i a s (J : Nat → Es → Prop), xs[i]? = some a → I i s → J (i + 1) (mk (f s a)) → B J i (enc a) (mk s)) (hd : I xs.length (xs.foldl f s0) → Q (mk (xs.foldl f s0))) :
    ∃ Iv : Nat → Es → Prop, Iv 0 e0 ∧ (∀ i d es, items[i]? = some d → Iv i es → B Iv i d es) ∧ ∀ es, Iv n es → Q es := by
  subst hi h0 hn
  refine ⟨fun i es => es = mk ((xs.take i).foldl f s0) ∧ I i ((xs.take i).foldl f s0), ⟨rfl, i0⟩, fun i d es hd' e => ?_, fun es e => ?_⟩
  · rw [List.getElem?_map] at hd'
    obtain ⟨a, ha, rfl⟩ := Option.map_eq_some_iff.mp hd'
    obtain ⟨rfl, e⟩ := e
    have ht : (xs.take (i + 1)).foldl f s0 = f ((xs.take i).foldl f s0) a := by rw [List.take_add_one, ha]; simp
    exact hs i a _ _ ha e ⟨by rw [ht], by rw [ht]; exact hI i a _ ha e⟩
  · obtain ⟨rfl, e⟩ := e
    rw [List.take_length] at e ⊢
    exact hd e
/-- a loop: what stands at each turn, told by a property -/
theorem iv_inv {Q : Es → Prop} {B : (Nat → Es → Prop) → Nat → Dv → Es → Prop} (xs : List α) (enc : α → Dv) (mk : S → Es) (I : Nat → S → Prop) (hi : items = xs.map enc) (hn : n = xs.length) (h0 : ∃ s0, e0 = mk s0 ∧ I 0 s0)
    (hs : ∀ i a s (J : Nat → Es → Prop), xs[i]? = some a → I i s → (∀ s', I (i + 1) s' → J (i + 1) (mk s')) → B J i (enc a) (mk s)) (hd : ∀ s, I xs.length s → Q (mk s)) :
    ∃ Iv : Nat → Es → Prop, Iv 0 e0 ∧ (∀ i d es, items[i]? = some d → Iv i es → B Iv i d es) ∧ ∀ es, Iv n es → Q es := by
  subst hi hn
  refine ⟨fun i es => ∃ s, es = mk s ∧ I i s, h0, fun i d es hd' e => ?_, fun es e => ?_⟩
  · rw [List.getElem?_map] at hd'
    obtain ⟨a, ha, rfl⟩ := Option.map_eq_some_iff.mp hd'
    obtain ⟨s, rfl, e⟩ := e
    exact hs i a s _ ha e fun s' h => ⟨s', rfl, h⟩
  · obtain ⟨s, rfl, e⟩ := e
    exact hd s e
/-- a loop: what stands at each turn, as a function of the turn -/
theorem iv_det {Q : Es → Prop} {B : (Nat → Es → Prop) → Nat → Dv → Es → Prop} (xs : List α) (enc : α → Dv) (st : Nat → Es) (hi : items = xs.map enc) (hn : n = xs.length) (h0 : e0 = st 0)
    (hs : ∀ i a (J : Nat → Es → Prop), xs[i]? = some a → J (i + 1) (st (i + 1)) → B J i (enc a) (st i)) (hd : Q (st xs.length)) :
    ∃ Iv : Nat → Es → Prop, Iv 0 e0 ∧ (∀ i d es, items[i]? = some d → Iv i es → B Iv i d es) ∧ ∀ es, Iv n es → Q es :=
  iv_inv xs enc st (fun i s => s = i) hi hn ⟨0, h0, rfl⟩ (fun i a s J ha e k => by subst e; exact hs s a J ha (k (s + 1) rfl)) fun s e => by subst e; exact hd
theorem range_get {n i a : Nat} (h : (List.range n)[i]? = some a) : a = i ∧ i < n := by
  have hi := (List.getElem?_eq_some_iff.mp h).1
  rw [List.length_range] at hi
  rw [List.getElem?_range hi] at h
  exact ⟨(Option.some.inj h).symm, hi⟩
theorem rngD_eq {lo hi : Int} {a n : Nat} (h : lo = (a : Nat)) (h' : (hi - lo).toNat = n) : rngD lo (hi - lo).toNat = (List.range n).map fun j => .int ((a + j : Nat) : Int) := by
  subst h h'
  unfold rngD
  refine List.map_congr_left fun j _ => ?_
  rw [Int.natCast_add]
theorem rngD_zero {n : Nat} {m : Int} (h : m.toNat = n) : rngD 0 m.toNat = (List.range n).map fun j => .int ((j : Nat) : Int) := by
  subst h
  unfold rngD
  refine List.map_congr_left fun j _ => ?_
  rw [Int.zero_add]
end

/-! ### what the readings are made plain by -/
section
variable {i j : Int} {x y : Str} {ds es : List Dv} {ns : List Int}
theorem bAi : binD .Add (.int i) (.int j) = some (.int (i + j)) := rfl
theorem bAs : binD .Add (.str x) (.str y) = some (.str (x ++ y)) := rfl
theorem bAt : binD .Add (.tup ds) (.tup es) = some (.tup (ds ++ es)) := rfl
theorem bAl : binD .Add (.lst ds) (.lst es) = some (.lst (ds ++ es)) := rfl
theorem bSi : binD .Sub (.int i) (.int j) = some (.int (i - j)) := rfl
theorem bMi : binD .Mult (.int i) (.int j) = some (.int (i * j)) := rfl
theorem bMl : binD .Mult (.lst ds) (.int j) = some (.lst (List.replicate j.toNat ds).flatten) := rfl
theorem bDi : binD .FloorDiv (.int i) (.int j) = some (.int (i / j)) := rfl
theorem bRi : binD .Mod (.int i) (.int j) = some (.int (i % j)) := rfl
theorem bPi : binD .Pow (.int i) (.int j) = some (.int (i ^ j.toNat)) := rfl
theorem cAi : binC .Add (.int i) (.int j) = True := rfl
theorem cAs : binC .Add (.str x) (.str y) = (x.length + y.length ≤ 100000) := rfl
theorem cAt : binC .Add (.tup ds) (.tup es) = (ds.length + es.length ≤ 100000) := rfl
theorem cAl : binC .Add (.lst ds) (.lst es) = (ds.length + es.length ≤ 100000) := rfl
theorem cSi : binC .Sub (.int i) (.int j) = True := rfl
theorem cMi : binC .Mult (.int i) (.int j) = (CMul i j ∨ CMulW i j) := rfl
theorem cMl : binC .Mult (.lst ds) (.int j) = (ds.length * j.toNat ≤ 100000 ∧ -(2 ^ 63) ≤ j ∧ j < 2 ^ 63) := rfl
theorem cDi : binC .FloorDiv (.int i) (.int j) = CDivW i j := rfl
theorem cRi : binC .Mod (.int i) (.int j) = (0 < j) := rfl
theorem cPi : binC .Pow (.int i) (.int j) = CPow i j := rfl
theorem itL : itemsOf (.lst ds) = some ds := rfl
theorem itT : itemsOf (.tup ds) = some ds := rfl
theorem itR : itemsOf (.scr ns) = some (ns.map .int) := rfl
theorem seL : seqD (.lst ds) = some ds := rfl
theorem seT : seqD (.tup ds) = some ds := rfl
theorem seR : seqD (.scr ns) = some (ns.map .int) := rfl
theorem leL : lenD (.lst ds) = some ds.length := rfl
theorem leT : lenD (.tup ds) = some ds.length := rfl
theorem leR : lenD (.scr ns) = some ns.length := rfl
theorem leS : lenD (.str x) = some x.length := rfl
theorem lcL : lenC (.lst ds) = True := rfl
theorem lcT : lenC (.tup ds) = True := rfl
theorem lcR : lenC (.scr ns) = True := rfl
theorem lcS : lenC (.str x) = (x.length ≤ 100000) := rfl
theorem xcL : ixC (.lst ds) = True := rfl
theorem xcT : ixC (.tup ds) = True := rfl
theorem xcR : ixC (.scr ns) = True := rfl
theorem xcS : ixC (.str x) = (x.length ≤ 100000) := rfl
theorem orL : ordD .Lt i j = decide (i < j) := rfl
theorem orE : ordD .LtE i j = decide (i ≤ j) := rfl
theorem orG : ordD .Gt i j = decide (j < i) := rfl
theorem orH : ordD .GtE i j = decide (j ≤ i) := rfl
theorem mapI {r s : List Int} : (r.map Dv.int = s.map Dv.int) = (r = s) := propext ⟨fun h => by
  have := congrArg (List.map fun d => match d with | Dv.int i => i | _ => 0) h
  simpa [List.map_map, Function.comp_def] using this, fun h => by rw [h]⟩
theorem ixT0 {d0 : Dv} {r : List Dv} : ixD (.tup (d0 :: r)) (.int 0) = some d0 := atI_nat (j := 0) rfl
theorem ixT1 {d0 d1 : Dv} {r : List Dv} : ixD (.tup (d0 :: d1 :: r)) (.int 1) = some d1 := atI_nat (j := 1) rfl
theorem ixT2 {d0 d1 d2 : Dv} {r : List Dv} : ixD (.tup (d0 :: d1 :: d2 :: r)) (.int 2) = some d2 := atI_nat (j := 2) rfl
theorem ixT3 {d0 d1 d2 d3 : Dv} {r : List Dv} : ixD (.tup (d0 :: d1 :: d2 :: d3 :: r)) (.int 3) = some d3 := atI_nat (j := 3) rfl
theorem ixL0 {d0 : Dv} {r : List Dv} : ixD (.lst (d0 :: r)) (.int 0) = some d0 := atI_nat (j := 0) rfl
theorem ixL1 {d0 d1 : Dv} {r : List Dv} : ixD (.lst (d0 :: d1 :: r)) (.int 1) = some d1 := atI_nat (j := 1) rfl
theorem ixL2 {d0 d1 d2 : Dv} {r : List Dv} : ixD (.lst (d0 :: d1 :: d2 :: r)) (.int 2) = some d2 := atI_nat (j := 2) rfl
theorem ixL3 {d0 d1 d2 d3 : Dv} {r : List Dv} : ixD (.lst (d0 :: d1 :: d2 :: d3 :: r)) (.int 3) = some d3 := atI_nat (j := 3) rfl
theorem tyN {i : Int} {k : Bool} {x : Str} {ds : List Dv} : tyD (.non) = some "NoneType" := rfl
theorem tyI {i : Int} {k : Bool} {x : Str} {ds : List Dv} : tyD (.int i) = some "int" := rfl
theorem tyB {i : Int} {k : Bool} {x : Str} {ds : List Dv} : tyD (.bl k) = some "bool" := rfl
theorem tyS {i : Int} {k : Bool} {x : Str} {ds : List Dv} : tyD (.str x) = some "str" := rfl
theorem tyT {i : Int} {k : Bool} {x : Str} {ds : List Dv} : tyD (.tup ds) = some "tuple" := rfl
theorem tyL {i : Int} {k : Bool} {x : Str} {ds : List Dv} : tyD (.lst ds) = some "list" := rfl
theorem is_NoneType_int : isiS "NoneType" "int" = false := by decide +kernel
theorem is_NoneType_bool : isiS "NoneType" "bool" = false := by decide +kernel
theorem is_NoneType_str : isiS "NoneType" "str" = false := by decide +kernel
theorem is_NoneType_tuple : isiS "NoneType" "tuple" = false := by decide +kernel
theorem is_NoneType_list : isiS "NoneType" "list" = false := by decide +kernel
theorem is_int_int : isiS "int" "int" = true := by decide +kernel
theorem is_int_bool : isiS "int" "bool" = false := by decide +kernel
theorem is_int_str : isiS "int" "str" = false := by decide +kernel
theorem is_int_tuple : isiS "int" "tuple" = false := by decide +kernel
theorem is_int_list : isiS "int" "list" = false := by decide +kernel
theorem is_bool_int : isiS "bool" "int" = true := by decide +kernel
theorem is_bool_bool : isiS "bool" "bool" = true := by decide +kernel
theorem is_bool_str : isiS "bool" "str" = false := by decide +kernel
theorem is_bool_tuple : isiS "bool" "tuple" = false := by decide +kernel
theorem is_bool_list : isiS "bool" "list" = false := by decide +kernel
theorem is_str_int : isiS "str" "int" = false := by decide +kernel
theorem is_str_bool : isiS "str" "bool" = false := by decide +kernel
theorem is_str_str : isiS "str" "str" = true := by decide +kernel
theorem is_str_tuple : isiS "str" "tuple" = false := by decide +kernel
theorem is_str_list : isiS "str" "list" = false := by decide +kernel
theorem is_tuple_int : isiS "tuple" "int" = false := by decide +kernel
theorem is_tuple_bool : isiS "tuple" "bool" = false := by decide +kernel
theorem is_tuple_str : isiS "tuple" "str" = false := by decide +kernel
theorem is_tuple_tuple : isiS "tuple" "tuple" = true := by decide +kernel
theorem is_tuple_list : isiS "tuple" "list" = false := by decide +kernel
theorem is_list_int : isiS "list" "int" = false := by decide +kernel
theorem is_list_bool : isiS "list" "bool" = false := by decide +kernel
theorem is_list_str : isiS "list" "str" = false := by decide +kernel
theorem is_list_tuple : isiS "list" "tuple" = false := by decide +kernel
theorem is_list_list : isiS "list" "list" = true := by decide +kernel
end
end L3

/-! L3i: list.index of whole numbers. -/
namespace L3
open PySem PySem.Spec PyProof.Rows L2
section
variable {X : Cx} {R : RS} {e o : Expr} {w wo : WE} {apos cpos : Pos}
/-- x.index(n) in a list of whole numbers that holds it -/
def wIndexI (wo w : WE) : WE := fun es Q => wo es fun x => ∃ ns : List Int, x = .lst (ns.map .int) ∧ w es fun y => ∃ n : Int, y = .int n ∧ n ∈ ns ∧ ∀ j : Nat, ns[j]? = some n → (∀ m, m < j → ns[m]? ≠ some n) → Q (.int (j : Nat))
theorem first_at {ns : List Int} {n : Int} (h : n ∈ ns) : ∃ j : Nat, ns[j]? = some n ∧ ∀ m, m < j → ns[m]? ≠ some n := by
  induction ns with
  | nil => cases h
  | cons x r ih =>
    by_cases hx : x = n
    · exact ⟨0, by rw [hx]; rfl, fun m hm => absurd hm (Nat.not_lt_zero m)⟩
    · have hr : n ∈ r := (List.mem_cons.mp h).resolve_left fun z => hx z.symm
      obtain ⟨j, h1, h2⟩ := ih hr
      refine ⟨j + 1, by simpa using h1, fun m hm => ?_⟩
      cases m with
      | zero => simpa using hx
      | succ m => simpa using h2 m (by omega)
theorem de_indexI (ho : DB X R o wo) (he : DE X R e w)
    (hbase : attributeBase o "index" X.env (eval o X.env) = eval o X.env := by rfl)
    (hfew : ((backTo cpos (starEach [e] X.env)).all (fun x => !x.1) && (backToKw cpos (keywordEach [] X.env)).all (fun x => x.1.isSome)
      && decide (([e] : List Expr).length + ([] : List Keyword).length + (if ([] : List Keyword).isEmpty then 0 else 1) < 30)) = true := by rfl)
    (hline : (apos.endLine == cpos.line) = true := by rfl) (hs : starEach [e] X.env = (false, eval e X.env) :: starEach [] X.env := by rfl) (hplain : (backTo cpos (starEach [] X.env)).any (·.1) = false := by rfl) :
    DE X R (.Call (.Attribute o "index" apos) [e] [] cpos) (wIndexI wo w) := by
  refine ⟨fun C => PE.imp (pe_bm PySem.F.plainAttrs_list PySem.F.slot_list_index PySem.F.type_list_index mt_index (ho.pe C) (pa_cons (he.pe C) pa_nil hs) hbase hfew hline hs hplain) fun σ H Q ⟨es, ok, q⟩ => ⟨es, ok, ho.mono es _ _ (fun d ⟨ns, e1, k⟩ v H1 a1 r1 => ?_) q⟩,
    fun es P P' f q => ho.mono es _ _ (fun d ⟨ns, e1, k⟩ => ⟨ns, e1, he.mono es _ _ (fun y ⟨n, e2, h1, k⟩ => ⟨n, e2, h1, fun j a b => f _ (k j a b)⟩) k⟩) q⟩
  subst e1
  obtain ⟨a, xs, rfl, h1, q1⟩ := r1.lst
  refine ⟨.inl ⟨rfl, xs, .inl h1⟩, es, ok.aft a1, he.mono es _ _ (fun y ⟨n, e2, hn, kk⟩ u H2 a2 r2 => ?_) k⟩
  subst e2
  cases r2
  obtain ⟨a', xs', e3, h2, q2⟩ := (r1.aft (ok.aft a1) a2).lst
  cases e3
  have ei := RepL.ints q2
  subst ei
  obtain ⟨j, hj, hm⟩ := first_at hn
  refine ⟨a, _, .int n, j, .int n, rfl, rfl, .inl h2, rfl, ?_, by rw [List.getElem?_map, hj]; rfl, ?_, fun m z' hmj hz => ?_, kk j hj hm _ H2 (a1.trans a2) (.int _)⟩
  · rw [List.all_map]
    exact List.all_eq_true.mpr fun _ _ => rfl
  · show (n == n) = true
    exact beq_self_eq_true n
  · rw [List.getElem?_map] at hz
    obtain ⟨c, hc, rfl⟩ := Option.map_eq_some_iff.mp hz
    show (c == n) = false
    exact beq_eq_false_iff_ne.mpr fun z => hm m hmj (by rw [hc, z])
end
end L3

/-! L3h: the deck that a law draws from: a resource. -/
namespace L3
open PySem PySem.Spec PyProof.Rows L2

/-- the deck: its list at dk, the cells at cl -/
def RD (i : Addr × Addr) : RS where
  F := fun a => a = i.1 ∨ a = i.2
  Z := fun H => ∃ (c s : Int) (xs : List Int), H i.1 = some (.lst [.ref i.2, .int c, .int s]) ∧ H i.2 = some (.lst (xs.map V.int)) ∧ 0 < xs.length ∧ xs.length ≤ 64
  zst := fun H H' ⟨c, s, xs, h1, h2, h3⟩ k => ⟨c, s, xs, k _ _ (.inl (.inl rfl)) h1, k _ _ (.inl (.inr rfl)) h2, h3⟩
theorem RD_ne {i : Addr × Addr} {H : Hp} {c s : Int} {xs : List Int} (h1 : H i.1 = some (.lst [.ref i.2, .int c, .int s])) (h2 : H i.2 = some (.lst (xs.map V.int))) : i.2 ≠ i.1 := fun e => by
  rw [e, h1] at h2
  cases xs with
  | nil => cases h2
  | cons x r => cases h2

def flatE : Es → Bool
  | [] => true
  | .no :: r => flatE r
  | .v d :: r => flat d && flatE r
  | .own _ _ :: _ => false
  | .many _ _ :: _ => false
  | .st _ :: _ => false
theorem flatE_owned : ∀ {es : Es}, flatE es = true → owned es = []
  | [], _ => rfl
  | .no :: r, h => flatE_owned (es := r) h
  | .v d :: r, h => flatE_owned (es := r) (Bool.and_eq_true_iff.mp h).2
  | .own _ _ :: _, h => nomatch h
  | .many _ _ :: _, h => nomatch h
  | .st _ :: _, h => nomatch h
theorem flatE_many : ∀ {es : Es} {i : Nat} {as : List Addr} {ds : List Dv}, flatE es = true → es[i]? ≠ some (.many as ds)
  | [], _, _, _, _ => by simp
  | .no :: r, 0, _, _, h => by simp
  | .v d :: r, 0, _, _, h => by simp
  | .no :: r, i + 1, _, _, h => by simpa using flatE_many (es := r) (i := i) h
  | .v d :: r, i + 1, _, _, h => by simpa using flatE_many (es := r) (i := i) (Bool.and_eq_true_iff.mp h).2
  | .own _ _ :: _, _, _, _, h => nomatch h
  | .many _ _ :: _, _, _, _, h => nomatch h
  | .st _ :: _, _, _, _, h => nomatch h
theorem flatE_st : ∀ {es : Es} {i : Nat} {ds : List Dv}, flatE es = true → es[i]? ≠ some (.st ds)
  | [], _, _, _ => by simp
  | .no :: r, 0, _, h => by simp
  | .v d :: r, 0, _, h => by simp
  | .no :: r, i + 1, _, h => by simpa using flatE_st (es := r) (i := i) h
  | .v d :: r, i + 1, _, h => by simpa using flatE_st (es := r) (i := i) (Bool.and_eq_true_iff.mp h).2
  | .own _ _ :: _, _, _, h => nomatch h
  | .many _ _ :: _, _, _, h => nomatch h
  | .st _ :: _, _, _, h => nomatch h
theorem flatE_get : ∀ {es : Es} {i : Nat} {d : Dv}, flatE es = true → es[i]? = some (.v d) → flat d = true
  | [], _, _, _, h => by simp at h
  | .no :: r, 0, _, _, h => by simp at h
  | .v d :: r, 0, d', h, e => by
    have hd : d = d' := by simpa using e
    rw [← hd]
    exact (Bool.and_eq_true_iff.mp h).1
  | .no :: r, i + 1, _, h, e => flatE_get (es := r) (i := i) h (by simpa using e)
  | .v d :: r, i + 1, _, h, e => flatE_get (es := r) (i := i) (Bool.and_eq_true_iff.mp h).2 (by simpa using e)
  | .own _ _ :: _, _, _, h, _ => nomatch h
  | .many _ _ :: _, _, _, h, _ => nomatch h
  | .st _ :: _, _, _, h, _ => nomatch h
/-- another entry, another resource: where only flat things stand -/
theorem Ok.reset {K : PySem.W.Frag} {R R' : RS} {C : DC R} {C' : DC R'} {es : Es} {σ : L2.St} {H : Hp} (o : Ok K C es σ H) (hf : flatE es = true) (ext : Ext R'.F C'.H0 H) (z : R'.Z H) (hg : C'.gh = []) (hS : ∀ vs, R'.S vs C'.H0 → R'.S vs H) : Ok K C' es σ H where
  len := o.len
  val := fun i d h => let ⟨x, e, r⟩ := o.val i d h; ⟨x, e, r.flat (flatE_get hf h)⟩
  own := fun i l d h => by
    have := mem_owned h
    rw [flatE_owned hf] at this
    cases this
  many := fun i as ds h => absurd h (flatE_many hf)
  fresh := fun l h => by rw [flatE_owned hf] at h; cases h
  nd := by rw [flatE_owned hf]; exact List.nodup_nil
  ext := ext
  z := z
  gh := fun p hp => by rw [hg] at hp; cases hp
  ro := fun _ => hS
  stt := fun i ds h => absurd h (flatE_st hf)
  one := fun i j ds ds' h => absurd h (flatE_st hf)
section
variable {X : Cx} {e : Expr} {es' : List Expr} {wt : WA} {pos p spos : Pos} {S : FSpec} {x y : Str} {j k : Nat} {rest : List Stmt} {t : Addr × Addr → WS}
/-- deck = _law_deck(script): from here on the deck is the resource -/
def wsDeck (slot : Nat) (S : FSpec) (wt : WA) (t : Addr × Addr → WS) : WS := fun D es => flatE es = true ∧ wt es fun ds => flatL ds = true ∧ S.W ds fun d =>
  (∃ (xs : List Int) (c s : Int), d = .lst [.lst (xs.map .int), .int c, .int s] ∧ 0 < xs.length ∧ xs.length ≤ 64) ∧ ∀ i : Addr × Addr, t i ⟨fun _ => False, fun d => flat d = true ∧ D.rt d, fun _ => False, fun _ => False⟩ (es.set slot (.v (.ref i.1)))
theorem dss_deck {slot : Nat} {py : Pos} (c : Cl X.prog X.w X.K X.mg X.base k x (spP X.K S)) (hr : Room j X.A) (hg : Gl X x) (hN : X.N.Nodup) (ha : DA X R0 (e :: es') wt) (hrest : ∀ i, DSs X (RD i) rest (t i)) (hk : k ≤ j := by decide) (hdb : (x == ("__debug__" : Str)) = false := by decide)
    (he : starEach (e :: es') X.env = (false, eval e X.env) :: starEach es' X.env := by rfl) (hpl : (backTo pos (starEach es' X.env)).any (·.1) = false := by rfl)
    (hi : X.N[slot]? = some y := by rfl) (hx : Loc X.env.scope y := by first | exact Or.inl rfl | exact Or.inr rfl) (hs : swapsWith (.Call (.Name x p) (e :: es') [] pos) (some (.Name y py)) spos.line X.env = pure false := by rfl)
    (hf : X.fn y = true ∨ X.env.scope.names.lookup y = some .local := by first | exact .inl rfl | exact .inr rfl) :
    DSs X R0 (.Assign [.Name y py] (.Call (.Name x p) (e :: es') [] pos) spos :: rest) (wsDeck slot S wt t) := by
  obtain ⟨f, fd, ps, F, hm, hkp, hb⟩ := c.ex
  refine ⟨fun C => ?_, fun D D' es hD ⟨h1, q⟩ => ⟨h1, ha.mono es _ _ (fun ds ⟨hfl, k⟩ => ⟨hfl, S.mono ds _ _ (fun d ⟨h, k⟩ => ⟨h, fun i => (hrest i).mono ⟨fun _ => False, fun d => flat d = true ∧ D.rt d, fun _ => False, fun _ => False⟩ ⟨fun _ => False, fun d => flat d = true ∧ D'.rt d, fun _ => False, fun _ => False⟩ _ ⟨fun _ h => h, fun d h => ⟨h.1, hD.rt d h.2⟩, fun _ h => h, fun _ h => h⟩ (k i)⟩) k⟩) q⟩⟩
  have hpe : PE X (.Call (.Name x p) (e :: es') [] pos) (fun σ H Q => ∃ es, Ok X.K C es σ H ∧ flatE es = true ∧ wt es fun ds => flatL ds = true ∧ S.W ds fun d => (∃ (xs : List Int) (c s : Int), d = .lst [.lst (xs.map .int), .int c, .int s] ∧ 0 < xs.length ∧ xs.length ≤ 64) ∧
      ∀ (i : Addr × Addr) (H' : Hp), Ext No H H' → H i.1 = none → H i.2 = none → H' i.1 ≠ none → H' i.2 ≠ none → (RD i).Z H' → Q (.ref i.1) H') := by
    refine PE.imp (pe_call F (hr.mono hk) hg hm hkp hb .nil pass0 (ha.pa C) hdb he hpl) fun σ H Q ⟨es, o, hfe, q⟩ => ⟨es, o, ha.mono es _ _ (fun ds ⟨hfl, h⟩ vs H1 a1 r1 => ?_) q⟩
    show spP X.K S (vs ++ []) H1 Q E0
    rw [List.append_nil]
    refine ⟨fun a => H1 a ≠ none, ds, r1.flat hfl, fun a h => h, fun _ z => z.elim, trivial, S.mono ds _ _ (fun d ⟨⟨xs, c, s, e, h1, h2⟩, k⟩ v H' a r => ?_) h⟩
    subst e
    cases r with
    | lst hl rl =>
      cases rl with
      | cons ra rl =>
        cases rl with
        | cons rb rl =>
          cases rl with
          | cons rc rl =>
            cases rl
            cases rb
            cases rc
            cases ra with
            | lst hl2 rl2 =>
              have hn : ∀ l, ¬ H1 l ≠ none → H1 l = none := fun l z => Classical.byContradiction z
              rw [RepL.ints rl2] at hl2
              exact k (_, _) H' ((a1.ext.of0 : Ext No H H1).trans a.ext) (a1.ext.live _ (hn _ hl.2)) (a1.ext.live _ (hn _ hl2.2)) (by rw [hl.1]; exact fun z => nomatch z) (by rw [hl2.1]; exact fun z => nomatch z) ⟨c, s, xs, hl.1, hl2.1, h1, h2⟩
  have hrst : PSs X rest (fun D σ H => ∃ (i : Addr × Addr) (C' : DC (RD i)), liftS X.K C' (t i) D σ H) := ⟨fun pins s σ H D I ⟨i, C', q⟩ => ((hrest i).pss C').run pins s σ H D I q⟩
  refine PSs.imp (pss_cons (ps_set hN hi hx hpe hs hf) hrst) fun D σ H ⟨es, o, hfe, q⟩ => ⟨es, o, hfe, ha.mono es _ _ (fun ds ⟨hfl, k⟩ => ⟨hfl, S.mono ds _ _ (fun d ⟨h, k⟩ => ⟨h, fun i H' e0 n1 n2 l1 l2 z => ?_⟩) k⟩) q⟩
  have hH0 : ∀ a, a = i.1 ∨ a = i.2 → C.H0 a = none := fun a h => h.elim (fun h => by rw [h]; exact o.ext.live _ n1) fun h => by rw [h]; exact o.ext.live _ n2
  let C' : DC (RD i) := ⟨(RD i).F, H', [], fun a h => h, fun a h => h.elim (fun h => by rw [h]; exact l1) fun h => by rw [h]; exact l2⟩
  have o1 := (o.aft (o.aft0 e0)).setV' (i := slot) (.ref i.1)
  have hf' : flatE (es.set slot (.v (.ref i.1))) = true := by
    have gen : ∀ (es : Es) (j : Nat), flatE es = true → flatE (es.set j (.v (.ref i.1))) = true := by
      intro es
      induction es with
      | nil => intro j h; rfl
      | cons s r ih =>
        intro j h
        cases s with
        | own l d => cases h
        | many as ds => cases h
        | st ds => cases h
        | no => cases j with
          | zero => exact h
          | succ j => exact ih j h
        | v d =>
          have h' := Bool.and_eq_true_iff.mp h
          cases j with
          | zero => exact h'.2
          | succ j => exact Bool.and_eq_true_iff.mpr ⟨h'.1, ih j h'.2⟩
    exact gen es slot hfe
  refine ⟨i, C', _, o1.reset hf' (Ext.refl _) z rfl (fun _ s => s), (hrest i).mono ⟨fun _ => False, fun d => flat d = true ∧ (endsD X.K C D).rt d, fun _ => False, fun _ => False⟩ (endsD X.K C' D) _ ⟨fun _ h => h.elim, fun d h v H2 ex2 z2 r2 => h.2 v H2 ?_ trivial ⟨fun _ => ⟨(r2.1 rfl).1.flat h.1, fun _ _ => trivial⟩, fun z => by cases z⟩, fun _ h => h.elim, fun _ h => h.elim⟩ (k i)⟩
  refine ⟨fun a u hu hk => ?_, fun a hn => ?_⟩
  · have h3 : H' a = some u := (o.ext.trans e0).keep a u hu hk
    exact ex2.keep a u h3 (.inl fun hF => by rw [hH0 a hF] at hu; cases hu)
  · exact o.ext.live a (e0.live a (ex2.live a hn))
end
end L3

/-! L3p: sorted, min, max of data (whole numbers, texts, tuples of such, any depth). -/
namespace L3
open PySem PySem.Spec PyProof.Rows L2

theorem toPyL_map : ∀ ds : List Dv, toPyL ds = ds.map toPy
  | [] => rfl
  | d :: ds => by rw [toPyL, toPyL_map ds, List.map_cons]
/-- a < b, as Python says -/
def ltD (a b : Dv) : Bool := PySem.W.dataLt (toPy a) (toPy b)
def leD (a b : Dv) : Bool := !ltD b a
theorem leD_eq : PySem.W.dataLe false toPy = leD := by
  rw [PySem.W.dataLe_eq]; rfl
abbrev encP : V × Dv → PyData := fun p => toPy p.2
theorem leP_eq : PySem.W.dataLe false encP = fun p q => leD p.2 q.2 := by
  rw [PySem.W.dataLe_eq]; rfl
/-- what can be put in order -/
def OrdC (xs : List Dv) : Prop := (∃ n, n ≤ 60 ∧ ∀ d ∈ xs, pl n d = true) ∧ (∀ x ∈ xs, ∀ y ∈ xs, PySem.W.alike (toPy x) (toPy y) = true)
def SrtC (xs : List Dv) : Prop := (∀ d ∈ xs, ∃ x r, d = .tup (x :: r)) ∨ ∀ d ∈ xs, d ≠ .non ∧ ∀ r, d ≠ .tup r
theorem toPy_tup {d : Dv} {r : List PyData} (h : toPy d = .tuple r) : ∃ ds, d = .tup ds := by
  cases d <;> simp [toPy] at h
  exact ⟨_, rfl⟩
theorem toPy_non {n : Nat} {d : Dv} (hp : pl n d = true) (h : toPy d = .none) : d = .non := by
  cases d <;> simp [toPy] at h <;> rfl
theorem SrtC.py {n : Nat} {xs : List Dv} (h : SrtC xs) (hp : ∀ d ∈ xs, pl n d = true) : PySem.W.Sortable (xs.map toPy) := by
  rcases h with h | h
  · refine .inl fun d hd => ?_
    obtain ⟨z, hz, rfl⟩ := List.mem_map.mp hd
    obtain ⟨x, r, e⟩ := h z hz
    exact ⟨toPy x, toPyL r, by rw [e]; simp [toPy, toPyL]⟩
  · refine .inr fun d hd => ?_
    obtain ⟨z, hz, rfl⟩ := List.mem_map.mp hd
    obtain ⟨h1, h2⟩ := h z hz
    exact ⟨fun e => h1 (toPy_non (hp z hz) e), fun r e => by
      obtain ⟨ds, e⟩ := toPy_tup e
      exact h2 ds e⟩
theorem OrdC.alike {xs : List Dv} (h : OrdC xs) : PySem.W.AllAlike (xs.map toPy) := by
  intro d hd d' hd'
  obtain ⟨z, hz, rfl⟩ := List.mem_map.mp hd
  obtain ⟨y, hy, rfl⟩ := List.mem_map.mp hd'
  exact h.2 z hz y hy
section
variable {X : Cx} {R : RS}
open PySem.W in
theorem paired_each {bs : List (V × Dv)} : ∀ {us : List Value}, Vals (bs.map (·.1)) us → EachIs (fun (u : Value) (b : V × Dv) => RelV b.1 u) us bs := by
  induction bs with
  | nil => intro us h; cases h; exact .nil
  | cons b r ih =>
    intro us h
    rw [List.map_cons] at h
    cases h with
    | cons h1 h2 => exact .cons h1 (ih h2)
open PySem.W in
theorem each_paired {bs : List (V × Dv)} {us : List Value} (h : EachIs (fun (u : Value) (b : V × Dv) => RelV b.1 u) us bs) : Vals (bs.map (·.1)) us := by
  induction h with
  | nil => exact .nil
  | cons h1 _ ih => rw [List.map_cons]; exact .cons h1 ih
open PySem.W in
theorem reads_each {h : Heap} : ∀ {us : List Value} {bs : List (V × Dv)} {as : List Addr}, ReadsAll h us (bs.map encP) as → EachIs (fun u b => ∃ as, Reads h u (encP b) as) us bs := readsAll_each encP
/-- sorted(xs): a new list -/
theorem cr_sortD (hu : X.A.units + 64 < cLine) : CallR X (.builtin "sorted") (fun vs H Q => ∃ (a : Addr) (bs : List (V × Dv)), vs = [V.ref a] ∧ SqL X.K H a (bs.map (·.1)) ∧ DpAll X.K H (bs.map (·.1)) (toPyL (bs.map (·.2))) ∧ OrdC (bs.map (·.2)) ∧ SrtC (bs.map (·.2)) ∧
    ∀ p, H p = none → Q (.ref p) (upd H p (.lst ((bs.mergeSort fun p q => leD p.2 q.2).map (·.1))))) := by
  intro pins s σ H vs us Q I r h
  obtain ⟨a, bs, rfl, hs, hd, ho, hk, q⟩ := h
  obtain ⟨its, rv, hl, hz⟩ := I.list hs
  rw [Vals.ref1 r]
  obtain ⟨as, hr⟩ := Dp.readsAll I _ _ its hd rv
  obtain ⟨⟨n, hn, hp⟩, hal⟩ := ho
  rw [toPyL_map, List.map_map] at hr
  have hlen : bs.length ≤ sizeLine := by rw [List.length_map] at hz; exact hz
  refine PySem.W.sorted_data (R := fun (u : Value) (b : V × Dv) => RelV b.1 u) (bs := bs) (enc := encP) hl.isList (paired_each rv) (reads_each hr) ?_ ?_ hlen (fun b hb => ?_) fun out h1 h2 => ?_
  · have := OrdC.alike ⟨⟨n, hn, hp⟩, hal⟩
    rwa [List.map_map] at this
  · have := SrtC.py hk hp
    rwa [List.map_map] at this
  · have := (pl_lay (hp b.2 (List.mem_map.mpr ⟨b, hb, rfl⟩))).2
    show X.A.units + 2 + (toPy b.2).depth < cLine
    omega
  · rw [leP_eq] at h2
    obtain ⟨ep, he'⟩ := PyProof.Rows.sortedAll_at s.heap its out.toArray
    have hlen' : ((bs.mergeSort fun p q => leD p.2 q.2).map (·.1)).length ≤ sizeLine := by rw [List.length_map, List.length_mergeSort]; exact hlen
    exact ⟨.ref _, upd H (s.heap.objs.size + 1) (.lst ((bs.mergeSort fun p q => leD p.2 q.2).map (·.1))), I.laid (t' := s.toks) (fun _ _ => PyProof.Rows.sortedAll_old) (Nat.le_succ _) ⟨hlen', out, ep, each_paired h2, he'⟩, rfl, q _ (I.hok.fresh (Nat.le_succ _))⟩
theorem RepL.zipE {K : PySem.W.Frag} {Av : Addr → Prop} {H : Hp} : ∀ {vs : List V} {ds : List Dv}, RepL K Av H vs ds → ∃ bs : List (V × Dv), vs = bs.map (·.1) ∧ ds = bs.map (·.2) ∧ ∀ b ∈ bs, Rep K Av H b.1 b.2
  | _, _, .nil => ⟨[], rfl, rfl, fun _ h => nomatch h⟩
  | _, _, .cons (x := x) (d := d) q r => by
    obtain ⟨bs, e1, e2, h⟩ := RepL.zipE r
    refine ⟨(x, d) :: bs, by rw [e1]; rfl, by rw [e2]; rfl, fun b hb => ?_⟩
    rcases List.mem_cons.mp hb with z | z
    · rw [z]; exact q
    · exact h b z
theorem RepL.ofZip {K : PySem.W.Frag} {Av : Addr → Prop} {H : Hp} : ∀ {bs : List (V × Dv)}, (∀ b ∈ bs, Rep K Av H b.1 b.2) → RepL K Av H (bs.map (·.1)) (bs.map (·.2))
  | [], _ => .nil
  | b :: r, h => .cons (h b List.mem_cons_self) (RepL.ofZip fun b hb => h b (List.mem_cons_of_mem _ hb))
def wSort (w : WE) : WA := fun es Q => w es fun x => ∃ xs, x = .lst xs ∧ OrdC xs ∧ SrtC xs ∧ Q (xs.mergeSort leD)
section
variable {e : Expr} {es' : List Expr} {w : WE} {wt : WA} {pos p : Pos}
theorem dn_sorted (hu : X.A.units + 64 < cLine) (hm : X.mg "sorted" = none) (ha : DB X R e w) (hg : Gl X "sorted" := by rfl) (he : starEach [e] X.env = (false, eval e X.env) :: starEach [] X.env := by rfl) (hpl : (backTo pos (starEach [] X.env)).any (·.1) = false := by rfl) :
    DN X R (.Call (.Name "sorted" p) [e] [] pos) (wSort w) := by
  refine ⟨fun C => PE.imp (pe_callB (cr_sortD hu) hg hm (by rfl) (pa_cons (ha.pe C) pa_nil he) (by decide) (by decide) he hpl) fun σ H Q ⟨es, o, q⟩ => ⟨es, o, ha.mono es _ _ (fun d ⟨xs, ex, ho, hk, k⟩ v H1 a1 r1 => ?_) q⟩, fun es P P' f q => ha.mono es _ _ (fun d ⟨xs, h1, h2, h3, k⟩ => ⟨xs, h1, h2, h3, f _ k⟩) q⟩
  subst ex
  have hdp : DpAll X.K H1 [v] [.list (toPyL xs)] := .cons (by
    obtain ⟨⟨n, hn, hp⟩, _⟩ := ho
    have hlay : (toPy (.lst xs)).canLay0 = true := by
      simp only [toPy, PyData.canLay0]
      exact lay_all fun d hd => (pl_lay (hp d hd)).1
    have := r1.dp hlay
    simpa only [toPy] using this) .nil
  obtain ⟨a, ys, rfl, hs, rr⟩ := r1.lst
  obtain ⟨bs, rfl, rfl, hb⟩ := rr.zipE
  have hda : DpAll X.K H1 (bs.map (·.1)) (toPyL (bs.map (·.2))) := by
    obtain ⟨⟨n, hn, hp⟩, _⟩ := ho
    exact RepL.dp rr (lay_all fun d hd => (pl_lay (hp d hd)).1)
  refine ⟨a, bs, rfl, .inl hs, hda, ho, hk, fun l hl => ?_⟩
  have a2 := (o.aft a1).aft_new (u := .lst ((bs.mergeSort fun p q => leD p.2 q.2).map (·.1))) hl
  refine k _ _ (a1.trans a2) ⟨a1.ext.live _ hl, _, upd_same, ?_⟩
  have hm' : (bs.map (·.2)).mergeSort leD = (bs.mergeSort fun p q => leD p.2 q.2).map (·.2) := (List.map_mergeSort (r := fun p q : V × Dv => leD p.2 q.2) (s := leD) (f := fun x : V × Dv => x.2) (l := bs) fun _ _ _ _ => rfl).symm
  rw [hm']
  refine ((RepL.ofZip fun b hbm => hb b ((List.mergeSort_perm _ _).mem_iff.mp hbm)).more (Av' := fun b => C.Av es b ∨ b = l) fun b z => z.imp id fun z => z ▸ hl).ext (F := R.F) (fun b f => .inl (C.avF es b f)) a2.ext
/-! min, max -/
def minDv (x : Dv) (xs : List Dv) : Dv := xs.foldl (fun a y => if ltD y a = true then y else a) x
def maxDv (x : Dv) (xs : List Dv) : Dv := xs.foldl (fun a y => if ltD a y = true then y else a) x
theorem minDv_py (x : Dv) (xs : List Dv) : toPy (minDv x xs) = PySem.W.minD (toPy x) (xs.map toPy) := by
  induction xs generalizing x with
  | nil => rfl
  | cons y r ih =>
    show toPy (minDv (if ltD y x = true then y else x) r) = PySem.W.minD (if PySem.W.dataLt (toPy y) (toPy x) then toPy y else toPy x) (r.map toPy)
    rw [ih]
    unfold ltD
    split <;> rfl
theorem maxDv_py (x : Dv) (xs : List Dv) : toPy (maxDv x xs) = PySem.W.maxD (toPy x) (xs.map toPy) := by
  induction xs generalizing x with
  | nil => rfl
  | cons y r ih =>
    show toPy (maxDv (if ltD x y = true then y else x) r) = PySem.W.maxD (if PySem.W.dataLt (toPy x) (toPy y) then toPy y else toPy x) (r.map toPy)
    rw [ih]
    unfold ltD
    split <;> rfl
theorem minDv_mem (x : Dv) (xs : List Dv) : minDv x xs ∈ x :: xs := by
  induction xs generalizing x with
  | nil => exact List.mem_cons_self
  | cons y r ih =>
    have h := ih (if ltD y x = true then y else x)
    show minDv (if ltD y x = true then y else x) r ∈ _
    rcases List.mem_cons.mp h with e | e
    · rw [e]; split <;> simp
    · exact List.mem_cons_of_mem _ (List.mem_cons_of_mem _ e)
theorem maxDv_mem (x : Dv) (xs : List Dv) : maxDv x xs ∈ x :: xs := by
  induction xs generalizing x with
  | nil => exact List.mem_cons_self
  | cons y r ih =>
    have h := ih (if ltD x y = true then y else x)
    show maxDv (if ltD x y = true then y else x) r ∈ _
    rcases List.mem_cons.mp h with e | e
    · rw [e]; split <;> simp
    · exact List.mem_cons_of_mem _ (List.mem_cons_of_mem _ e)
theorem OrdC.allAlike {xs : List Dv} (h : OrdC xs) (hn : ∀ d ∈ xs, d ≠ .non) : PySem.W.AlikeAll (xs.map toPy) := by
  obtain ⟨⟨n, _, hp⟩, _⟩ := id h
  refine ⟨h.alike, fun d hd e => ?_⟩
  obtain ⟨z, hz, rfl⟩ := List.mem_map.mp hd
  exact hn z hz (toPy_non (hp z hz) e)
theorem depth_le {n : Nat} {xs : List Dv} (hp : ∀ d ∈ xs, pl n d = true) : PyData.depthAll (xs.map toPy) ≤ n := by
  rw [← toPyL_map]
  exact depth_all fun d hd => (pl_lay (hp d hd)).2
/-- which one it is -/
theorem which {h : Heap} {bs : List (V × Dv)} {its : List Value} {i : Nat} {v : Value} {m : Dv} {as as' : List Addr} (ho : OrdC (bs.map (·.2))) (rv : Vals (bs.map (·.1)) its) (hr : ReadsAll h its (bs.map encP) as) (hv : its.toArray[i]? = some v) (hm : m ∈ bs.map (·.2)) (r : Reads h v (toPy m) as') :
    ∃ x : V, (x, m) ∈ bs ∧ RelV x v := by
  have hv' : its[i]? = some v := by simpa using hv
  have e1 := paired_each rv
  have hlen : its.length = bs.length := e1.length
  have hi : i < its.length := (List.getElem?_eq_some_iff.mp hv').1
  have hb : bs[i]? = some (bs[i]'(by omega)) := List.getElem?_eq_getElem (by omega)
  have hz : (v, bs[i]'(by omega)) ∈ its.zip bs := by
    refine List.mem_of_getElem? (i := i) ?_
    rw [List.getElem?_zip_eq_some]
    exact ⟨hv', hb⟩
  have r1 := e1.zip _ hz
  obtain ⟨as2, r2⟩ := (reads_each hr).zip _ hz
  have hmem : bs[i]'(by omega) ∈ bs := List.getElem_mem _
  obtain ⟨⟨n, hn, hp⟩, hal⟩ := ho
  have e2 := PySem.W.alike_unique _ _ _ _ _ (hal _ (List.mem_map.mpr ⟨_, hmem, rfl⟩) _ hm) r2 r
  have p1 := hp _ (List.mem_map.mpr ⟨_, hmem, rfl⟩)
  have e3 : (bs[i]'(by omega)).2 = m := by
    refine (pl_eqv n n _ _ p1 (hp _ hm)).mp ?_
    have e2' : toPy (bs[i]'(by omega)).2 = toPy m := e2
    rw [e2']
    exact (pl_eqv n n m m (hp _ hm) (hp _ hm)).mpr rfl
  exact ⟨(bs[i]'(by omega)).1, by rw [← e3]; exact hmem, r1⟩
theorem cr_minD (hc : X.calm = true) (hu : X.A.units + 64 < cLine) : CallR X (.builtin "min") (fun vs H Q => ∃ (a : Addr) (b : V × Dv) (bs : List (V × Dv)), vs = [V.ref a] ∧ SqL X.K H a ((b :: bs).map (·.1)) ∧ DpAll X.K H ((b :: bs).map (·.1)) (toPyL ((b :: bs).map (·.2))) ∧ OrdC ((b :: bs).map (·.2)) ∧ (∀ d ∈ (b :: bs).map (·.2), d ≠ .non) ∧
    ∀ v, (v, minDv b.2 (bs.map (·.2))) ∈ b :: bs → Q v H) := by
  intro pins s σ H vs us Q I r h
  obtain ⟨a, b, bs, rfl, hs, hd, ho, hk, q⟩ := h
  obtain ⟨its, rv, hl, hz⟩ := I.list hs
  rw [Vals.ref1 r]
  obtain ⟨as, hr⟩ := Dp.readsAll I _ _ its hd rv
  rw [toPyL_map, List.map_map] at hr
  have ha := ho.allAlike hk
  obtain ⟨⟨n, hn, hp⟩, hal⟩ := id ho
  have hdp := depth_le hp
  have hr' : ReadsAll s.heap its.toArray.toList (toPy b.2 :: (bs.map (·.2)).map toPy) as := by
    rw [List.map_map]; exact hr
  refine PySem.W.min_list_data (I.ok.hd hc) hl.isList hr' ha ?_ fun i v h' tk as' hv hm hkp => ?_
  · show X.A.units + 1 + PyData.depthAll (List.map toPy ((b :: bs).map (·.2))) < cLine
    omega
  · rw [← minDv_py] at hm
    obtain ⟨x, hx, rx⟩ := which (h := h') ho rv (ReadsAll.keeps hkp hr) hv (minDv_mem b.2 _) hm
    exact ⟨x, H, I.kept hkp, rx, q x hx⟩
theorem cr_maxD (hc : X.calm = true) (hu : X.A.units + 64 < cLine) : CallR X (.builtin "max") (fun vs H Q => ∃ (a : Addr) (b : V × Dv) (bs : List (V × Dv)), vs = [V.ref a] ∧ SqL X.K H a ((b :: bs).map (·.1)) ∧ DpAll X.K H ((b :: bs).map (·.1)) (toPyL ((b :: bs).map (·.2))) ∧ OrdC ((b :: bs).map (·.2)) ∧ (∀ d ∈ (b :: bs).map (·.2), d ≠ .non) ∧
    ∀ v, (v, maxDv b.2 (bs.map (·.2))) ∈ b :: bs → Q v H) := by
  intro pins s σ H vs us Q I r h
  obtain ⟨a, b, bs, rfl, hs, hd, ho, hk, q⟩ := h
  obtain ⟨its, rv, hl, hz⟩ := I.list hs
  rw [Vals.ref1 r]
  obtain ⟨as, hr⟩ := Dp.readsAll I _ _ its hd rv
  rw [toPyL_map, List.map_map] at hr
  have ha := ho.allAlike hk
  obtain ⟨⟨n, hn, hp⟩, hal⟩ := id ho
  have hdp := depth_le hp
  have hr' : ReadsAll s.heap its.toArray.toList (toPy b.2 :: (bs.map (·.2)).map toPy) as := by
    rw [List.map_map]; exact hr
  refine PySem.W.max_list_data (I.ok.hd hc) hl.isList hr' ha ?_ fun i v h' tk as' hv hm hkp => ?_
  · show X.A.units + 1 + PyData.depthAll (List.map toPy ((b :: bs).map (·.2))) < cLine
    omega
  · rw [← maxDv_py] at hm
    obtain ⟨x, hx, rx⟩ := which (h := h') ho rv (ReadsAll.keeps hkp hr) hv (maxDv_mem b.2 _) hm
    exact ⟨x, H, I.kept hkp, rx, q x hx⟩
def rdMinD : List Dv → (Dv → Prop) → Prop := fun ds Q => ∃ x xs, ds = [.lst (x :: xs)] ∧ OrdC (x :: xs) ∧ (∀ d ∈ x :: xs, d ≠ .non) ∧ Q (minDv x xs)
def rdMaxD : List Dv → (Dv → Prop) → Prop := fun ds Q => ∃ x xs, ds = [.lst (x :: xs)] ∧ OrdC (x :: xs) ∧ (∀ d ∈ x :: xs, d ≠ .non) ∧ Q (maxDv x xs)
theorem borrowL {C : DC R} {es : Es} {σ : L2.St} {H : Hp} {v : V} {x : Dv} {xs : List Dv} (o : Ok X.K C es σ H) (r : RepB X.K C es H v (.lst (x :: xs))) (ho : OrdC (x :: xs)) :
    ∃ (a : Addr) (b : V × Dv) (bs : List (V × Dv)), v = .ref a ∧ x = b.2 ∧ xs = List.map (·.2) bs ∧ SqL X.K H a ((b :: bs).map (·.1)) ∧ DpAll X.K H ((b :: bs).map (·.1)) (toPyL ((b :: bs).map (·.2))) ∧ ∀ p ∈ b :: bs, Rep X.K (C.Av es) H p.1 p.2 := by
  obtain ⟨a, ys, rfl, hs, rr⟩ := r.lst
  obtain ⟨bs, rfl, e, hb⟩ := rr.zipE
  cases bs with
  | nil => cases e
  | cons b bs =>
    rw [List.map_cons, List.cons.injEq] at e
    obtain ⟨⟨n, hn, hp⟩, _⟩ := ho
    rw [e.1, e.2] at rr hp
    exact ⟨a, b, bs, rfl, e.1, e.2, .inl hs, RepL.dp (ds := b.2 :: bs.map (fun x => x.2)) rr (lay_all fun d hd => (pl_lay (hp d hd)).1), hb⟩
theorem sem_minD (hc : X.calm = true) (hu : X.A.units + 64 < cLine) : SemCall X R (.builtin "min") rdMinD := by
  refine ⟨⟨_, cr_minD hc hu, fun C es σ H vs ds Q o r ⟨x, xs, e, ho, hk, q⟩ => ?_⟩, fun ds P P' f ⟨x, xs, h1, h2, h3, q⟩ => ⟨x, xs, h1, h2, h3, f _ q⟩⟩
  subst e
  cases r with
  | cons r rr =>
    cases rr
    obtain ⟨a, b, bs, rfl, rfl, rfl, hs, hd, hb⟩ := borrowL o r ho
    exact ⟨a, b, bs, rfl, hs, hd, ho, hk, fun v hv => q v H o.here (hb _ hv)⟩
theorem sem_maxD (hc : X.calm = true) (hu : X.A.units + 64 < cLine) : SemCall X R (.builtin "max") rdMaxD := by
  refine ⟨⟨_, cr_maxD hc hu, fun C es σ H vs ds Q o r ⟨x, xs, e, ho, hk, q⟩ => ?_⟩, fun ds P P' f ⟨x, xs, h1, h2, h3, q⟩ => ⟨x, xs, h1, h2, h3, f _ q⟩⟩
  subst e
  cases r with
  | cons r rr =>
    cases rr
    obtain ⟨a, b, bs, rfl, rfl, rfl, hs, hd, hb⟩ := borrowL o r ho
    exact ⟨a, b, bs, rfl, hs, hd, ho, hk, fun v hv => q v H o.here (hb _ hv)⟩
theorem de_minD (hu : X.A.units + 64 < cLine) (hc : X.calm = true) (hm : X.mg "min" = none) (ha : DAB X R [e] wt) (hg : Gl X "min" := by rfl) (he : starEach [e] X.env = (false, eval e X.env) :: starEach [] X.env := by rfl) (hpl : (backTo pos (starEach [] X.env)).any (·.1) = false := by rfl) :
    DE X R (.Call (.Name "min" p) [e] [] pos) (wBi rdMinD wt) := de_bi (sem_minD hc hu) boot_min hg hm ha (he := he) (hpl := hpl)
theorem de_maxD (hu : X.A.units + 64 < cLine) (hc : X.calm = true) (hm : X.mg "max" = none) (ha : DAB X R [e] wt) (hg : Gl X "max" := by rfl) (he : starEach [e] X.env = (false, eval e X.env) :: starEach [] X.env := by rfl) (hpl : (backTo pos (starEach [] X.env)).any (·.1) = false := by rfl) :
    DE X R (.Call (.Name "max" p) [e] [] pos) (wBi rdMaxD wt) := de_bi (sem_maxD hc hu) boot_max hg hm ha (he := he) (hpl := hpl)
end
end
section
variable {X : Cx} {R : RS} {a b : Expr} {wa wb : WE} {pos : Pos}
/-- a < b of data -/
theorem op_ltD (hu : X.A.units + 64 < cLine) : OpR X (compareOp .Lt) (fun x y H Q => ∃ d e : Dv, Dp X.K H x (toPy d) ∧ Dp X.K H y (toPy e) ∧ (∃ n, n ≤ 60 ∧ pl n d = true ∧ pl n e = true) ∧ PySem.W.alike (toPy d) (toPy e) = true ∧ d ≠ .non ∧ Q (.bl (ltD d e)) H) := by
  intro pins s σ H x y v u Q I rx ry h
  obtain ⟨d, e, hd, he, ⟨n, hn, p1, p2⟩, ha, hne, q⟩ := h
  obtain ⟨as, r1⟩ := Dp.reads I _ x v hd rx
  obtain ⟨bs, r2⟩ := Dp.reads I _ y u he ry
  have h1 := (pl_lay p1).2
  refine PySem.W.lt_data r1 r2 ha (fun z => hne (toPy_non p1 z)) (by omega) ⟨.bl _, H, I, rfl, q⟩
def rdLtD : Dv → Dv → (Dv → Prop) → Prop := fun d e Q => (∃ n, n ≤ 60 ∧ pl n d = true ∧ pl n e = true) ∧ PySem.W.alike (toPy d) (toPy e) = true ∧ d ≠ .non ∧ Q (.bl (ltD d e))
theorem sem_ltD (hu : X.A.units + 64 < cLine) : SemOp X R (compareOp .Lt) rdLtD := by
  refine ⟨⟨_, op_ltD hu, fun C es σ H x y d e Q o rx ry ⟨⟨n, hn, p1, p2⟩, ha, hne, q⟩ => ?_⟩, fun d e P P' f ⟨c, h1, h2, q⟩ => ⟨c, h1, h2, f _ q⟩⟩
  exact ⟨d, e, rx.dp (pl_lay p1).1, ry.dp (pl_lay p2).1, ⟨n, hn, p1, p2⟩, ha, hne, q _ H o.here (.bl _)⟩
theorem de_ltD (hu : X.A.units + 64 < cLine) (ha : DB X R a wa) (hb : DB X R b wb) : DE X R (.Compare a [.Lt] [b] pos) (w2 rdLtD wa wb) := de_cmp2 (sem_ltD hu) ha hb (nomark _)
theorem dt_ltD (hu : X.A.units + 64 < cLine) (ha : DB X R a wa) (hb : DB X R b wb) : DT X R (.Compare a [.Lt] [b] pos) (w2T rdLtD wa wb) := dt_cmp2 (sem_ltD hu) ha hb (nomark _)
end
/-! the order of pairs, of (whole number, pair) -/
theorem lt_int (i j : Int) : ltD (.int i) (.int j) = decide (i < j) := PySem.W.dataLt_int i j
theorem lt_pair (i j k l : Int) : ltD (.tup [.int i, .int j]) (.tup [.int k, .int l]) = decide (i < k ∨ (i = k ∧ j < l)) := by
  show PySem.W.dataLt (.tuple [.int i, .int j]) (.tuple [.int k, .int l]) = _
  exact PySem.W.dataLt_ii i j k l
theorem lt_two {x y x' y' : Dv} (h : PySem.W.alike (toPy x) (toPy x') = true) (h' : PySem.W.alike (toPy y) (toPy y') = true) : ltD (.tup [x, y]) (.tup [x', y']) = if PyData.eqv (toPy x) (toPy x') = true then (if PyData.eqv (toPy y) (toPy y') = true then false else ltD y y') else ltD x x' := by
  show PySem.W.dataLt (.tuple [toPy x, toPy y]) (.tuple [toPy x', toPy y']) = _
  exact PySem.W.dataLt_pair h h'
end L3

/-! L3r: more rules: a <= b < c <= d. -/
namespace L3
open PySem PySem.Spec PyProof.Rows L2
section
variable {X : Cx} {R : RS} {a b c d : Expr} {wa wb wc wd : WE} {ta tb tc td : TE} {pos : Pos}
def tIf (r : R2) (x y : V) (H : Hp) (k : Hp → Prop) (n : Hp → Prop) : Prop := r x y H fun z H' => ∃ b, z = .bl b ∧ if b = true then k H' else n H'
theorem pt_chain3 {op op' op'' : CmpOp} {r r' r'' : R2} (ho : OpR X (compareOp op) r) (ho' : OpR X (compareOp op') r') (ho'' : OpR X (compareOp op'') r'') (ha : PE X a ta) (hb : PE X b tb) (hc : PE X c tc) (hd : PE X d td)
    (hm : lastMarks [op, op', op''] [b, c, d] = false := by with_unfolding_all rfl) : PT X (.Compare a [op, op', op''] [b, c, d] pos) (fun σ H Q => ta σ H fun x H1 => tb σ H1 fun y H2 => tIf r x y H2 (fun H3 => tc σ H3 fun z H4 => tIf r' y z H4 (fun H5 => td σ H5 fun u H6 => tIf r'' z u H6 (fun H7 => Q true H7) fun H7 => Q false H7) fun H5 => Q false H5) fun H3 => Q false H3) := by
  refine ⟨fun pins s σ H Q I h => ?_⟩
  refine isTrue_chain (thn (ha.run pins s σ H _ I h) fun v s1 ⟨x, H1, I1, r1, q1⟩ => test_link (thn (hb.run pins s1 σ H1 _ I1 q1) fun u s2 ⟨y, H2, I2, r2, q2⟩ =>
    thn (ho pins s2 σ H2 x y v u _ I2 r1 r2 q2) fun d s3 ⟨z, H3, I3, r3, k, e, q3⟩ => ?_)) hm
  subst e
  cases r3
  refine wpAny_truthy_bool ?_
  cases k with
  | false => exact ite_ff ⟨H3, I3, by simpa using q3⟩
  | true =>
    have q3 := (if_pos rfl : _ = _) ▸ q3
    refine ite_tt (test_link (thn (hc.run pins s3 σ H3 _ I3 q3) fun w' s4 ⟨z', H4, I4, r4, q4⟩ => thn (ho' pins s4 σ H4 y z' u w' _ I4 r2 r4 q4) fun d' s5 ⟨z2, H5, I5, r5, k2, e2, q5⟩ => ?_))
    subst e2
    cases r5
    refine wpAny_truthy_bool ?_
    cases k2 with
    | false => exact ite_ff ⟨H5, I5, by simpa using q5⟩
    | true =>
      have q5 := (if_pos rfl : _ = _) ▸ q5
      refine ite_tt (test_last (thn (hd.run pins s5 σ H5 _ I5 q5) fun w2 s6 ⟨z3, H6, I6, r6, q6⟩ => thn (ho'' pins s6 σ H6 z' z3 w' w2 _ I6 r4 r6 q6) fun d2 s7 ⟨z4, H7, I7, r7, k3, e3, q7⟩ => ?_))
      subst e3
      cases r7
      refine wpAny_truthy_bool ?_
      cases k3 with
      | false => exact ⟨H7, I7, by simpa using q7⟩
      | true => exact ⟨H7, I7, by simpa using q7⟩
def wChain3 (op op' op'' : CmpOp) (wa wb wc wd : WE) : WT := fun es Q => wa es fun x => wb es fun y => ∃ i j, x = .int i ∧ y = .int j ∧ if ordD op i j = true then wc es fun z => ∃ k, z = .int k ∧ if ordD op' j k = true then wd es fun u => ∃ l, u = .int l ∧ Q (ordD op'' k l) else Q false else Q false
theorem dt_chain3 {op op' op'' : CmpOp} (ha : DB X R a wa) (hb : DB X R b wb) (hc : DB X R c wc) (hd : DB X R d wd) (h : okOrd op = true := by rfl) (h' : okOrd op' = true := by rfl) (h'' : okOrd op'' = true := by rfl) (hm : lastMarks [op, op', op''] [b, c, d] = false := by with_unfolding_all rfl) :
    DT X R (.Compare a [op, op', op''] [b, c, d] pos) (wChain3 op op' op'' wa wb wc wd) := by
  refine ⟨fun C => PT.imp (pt_chain3 (op_ord h) (op_ord h') (op_ord h'') (ha.pe C) (hb.pe C) (hc.pe C) (hd.pe C) hm) fun σ H Q ⟨es, o, q⟩ => ⟨es, o, ha.mono es _ _ (fun d k v H1 a1 r1 => ⟨es, o.aft a1, hb.mono es _ _ (fun d ⟨i, j, e1, e2, kk⟩ v H2 a2 r2 => ?_) k⟩) q⟩,
    fun es P P' f q => ha.mono es _ _ (fun d k => hb.mono es _ _ (fun e ⟨i, j, e1, e2, kk⟩ => ⟨i, j, e1, e2, ?_⟩) k) q⟩
  · subst e1 e2
    refine ⟨i, j, r1.int, r2.int, _, rfl, ?_⟩
    by_cases z : ordD op i j = true
    · rw [if_pos z] at kk ⊢
      refine ⟨es, o.aft (a1.trans a2), hc.mono es _ _ (fun d ⟨n, e, k⟩ v H3 a3 r3 => ?_) kk⟩
      subst e
      refine ⟨j, n, r2.int, r3.int, _, rfl, ?_⟩
      by_cases z2 : ordD op' j n = true
      · rw [if_pos z2] at k ⊢
        refine ⟨es, o.aft ((a1.trans a2).trans a3), hd.mono es _ _ (fun d ⟨m, e, k⟩ v H4 a4 r4 => ?_) k⟩
        subst e
        refine ⟨n, m, r3.int, r4.int, _, rfl, ?_⟩
        have k' := k H4 (((a1.trans a2).trans a3).trans a4)
        by_cases z3 : ordD op'' n m = true
        · rw [if_pos z3]; rw [z3] at k'; exact k'
        · rw [if_neg z3]
          have : ordD op'' n m = false := by cases e : ordD op'' n m <;> simp_all
          rw [this] at k'
          exact k'
      · rw [if_neg z2] at k ⊢
        exact k H3 ((a1.trans a2).trans a3)
    · rw [if_neg z] at kk ⊢
      exact kk H2 (a1.trans a2)
  · by_cases z : ordD op i j = true
    · rw [if_pos z] at kk ⊢
      refine hc.mono es _ _ (fun d ⟨n, e, k⟩ => ⟨n, e, ?_⟩) kk
      by_cases z2 : ordD op' j n = true
      · rw [if_pos z2] at k ⊢
        exact hd.mono es _ _ (fun d ⟨m, e, k⟩ => ⟨m, e, f _ k⟩) k
      · rw [if_neg z2] at k ⊢
        exact f _ k
    · rw [if_neg z] at kk ⊢
      exact f _ kk
end

/-! ### t[::-1] of a tuple -/
section
variable {prog : Program} {w : World} {A : Around} {E : Value → Shared → Prop} {s : Shared}
theorem adjust_rev (n : Nat) : Builtin.Slice.sliceAdjust none none (-1) (n : Int) = ((n : Int) - 1, -1) := by
  unfold Builtin.Slice.sliceAdjust
  rfl
theorem places_rev (n : Nat) : Builtin.Slice.slicePlaces ((n : Int) - 1) (-1) (-1) = n := by
  unfold Builtin.Slice.slicePlaces
  have h1 : ¬ ((-1 : Int) > 0) := by omega
  simp only [h1, if_false, show (- -1 : Int) = 1 from rfl, Int.ediv_one]
  split <;> omega
theorem sliceApplied_rev {sl : Addr} {vk : Value} {n : Nat} {Q : Int × Int × Nat → Shared → Prop} (hs : s.heap.IsSliceOf sl .none .none vk) (pk : IsPart vk (some (-1))) (h : Q ((n : Int) - 1, -1, n) s) : wpAny (model prog w) A (Builtin.Slice.sliceApplied (.ref sl) (pure (n : Int))) Q E s := by
  obtain ⟨os, hos, hcs, hds⟩ := id hs
  unfold Builtin.Slice.sliceApplied Builtin.Slice.sliceFields
  refine wpAny_bind (wpAny_bind (wpAny_field hos hds (x := .none) rfl (wpAny_bind (wpAny_field hos hds (x := .none) rfl (wpAny_bind (wpAny_field hos hds (x := vk) rfl (wpAny_pure ?_)))))))
  refine wpAny_bind (HT.slicePart_ pk ?_)
  show wpAny _ _ (if ((-1 : Int) == 0) = true then _ else _) _ _ s
  rw [if_neg (by decide)]
  refine wpAny_bind (HT.slicePart_ .none (wpAny_bind (HT.slicePart_ .none (wpAny_bind (wpAny_pure ?_)))))
  show wpAny _ _ (match Builtin.Slice.sliceAdjust none none (-1) (n : Int) with | (lo, hi) => pure (lo, (-1 : Int), Builtin.Slice.slicePlaces lo hi (-1))) _ _ s
  rw [adjust_rev n]
  show wpAny _ _ (pure ((n : Int) - 1, (-1 : Int), Builtin.Slice.slicePlaces ((n : Int) - 1) (-1) (-1))) _ _ s
  rw [places_rev]
  exact wpAny_pure h
theorem pick_rev (xs : Array Value) : ((List.range xs.size).filterMap fun (m : Nat) => xs[((xs.size : Int) - 1 + (m : Int) * (-1)).toNat]?).toArray = xs.toList.reverse.toArray := by
  have e : (fun (m : Nat) => xs[((xs.size : Int) - 1 + (m : Int) * (-1)).toNat]?) = (xs[·]?) ∘ fun m => xs.size - 1 - m := by
    funext m
    have : ((xs.size : Int) - 1 + (m : Int) * (-1)).toNat = xs.size - 1 - m := by omega
    rw [this]; rfl
  rw [e, ← List.filterMap_map, PySem.W.krv_range, List.filterMap_reverse, PySem.W.krv_all]
theorem getItem_tuple_rev {t sl : Addr} {items : Array Value} {vk : Value} {Q : Value → Shared → Prop} (ht : IsTup s.heap t items) (hs : s.heap.IsSliceOf sl .none .none vk) (pk : IsPart vk (some (-1)))
    (h : Q (.ref s.heap.objs.size) { s with heap := s.heap.push { cls := .type "tuple", data := .seq items.toList.reverse.toArray } })
    (hsz : items.size ≤ sizeLine) : wpAny (model prog w) A (getItem (.ref t) (.ref sl)) Q E s := by
  have htake : sizeOk (.seq items.toList.reverse.toArray) := by
    show items.toList.reverse.toArray.size ≤ sizeLine
    rw [List.size_toArray, List.length_reverse, Array.length_toList]
    exact hsz
  obtain ⟨os, hos, hcs, hds⟩ := id hs
  have hTs : s.TypeIs (.ref sl) "slice" := ⟨os, hos, hcs⟩
  unfold getItem
  try with_reducible refine wpAny_holding ?_
  first | refine wpAny_bind (wpAny_pure ?_) | skip
  refine wpAny_bind (wpAny_sequenceKey ht.typeIs (by decide) ?_)
  refine wpAny_bind (wpAny_callSpecial?_slot (name := Str.ofString "__getitem__") ht.typeIs PyProof.Rows.slot_tuple_getitem
    (wpAny_call_entry PyProof.Rows.slot_tuple_getitem ht.typeIs entry_tuple_getitem ?_ (args_tuple_getitem _ _)))
  show wpAny _ _ (Builtin.Tuple.tupleItemsOf (.ref t) >>= _) _ _ s
  refine wpAny_bind (PyProof.Rows.tupleItemsOf_ ht ?_)
  refine wpAny_bind (wpAny_typeOf hTs ?_)
  rw [if_pos (by decide)]
  refine wpAny_bind (sliceApplied_rev hs pk ?_)
  have hno : ¬ ((((items.size : Int) - 1) == 0 && (-1 : Int) == 1 && items.size == items.size) = true) := by
    intro q
    rw [Bool.and_eq_true, Bool.and_eq_true] at q
    exact absurd q.1.2 (by decide)
  show wpAny _ _ (if (((items.size : Int) - 1) == 0 && (-1 : Int) == 1 && items.size == items.size) = true then _ else _) _ _ s
  rw [if_neg hno, pick_rev]
  first
    | exact wpAny_bind (m := Builtin.Tuple.tupleExact _) (wpAny_newObj_type (wpAny_pure ⟨_, rfl, wpAny_pure h⟩) htake)
    | exact wpAny_bind (m := Builtin.Tuple.tupleExact _) (wpAny_newObj_type (wpAny_bind (wpAny_pure (wpAny_pure ⟨_, rfl, wpAny_pure h⟩))) htake)
    | exact wpAny_bind (wpAny_bind (m := Builtin.Tuple.tupleExact _) (wpAny_newObj_type (wpAny_pure (wpAny_pure ⟨_, rfl, wpAny_pure h⟩)) htake))
    | exact wpAny_bind (wpAny_bind (m := Builtin.Tuple.tupleExact _) (wpAny_newObj_type (wpAny_pure ⟨_, rfl, wpAny_pure h⟩) htake))
end
section
variable {X : Cx} {R : RS} {e k : Expr} {te : TE} {w : WE} {pos pos' p2 cp : Pos} {kp : Nat}
theorem pe_revT {tk : TO} (he : PE X e te) (hk : PO X (some k) tk) : PE X (.Subscript e (.Slice none none (some k) p2) pos) (fun σ H Q => te σ H fun x H1 => tk σ H1 fun j H2 => j = some (-1) ∧ ∃ (a : Addr) (xs : List V), x = .ref a ∧ SqT X.K H2 a xs ∧ ∀ t, H2 t = none → Q (.ref t) (upd H2 t (.tup xs.reverse))) := by
  refine ⟨fun pins s σ H Q I h => ?_⟩
  refine Subscript_ (thn (he.run pins s σ H _ I h) fun v s1 ⟨x, H1, I1, r1, q1⟩ => ?_)
  refine wpAny_Slice ?_
  rw [evalPart_none]
  refine wpAny_pure (wpAny_pure ?_)
  refine thn (hk.run pins s1 σ H1 _ I1 q1) fun vk s2 ⟨j, H2, I2, pk, ej, a, xs, ex, hx, q⟩ => ?_
  subst ej ex
  obtain rfl : v = Value.ref a := r1
  have I4 : Inv X pins σ H2 { s2 with heap := s2.heap.push { cls := .type "slice", data := .fields #[.none, .none, vk] } } := I2.kept (t' := s2.toks) fun b ob q => Heap.get?_push_of_some _ q
  obtain ⟨its, r, ht, hz⟩ := I4.tuple hx
  show wpAny (model X.prog X.w) X.A (subscriptTail e (.Slice none none (some k) p2) (.ref a) (.ref s2.heap.objs.size)) (EP X pins σ Q) X.xe { s2 with heap := s2.heap.push { cls := .type "slice", data := .fields #[.none, .none, vk] } }
  refine tail_any (ops := [.ref a, .ref s2.heap.objs.size]) ht.typeIs PyProof.Rows.slot_tuple_getitem.lookup ?_ (by with_unfolding_all rfl)
  have hlen : its.toArray.size = xs.length := by rw [List.size_toArray]; exact r.length.symm
  refine getItem_tuple_rev ht (Heap.IsSliceOf.new ..) pk ?_ (by rw [hlen]; exact hz)
  refine ⟨.ref _, _, I4.laid (t' := s2.toks) (o := .tup xs.reverse) (fun b ob q => Heap.get?_push_of_some _ q) (Nat.le_refl _) ?_, rfl, q _ (I4.hok.fresh (Nat.le_refl _))⟩
  refine ⟨by rw [List.length_reverse]; exact hz, its.reverse, r.reverse, IsTup.new _ _⟩
/-- t[::-1] -/
def wRevT (w : WE) : WE := fun es Q => w es fun x => ∃ ds, x = .tup ds ∧ Q (.tup ds.reverse)
theorem de_revT (ha : DB X R e w) : DE X R (.Subscript e (.Slice none none (some (.UnaryOp .USub (.Constant (.int 1) kp cp) pos')) p2) pos) (wRevT w) := by
  refine ⟨fun C => PE.imp (pe_revT (ha.pe C) (po_some (pe_un un_neg pe_int))) fun σ H Q ⟨es, o, q⟩ => ⟨es, o, ha.mono es _ _ (fun d ⟨ds, ex, k⟩ v H1 a1 r1 => ?_) q⟩, fun es P P' f q => ha.mono es _ _ (fun d ⟨ds, ex, k⟩ => ⟨ds, ex, f _ k⟩) q⟩
  subst ex
  obtain ⟨a, xs, rfl, hs, rr⟩ := r1.tup
  refine ⟨1, rfl, -1, rfl, rfl, a, xs, rfl, hs, fun t ht => ?_⟩
  have a2 := (o.aft a1).aft_new (u := .tup xs.reverse) ht
  exact k _ _ (a1.trans a2) (.tup (.inl (.inl upd_same)) (rr.reverse.ext (C.avF es) a2.ext))
end

/-! ### x in a list, x not in a list -/
section
variable {X : Cx} {R : RS} {a b : Expr} {wa wb : WE} {pos : Pos}
theorem any_in {n : Nat} {d : Dv} {ds : List Dv} (hd : pl n d = true) (hs : ∀ x ∈ ds, pl n x = true) : ((toPyL ds).any fun z => PyData.eqv z (toPy d)) = true ↔ d ∈ ds := by
  rw [toPyL_map, List.any_map, List.any_eq_true]
  constructor
  · rintro ⟨x, hx, e⟩
    have := (pl_eqv n n x d (hs x hx) hd).mp e
    rw [← this]; exact hx
  · intro h
    exact ⟨d, h, (pl_eqv n n d d hd hd).mpr rfl⟩
theorem un65 {k : Nat} {A : Around} (r : Room k A) : A.units + 65 < cLine := by have := r.un; omega
def inC (d : Dv) (ds : List Dv) : Prop := ∃ n, n ≤ 59 ∧ pl n d = true ∧ ∀ x ∈ ds, pl n x = true
def rdInD : Dv → Dv → (Dv → Prop) → Prop := fun d e Q => ∃ ds, e = .lst ds ∧ inC d ds ∧ ∀ k, (k = true ↔ d ∈ ds) → Q (.bl k)
def rdNinD : Dv → Dv → (Dv → Prop) → Prop := fun d e Q => ∃ ds, e = .lst ds ∧ inC d ds ∧ ∀ k, (k = true ↔ d ∈ ds) → Q (.bl (!k))
theorem pl_lst {n : Nat} {ds : List Dv} (h : ∀ x ∈ ds, pl n x = true) : pl (n + 1) (.lst ds) = true := by
  unfold pl
  exact List.all_eq_true.mpr h
theorem sem_inD (hu : X.A.units + 65 < cLine) : SemOp X R (compareOp .In) rdInD := by
  refine ⟨⟨_, op_inD hu, fun C es σ H x y d e Q o rx ry ⟨ds, e1, ⟨n, hn, h1, h2⟩, q⟩ => ?_⟩, fun d e P P' f ⟨ds, e1, c, q⟩ => ⟨ds, e1, c, fun k h => f _ (q k h)⟩⟩
  subst e1
  have hl := pl_lst h2
  have hy := ry.dp (pl_lay hl).1
  have sy := pl_shaped hl (by omega)
  simp only [toPy] at hy sy
  exact ⟨_, _, rx.dp (pl_lay h1).1, hy, pl_shaped h1 (by omega), sy, q _ (any_in h1 h2) _ H o.here (.bl _)⟩
theorem sem_ninD (hu : X.A.units + 65 < cLine) : SemOp X R (compareOp .NotIn) rdNinD := by
  refine ⟨⟨_, op_notInD hu, fun C es σ H x y d e Q o rx ry ⟨ds, e1, ⟨n, hn, h1, h2⟩, q⟩ => ?_⟩, fun d e P P' f ⟨ds, e1, c, q⟩ => ⟨ds, e1, c, fun k h => f _ (q k h)⟩⟩
  subst e1
  have hl := pl_lst h2
  have hy := ry.dp (pl_lay hl).1
  have sy := pl_shaped hl (by omega)
  simp only [toPy] at hy sy
  exact ⟨_, _, rx.dp (pl_lay h1).1, hy, pl_shaped h1 (by omega), sy, q _ (any_in h1 h2) _ H o.here (.bl _)⟩
theorem de_inD (hu : X.A.units + 65 < cLine) (ha : DB X R a wa) (hb : DB X R b wb) (hm : behindInMarks .In b = false := by rfl) : DE X R (.Compare a [.In] [b] pos) (w2 rdInD wa wb) := de_cmp2 (sem_inD hu) ha hb hm
theorem dt_inD (hu : X.A.units + 65 < cLine) (ha : DB X R a wa) (hb : DB X R b wb) (hm : behindInMarks .In b = false := by rfl) : DT X R (.Compare a [.In] [b] pos) (w2T rdInD wa wb) := dt_cmp2 (sem_inD hu) ha hb hm
theorem de_ninD (hu : X.A.units + 65 < cLine) (ha : DB X R a wa) (hb : DB X R b wb) (hm : behindInMarks .NotIn b = false := by rfl) : DE X R (.Compare a [.NotIn] [b] pos) (w2 rdNinD wa wb) := de_cmp2 (sem_ninD hu) ha hb hm
theorem dt_ninD (hu : X.A.units + 65 < cLine) (ha : DB X R a wa) (hb : DB X R b wb) (hm : behindInMarks .NotIn b = false := by rfl) : DT X R (.Compare a [.NotIn] [b] pos) (w2T rdNinD wa wb) := dt_cmp2 (sem_ninD hu) ha hb hm
end
end L3

set_option maxHeartbeats 8000000
/-! L3m: mathematics that many laws share. -/
namespace Lw
open PySem PySem.Spec PyProof.Rows L2 L3

abbrev iD (r : List Int) : List Dv := r.map .int
abbrev rowD (r : List Int) : Dv := .tup (iD r)
theorem iD_get {r : List Int} {i : Nat} {d : Dv} (h : (iD r)[i]? = some d) : ∃ n, r[i]? = some n ∧ d = .int n := by
  rw [List.getElem?_map] at h
  obtain ⟨n, h, e⟩ := Option.map_eq_some_iff.mp h
  exact ⟨n, h, e.symm⟩
def pre (r : List Int) : List Int := (List.range (r.length + 1)).map fun i => (r.take i).sum
theorem pre_length (r : List Int) : (pre r).length = r.length + 1 := by simp [pre]
theorem pre_get {r : List Int} {i : Nat} (h : i ≤ r.length) : (pre r)[i]? = some (r.take i).sum := by
  unfold pre
  rw [List.getElem?_map, List.getElem?_range (by omega)]
  rfl
theorem pre_take_one (r : List Int) : (pre r).take 1 = [0] := by simp [pre, List.range_succ_eq_map]
theorem take_snoc {α : Type} {xs : List α} {i : Nat} {x : α} (h : xs[i]? = some x) : xs.take (i + 1) = xs.take i ++ [x] := by rw [List.take_add_one, h]; rfl
theorem ix_last {ds : List Dv} {z : Dv} : ixD (.lst (ds ++ [z])) (.int (-1)) = some z := atI_last _ _
theorem ix_nat {ds : List Dv} {i : Nat} {z : Dv} (h : ds[i]? = some z) : ixD (.lst ds) (.int (i : Nat)) = some z := atI_nat h
theorem ixT_nat {ds : List Dv} {i : Nat} {z : Dv} (h : ds[i]? = some z) : ixD (.tup ds) (.int (i : Nat)) = some z := atI_nat h
theorem sum_snoc {r : List Int} {i : Nat} {n : Int} (h : r[i]? = some n) : (r.take (i + 1)).sum = (r.take i).sum + n := by rw [take_snoc h]; simp
theorem lt_of_get {α : Type} {xs : List α} {i : Nat} {x : α} (h : xs[i]? = some x) : i < xs.length := (List.getElem?_eq_some_iff.mp h).1
theorem iD_append (r s : List Int) : iD (r ++ s) = iD r ++ iD s := List.map_append
abbrev pD (p : Nat × Nat) : Dv := .tup [.int (p.1 : Nat), .int (p.2 : Nat)]
abbrev pDs (ps : List (Nat × Nat)) : Dv := .lst (ps.map pD)
/-- the stretches that begin below i, of n numbers, in order -/
def stTo (n i : Nat) : List (Nat × Nat) := (List.range i).flatMap fun lo => (List.range (n - lo)).map fun j => (lo, lo + 1 + j)
abbrev stN (n : Nat) : List (Nat × Nat) := stTo n n
/-- a stretch's sum -/
def sm (r : List Int) (p : Nat × Nat) : Int := (r.take p.2).sum - (r.take p.1).sum
theorem stTo_succ (n i : Nat) : stTo n (i + 1) = stTo n i ++ (List.range (n - i)).map fun j => (i, i + 1 + j) := by simp [stTo, List.range_succ]
theorem stTo_length (n i : Nat) : (stTo n i).length ≤ i * n := by
  induction i with
  | zero => simp [stTo]
  | succ i ih => rw [stTo_succ, List.length_append, List.length_map, List.length_range, Nat.succ_mul]; omega
theorem stN_mem {n : Nat} {p : Nat × Nat} : p ∈ stN n ↔ p.1 < p.2 ∧ p.2 ≤ n := by
  simp only [stN, stTo, List.mem_flatMap, List.mem_range, List.mem_map]
  constructor
  · rintro ⟨lo, h, j, hj, rfl⟩
    show lo < lo + 1 + j ∧ lo + 1 + j ≤ n
    omega
  · rintro ⟨h1, h2⟩
    exact ⟨p.1, by omega, p.2 - p.1 - 1, by omega, by ext <;> simp <;> omega⟩
theorem stN_small {n : Nat} (h : n ≤ 60) : (stN n).length ≤ 3600 := Nat.le_trans (stTo_length n n) (Nat.mul_le_mul h h)
theorem iD_at {r : List Int} {i : Nat} {n : Int} (h : r[i]? = some n) : (iD r)[i]? = some (.int n) := by rw [List.getElem?_map, h]; rfl
theorem rngD_nat (n : Nat) : rngD 0 n = (List.range n).map fun j => .int ((j : Nat) : Int) := rngD_zero (m := (n : Nat)) (by simp)
theorem ix_pre {r : List Int} {i : Nat} (h : i ≤ r.length) : ixD (rowD (pre r)) (.int (i : Nat)) = some (.int (r.take i).sum) := ixT_nat (iD_at (pre_get h))
theorem eq_if {d e : Int} {A B : Prop} (h1 : d = e → A) (h2 : d ≠ e → B) : eqC (.int d) (.int e) ∧ ∀ k, (k = true ↔ Dv.int d = .int e) → if k = true then A else B := by
  refine ⟨.inl rfl, fun k hk => ?_⟩
  rw [Dv.int.injEq] at hk
  cases k with
  | true => exact iteT (h1 (hk.mp rfl))
  | false => exact iteF (h2 fun z => Bool.false_ne_true (hk.mpr z))
theorem eq_ifI {d e : Int} {A B : Prop} (h1 : d = e → A) (h2 : d ≠ e → B) : eqC (.int d) (.int e) ∧ ∀ k, (k = true ↔ d = e) → if k = true then A else B := by
  have := eq_if h1 h2
  simpa only [Dv.int.injEq] using this
theorem fl_le {α : Type} {p : α → Bool} {xs : List α} : (xs.filter p).length ≤ xs.length := List.length_filter_le ..
theorem pD_inj {p q : Nat × Nat} (h : pD p = pD q) : p = q := by
  simp only [pD, Dv.tup.injEq, List.cons.injEq, Dv.int.injEq, and_true] at h
  ext <;> omega
theorem mapP {ps qs : List (Nat × Nat)} : (ps.map pD = qs.map pD) = (ps = qs) := by
  refine propext ⟨fun h => ?_, fun h => by rw [h]⟩
  induction ps generalizing qs with
  | nil => cases qs with
    | nil => rfl
    | cons q r => cases h
  | cons p r ih => cases qs with
    | nil => cases h
    | cons q s =>
      rw [List.map_cons, List.map_cons, List.cons.injEq] at h
      rw [pD_inj h.1, ih h.2]
def lenP (p : Nat × Nat) : Int := (p.2 : Int) - (p.1 : Int)
def negP (p : Nat × Nat) : Int := -lenP p
/-- the first of the greatest by g -/
def best (g : Nat × Nat → Int) (p : Nat × Nat) (r : List (Nat × Nat)) : Nat × Nat := r.foldl (fun b q => if g b < g q then q else b) p
def bestN (g : Nat × Nat → Int) (ps : List (Nat × Nat)) : Dv := match ps with
  | [] => .non
  | p :: r => pD (best g p r)
def headN (ps : List (Nat × Nat)) : Dv := match ps with
  | [] => .non
  | p :: _ => pD p
theorem best_spec (g : Nat × Nat → Int) : ∀ (r : List (Nat × Nat)) (p : Nat × Nat), best g p r ∈ p :: r ∧ (∀ q ∈ p :: r, g q ≤ g (best g p r)) ∧ ((p :: r).filter fun q => decide (g q = g (best g p r))).head? = some (best g p r)
  | [], p => by simp [best]
  | q :: r, p => by
    by_cases h : g p < g q
    · obtain ⟨h1, h2, h3⟩ := best_spec g r q
      have e : best g p (q :: r) = best g q r := by simp [best, h]
      rw [e]
      have hq := h2 q List.mem_cons_self
      refine ⟨List.mem_cons_of_mem _ h1, fun x hx => (List.mem_cons.mp hx).elim (fun z => by rw [z]; omega) (h2 x), ?_⟩
      rw [List.filter_cons_of_neg (by simp; omega)]
      exact h3
    · obtain ⟨h1, h2, h3⟩ := best_spec g r p
      have e : best g p (q :: r) = best g p r := by simp [best, h]
      rw [e]
      have hp := h2 p List.mem_cons_self
      refine ⟨(List.mem_cons.mp h1).elim (fun z => by rw [z]; exact List.mem_cons_self) fun z => List.mem_cons_of_mem _ (List.mem_cons_of_mem _ z), fun x hx => ?_, ?_⟩
      · rcases List.mem_cons.mp hx with z | z
        · rw [z]; exact hp
        · rcases List.mem_cons.mp z with z | z
          · rw [z]; omega
          · exact h2 x (List.mem_cons_of_mem _ z)
      · by_cases hb : g p = g (best g p r)
        · rw [List.filter_cons_of_pos (by simpa using hb)] at h3 ⊢
          exact h3
        · rw [List.filter_cons_of_neg (by simpa using hb)] at h3 ⊢
          rw [List.filter_cons_of_neg (by simp; omega)]
          exact h3
theorem bestN_snoc (g : Nat × Nat → Int) (p q : Nat × Nat) (r : List (Nat × Nat)) : bestN g ((p :: r) ++ [q]) = if g (best g p r) < g q then pD q else bestN g (p :: r) := by
  show pD (best g p (r ++ [q])) = _
  unfold best
  rw [List.foldl_append]
  show pD (if _ then q else _) = _
  unfold bestN best
  split <;> rfl
theorem ne_nil_if {α : Type} {xs : List α} {A B : Prop} (h1 : xs ≠ [] → A) (h2 : xs = [] → B) : ∀ k : Bool, (k = true ↔ xs = []) → if k = false then A else B := fun k hk => by
  cases k with
  | true => rw [if_neg (by decide)]; exact h2 (hk.mp rfl)
  | false => rw [if_pos rfl]; exact h1 fun z => Bool.false_ne_true (hk.mpr z)
theorem eqC_pDs {ps : List (Nat × Nat)} {qs : List (Nat × Nat)} : eqC (pDs ps) (pDs qs) := by
  have h : ∀ ps : List (Nat × Nat), pl 2 (pDs ps) = true := fun ps => by simp [pDs, pl]
  exact .inr ⟨2, by decide, h ps, h qs⟩
theorem ix_ex {ns : List Int} {z : Int} (h0 : 0 ≤ z) (h1 : z < (ns.length : Int)) : ∃ c, c ∈ ns ∧ ixD (.lst (iD ns)) (.int z) = some (.int c) := by
  obtain ⟨j, rfl⟩ : ∃ j : Nat, z = (j : Nat) := ⟨z.toNat, by omega⟩
  have hj : j < ns.length := by omega
  exact ⟨ns[j], List.getElem_mem hj, ix_nat (iD_at (List.getElem?_eq_getElem hj))⟩
theorem ixT_ex {ns : List Int} {z : Int} (h0 : 0 ≤ z) (h1 : z < (ns.length : Int)) : ∃ c, c ∈ ns ∧ ixD (rowD ns) (.int z) = some (.int c) := by
  obtain ⟨j, rfl⟩ : ∃ j : Nat, z = (j : Nat) := ⟨z.toNat, by omega⟩
  have hj : j < ns.length := by omega
  exact ⟨ns[j], List.getElem_mem hj, ixT_nat (iD_at (List.getElem?_eq_getElem hj))⟩
theorem cmL {i j : Int} (h : -(2 ^ 64) < i ∧ i < 2 ^ 64) : CMul i j ∨ CMulW i j := .inl (.inl h)
theorem cmR {i j : Int} (h : -(2 ^ 64) < j ∧ j < 2 ^ 64) : CMul i j ∨ CMulW i j := .inl (.inr h)
theorem cdvI {i j : Int} (h : 0 < j) (h' : j < 2 ^ 64) : CDivW i j := by
  refine ⟨h, Nat.lt_trans ((Nat.log2_lt (by omega)).mpr (show j.natAbs < 2 ^ 64 by omega)) (by decide)⟩
theorem negP_eq (p : Nat × Nat) : negP p = -((p.2 : Int) - p.1) := rfl
theorem eq_ifL {α : Type} [DecidableEq α] {d e : α} {A B : Prop} (h1 : d = e → A) (h2 : d ≠ e → B) : ∀ k : Bool, (k = true ↔ d = e) → if k = true then A else B := fun k hk => by
  cases k with
  | true => exact iteT (h1 (hk.mp rfl))
  | false => exact iteF (h2 fun z => Bool.false_ne_true (hk.mpr z))
theorem cutL_le {α : Type} (xs : List α) (a b : Option Int) : (cutL xs a b).length ≤ xs.length := by
  unfold cutL
  rw [List.length_take, List.length_drop]
  omega
theorem ixN_nat {n j : Nat} (h : j < n) : ixN n ((j : Nat) : Int) = some j := by
  unfold ixN
  rw [if_pos (by omega)]
  simp [h]
theorem iv_ints {α : Type} {items : List Dv} {n : Nat} {Q : List Dv → Prop} {B : (Nat → List Dv → Prop) → Nat → Dv → List Dv → Prop} (xs : List α) (enc : α → Dv) (P : Int → Prop) (hi : items = xs.map enc) (hn : n = xs.length)
    (hs : ∀ i a acc (J : Nat → List Dv → Prop), xs[i]? = some a → (∀ z, P z → J (i + 1) (acc ++ [.int z])) → B J i (enc a) acc) (hd : ∀ zs : List Int, zs.length = xs.length → (∀ z ∈ zs, P z) → Q (iD zs)) :
    ∃ Iv : Nat → List Dv → Prop, Iv 0 [] ∧ (∀ i d acc, items[i]? = some d → Iv i acc → B Iv i d acc) ∧ ∀ acc, Iv n acc → Q acc := by
  subst hi hn
  refine ⟨fun i acc => ∃ zs : List Int, acc = iD zs ∧ zs.length = i ∧ ∀ z ∈ zs, P z, ⟨[], rfl, rfl, fun z h => nomatch h⟩, fun i d acc hd' e => ?_, fun acc ⟨zs, e, h1, h2⟩ => by subst e; exact hd zs h1 h2⟩
  rw [List.getElem?_map] at hd'
  obtain ⟨a, ha, rfl⟩ := Option.map_eq_some_iff.mp hd'
  obtain ⟨zs, rfl, h1, h2⟩ := e
  refine hs i a _ _ ha fun z hz => ⟨zs ++ [z], by rw [iD_append]; rfl, by rw [List.length_append, h1]; rfl, fun y hy => ?_⟩
  rcases List.mem_append.mp hy with h | h
  · exact h2 y h
  · rw [List.mem_singleton.mp h]; exact hz
theorem min_if {a b : Int} (h0 : 0 ≤ a) (h1 : 0 ≤ b) : 0 ≤ (if a < b then a else b) ∧ (if a < b then a else b) ≤ a := by split <;> omega
theorem cut1 {α : Type} (x : α) (r : List α) : cutL (x :: r) (some 1) none = r := by
  unfold cutL
  rw [show HT.sIx (x :: r).length 0 (some 1) = min 1 (x :: r).length from HT.sIx_nat (x :: r).length 0 1, HT.sIx_none, show min 1 (x :: r).length = 1 by rw [List.length_cons]; omega]
  show List.take ((x :: r).length - 1) r = r
  rw [List.length_cons, Nat.add_sub_cancel, List.take_length]
theorem zipD_ints (a b : List Int) : zipD (iD a) (iD b) = (a.zip b).map fun p => .tup [.int p.1, .int p.2] := by
  unfold zipD
  rw [List.zip_map, List.map_map]
  rfl
/-! dicts -/
theorem val_put {κ : Type} [DecidableEq κ] (k k' : κ) (v d : Dv) : ∀ kvs : List (κ × Dv), (valD (putD kvs k v) k').getD d = if k = k' then v else (valD kvs k').getD d := by
  have hm : ∀ kvs : List (κ × Dv), (kvs.any fun kv => decide (kv.1 = k)) = true → (valD (kvs.map fun kv => if kv.1 = k then (kv.1, v) else kv) k').getD d = if k = k' then v else (valD kvs k').getD d := by
    intro kvs
    induction kvs with
    | nil => intro h; cases h
    | cons kv r ih =>
      intro h
      rw [List.map_cons]
      by_cases h1 : kv.1 = k
      · rw [if_pos h1]
        by_cases h2 : k = k'
        · rw [if_pos h2]
          simp [valD, List.find?_cons, h1, h2]
        · rw [if_neg h2]
          have h3 : kv.1 ≠ k' := fun z => h2 (h1.symm.trans z)
          have e1 : ∀ t : List (κ × Dv), valD (kv :: t) k' = valD t k' := fun t => by simp [valD, List.find?_cons, h3]
          have e2 : ∀ t : List (κ × Dv), valD ((kv.1, v) :: t) k' = valD t k' := fun t => by simp [valD, List.find?_cons, h3]
          rw [e1, e2]
          by_cases h4 : (r.any fun kv => decide (kv.1 = k)) = true
          · rw [ih h4, if_neg h2]
          · have e3 : (r.map fun kv => if kv.1 = k then (kv.1, v) else kv) = r := by
              refine (List.map_congr_left fun y hy => ?_).trans (List.map_id r)
              rw [if_neg fun z => h4 (List.any_eq_true.mpr ⟨y, hy, decide_eq_true z⟩)]
              rfl
            rw [e3]
      · rw [if_neg h1]
        have h4 : (r.any fun kv => decide (kv.1 = k)) = true := by
          rw [List.any_cons, decide_eq_false h1, Bool.false_or] at h
          exact h
        by_cases h3 : kv.1 = k'
        · have h2 : k ≠ k' := fun z => h1 (h3.trans z.symm)
          rw [if_neg h2]
          simp [valD, List.find?_cons, h3]
        · have e1 : ∀ t : List (κ × Dv), valD (kv :: t) k' = valD t k' := fun t => by simp [valD, List.find?_cons, h3]
          rw [e1, e1, ih h4]
  intro kvs
  unfold putD
  by_cases h : (kvs.any fun kv => decide (kv.1 = k)) = true
  · rw [if_pos h]; exact hm kvs h
  · rw [if_neg h]
    have hn : ∀ y ∈ kvs, y.1 ≠ k := fun y hy z => h (List.any_eq_true.mpr ⟨y, hy, decide_eq_true z⟩)
    by_cases h2 : k = k'
    · subst h2
      rw [if_pos rfl]
      have e1 : (kvs.find? fun kv => decide (kv.1 = k)) = none := List.find?_eq_none.mpr fun y hy => by simpa using hn y hy
      simp [valD, List.find?_append, e1]
    · rw [if_neg h2]
      simp only [valD, List.find?_append]
      cases e : kvs.find? fun kv => decide (kv.1 = k') with
      | some y => simp
      | none => simp [h2]
theorem put_len {κ : Type} [DecidableEq κ] (k : κ) (v : Dv) (kvs : List (κ × Dv)) : (putD kvs k v).length ≤ kvs.length + 1 := by
  unfold putD
  split
  · rw [List.length_map]; omega
  · rw [List.length_append]; exact Nat.le_refl _
theorem enumD_ints (l : List Int) : enumD (iD l) = (List.range l.length).map fun (i : Nat) => .tup [.int (i : Nat), .int (l.getD i 0)] := by
  unfold enumD
  rw [List.length_map]
  apply List.ext_getElem?
  intro i
  by_cases hi : i < l.length
  · rw [List.getElem?_zipWith, List.getElem?_range hi, List.getElem?_map, List.getElem?_map, List.getElem?_range hi, List.getElem?_eq_getElem hi]
    simp [List.getD, hi]
  · rw [List.getElem?_eq_none (by simp; omega), List.getElem?_eq_none (by simp; omega)]
abbrev nD (r : List Nat) : List Dv := r.map fun n => .int ((n : Nat) : Int)
/-- the places among the first i at which z stands -/
def plc (l : List Int) (i : Nat) (z : Int) : List Nat := (List.range i).filter fun j => decide (l.getD j 0 = z)
theorem plc_succ (l : List Int) (i : Nat) (z : Int) : plc l (i + 1) z = plc l i z ++ if l.getD i 0 = z then [i] else [] := by
  unfold plc
  rw [List.range_succ, List.filter_append]
  by_cases h : l.getD i 0 = z <;> simp [List.filter_cons, h]
theorem plc_le (l : List Int) (i : Nat) (z : Int) : (plc l i z).length ≤ i := Nat.le_trans (List.length_filter_le ..) (by simp)
/-- the stretches with a sum, in order -/
def withL (r : List Int) (t : Int) : List (Nat × Nat) := (stN r.length).filter fun p => decide (sm r p = t)
theorem withL_small {r : List Int} {t : Int} (h : r.length ≤ 60) : (withL r t).length ≤ 3600 := Nat.le_trans (List.length_filter_le ..) (stN_small h)
theorem pre_getD {r : List Int} {i : Nat} (h : i ≤ r.length) : (pre r).getD i 0 = (r.take i).sum := by rw [List.getD_eq_getElem?_getD, pre_get h]; rfl
theorem plc_above {r : List Int} {lo : Nat} (h : lo ≤ r.length) (v : Int) : (plc (pre r) (r.length + 1) v).filter (fun hi => decide (hi > lo)) = ((List.range (r.length - lo)).map fun j => lo + 1 + j).filter fun hi => decide ((r.take hi).sum = v) := by
  have e : r.length + 1 = (lo + 1) + (r.length - lo) := by omega
  unfold plc
  rw [List.filter_filter, e, List.range_add, List.filter_append]
  have h1 : (List.range (lo + 1)).filter (fun a => decide (a > lo) && decide ((pre r).getD a 0 = v)) = [] := by
    rw [List.filter_eq_nil_iff]
    intro a ha
    have := List.mem_range.mp ha
    simp; omega
  rw [h1, List.nil_append]
  refine List.filter_congr fun a ha => ?_
  obtain ⟨j, hj, rfl⟩ := List.mem_map.mp ha
  have := List.mem_range.mp hj
  rw [pre_getD (by omega), decide_eq_true (show lo + 1 + j > lo by omega), Bool.true_and]
theorem flat_iD : ∀ r : List Int, flatL (iD r) = true
  | [] => rfl
  | _ :: r => flat_iD r
theorem flat_pDs : ∀ r : List (Nat × Nat), flatL (r.map pD) = true
  | [] => rfl
  | _ :: r => flat_pDs r
theorem lenP_eq (p : Nat × Nat) : lenP p = (p.2 : Int) - p.1 := rfl
theorem eq_ifP {p A B : Prop} (h1 : p → A) (h2 : ¬ p → B) : ∀ k : Bool, (k = true ↔ p) → if k = true then A else B := fun k hk => by
  cases k with
  | true => exact iteT (h1 (hk.mp rfl))
  | false => exact iteF (h2 fun z => Bool.false_ne_true (hk.mpr z))
theorem ix_getD {b : List Int} {i : Nat} (h : i < b.length) : ixD (.lst (iD b)) (.int (i : Nat)) = some (.int (b.getD i 0)) := ix_nat (iD_at (by rw [List.getD_eq_getElem?_getD, List.getElem?_eq_getElem h]; rfl))
theorem getD_set_ne {b : List Int} {i j : Nat} {m : Int} (h : i ≠ j) : (b.set i m).getD j 0 = b.getD j 0 := by rw [List.getD_eq_getElem?_getD, List.getD_eq_getElem?_getD, List.getElem?_set_ne h]
theorem getD_set_self {b : List Int} {i : Nat} {m : Int} (h : i < b.length) : (b.set i m).getD i 0 = m := by rw [List.getD_eq_getElem?_getD, List.getElem?_set_self h]; rfl
/-- a while: the state, a measure, what is true of it -/
theorem iv_while {S : Type} {e0 : Es} {B : (Nat → Es → Prop) → Nat → Es → Prop} (mk : S → Es) (ms : S → Nat) (I : S → Prop) (s0 : S) (h0 : e0 = mk s0) (i0 : I s0)
    (hs : ∀ s (J : Nat → Es → Prop), I s → (∀ s', I s' → ms s' < ms s → J (ms s') (mk s')) → B J (ms s) (mk s)) :
    ∃ Iv : Nat → Es → Prop, (∃ m, Iv m e0) ∧ ∀ m es, Iv m es → B Iv m es := by
  refine ⟨fun m es => ∃ s, es = mk s ∧ I s ∧ ms s = m, ⟨_, s0, h0, i0, rfl⟩, fun m es ⟨s, e, i, hm⟩ => ?_⟩
  subst e hm
  exact hs s _ i fun s' i' _ => ⟨s', rfl, i', rfl⟩
theorem nD_nil {l : List Nat} : (l.map fun h => Dv.int ((h : Nat) : Int)) = [] ↔ l = [] := by simp
theorem eqC_nD {l : List Nat} : eqC (.lst (l.map fun h => Dv.int ((h : Nat) : Int))) (.lst []) := .inr ⟨1, by decide, by simp [pl], rfl⟩
/-! an item of a written list of whole numbers -/
theorem ixk {ns : List Int} {z : Int} {P : Dv → Prop} (h : 0 ≤ z ∧ z < (ns.length : Int)) (k : ∀ c : Int, c ∈ ns → P (.int c)) : ∃ d, ixD (.lst (iD ns)) (.int z) = some d ∧ P d := by
  obtain ⟨c, hc, e⟩ := ix_ex h.1 h.2
  exact ⟨_, e, k c hc⟩
theorem ixk2 {a b z : Int} {P : Dv → Prop} (h : 0 ≤ z ∧ z < 2) (k : ∀ c : Int, (c = a ∨ c = b) → P (.int c)) : ∃ d, ixD (.lst [.int a, .int b]) (.int z) = some d ∧ P d :=
  ixk (ns := [a, b]) h fun c hc => k c (by simpa using hc)
theorem ixk3 {a b c' z : Int} {P : Dv → Prop} (h : 0 ≤ z ∧ z < 3) (k : ∀ c : Int, (c = a ∨ c = b ∨ c = c') → P (.int c)) : ∃ d, ixD (.lst [.int a, .int b, .int c']) (.int z) = some d ∧ P d :=
  ixk (ns := [a, b, c']) h fun c hc => k c (by simpa using hc)
theorem ixk4 {a b c' d' z : Int} {P : Dv → Prop} (h : 0 ≤ z ∧ z < 4) (k : ∀ c : Int, (c = a ∨ c = b ∨ c = c' ∨ c = d') → P (.int c)) : ∃ d, ixD (.lst [.int a, .int b, .int c', .int d']) (.int z) = some d ∧ P d :=
  ixk (ns := [a, b, c', d']) h fun c hc => k c (by simpa using hc)
theorem ixk7 {a b c' d' e' f' g' z : Int} {P : Dv → Prop} (h : 0 ≤ z ∧ z < 7) (k : ∀ c : Int, (c = a ∨ c = b ∨ c = c' ∨ c = d' ∨ c = e' ∨ c = f' ∨ c = g') → P (.int c)) : ∃ d, ixD (.lst [.int a, .int b, .int c', .int d', .int e', .int f', .int g']) (.int z) = some d ∧ P d :=
  ixk (ns := [a, b, c', d', e', f', g']) h fun c hc => k c (by simpa using hc)
/-! ### pairs in order -/
def leP (p q : Nat × Nat) : Bool := decide (p.1 < q.1 ∨ (p.1 = q.1 ∧ p.2 ≤ q.2))
theorem leP_eq {p q : Nat × Nat} : leD (pD p) (pD q) = leP p q := by
  unfold leD leP
  rw [lt_pair, ← decide_not]
  refine decide_eq_decide.mpr ?_
  omega
theorem sortP (ps : List (Nat × Nat)) : (ps.map pD).mergeSort leD = (ps.mergeSort leP).map pD := (List.map_mergeSort (r := leP) (s := leD) (f := pD) (l := ps) fun _ _ _ _ => leP_eq.symm).symm
theorem leP_trans (a b c : Nat × Nat) (h1 : leP a b = true) (h2 : leP b c = true) : leP a c = true := by
  simp only [leP, decide_eq_true_eq] at *
  omega
theorem leP_total (a b : Nat × Nat) : (leP a b || leP b a) = true := by
  simp only [leP, Bool.or_eq_true, decide_eq_true_eq]
  omega
theorem sortP_pw (ps : List (Nat × Nat)) : (ps.mergeSort leP).Pairwise fun a b => leP a b = true := List.pairwise_mergeSort leP_trans leP_total ps
theorem ordC_pD (ps : List (Nat × Nat)) : OrdC (ps.map pD) := by
  refine ⟨⟨1, by decide, fun d hd => ?_⟩, fun x hx y hy => ?_⟩
  · obtain ⟨p, _, rfl⟩ := List.mem_map.mp hd
    rfl
  · obtain ⟨p, _, rfl⟩ := List.mem_map.mp hx
    obtain ⟨q, _, rfl⟩ := List.mem_map.mp hy
    rfl
theorem srtC_pD (ps : List (Nat × Nat)) : SrtC (ps.map pD) := .inl fun d hd => by
  obtain ⟨p, _, rfl⟩ := List.mem_map.mp hd
  exact ⟨_, _, rfl⟩

/-- a check that holds -/
theorem ok_if {P A B : Prop} (h : P) (b : B) : ∀ k : Bool, (k = true ↔ P) → if k = false then A else B := fun k hk => by
  rw [hk.mpr h, if_neg (by decide)]
  exact b
theorem ok_ifT {P A B : Prop} (h : P) (b : A) : ∀ k : Bool, (k = true ↔ P) → if k = true then A else B := fun k hk => by
  rw [hk.mpr h, if_pos rfl]
  exact b
theorem ok_ifF {P A B : Prop} (h : ¬ P) (b : B) : ∀ k : Bool, (k = true ↔ P) → if k = true then A else B := fun k hk => by
  cases k with
  | true => exact absurd (hk.mp rfl) h
  | false => rw [if_neg (by decide)]; exact b
end Lw

/-! L3q: all stretches with their sums, in order (mathematics). -/
namespace Lw
open PySem PySem.Spec PyProof.Rows L2 L3

abbrev spD (r : List Int) (p : Nat × Nat) : Dv := .tup [.int (sm r p), pD p]
abbrev spDs (r : List Int) (ps : List (Nat × Nat)) : Dv := .lst (ps.map (spD r))
/-- by sums, then as pairs -/
def leS (r : List Int) (p q : Nat × Nat) : Bool := decide (sm r p < sm r q ∨ (sm r p = sm r q ∧ (p.1 < q.1 ∨ (p.1 = q.1 ∧ p.2 ≤ q.2))))
theorem eqv_int (i j : Int) : PyData.eqv (toPy (.int i)) (toPy (.int j)) = decide (i = j) := by
  have := pl_eqv 0 0 (.int i) (.int j) rfl rfl
  rw [Bool.eq_iff_iff, this, decide_eq_true_eq, Dv.int.injEq]
theorem eqv_pD (p q : Nat × Nat) : PyData.eqv (toPy (pD p)) (toPy (pD q)) = decide (p = q) := by
  have := pl_eqv 1 1 (pD p) (pD q) rfl rfl
  rw [Bool.eq_iff_iff, this, decide_eq_true_eq]
  exact ⟨pD_inj, fun h => by rw [h]⟩
theorem lt_pD (p q : Nat × Nat) : ltD (pD p) (pD q) = decide (p.1 < q.1 ∨ (p.1 = q.1 ∧ p.2 < q.2)) := by
  rw [lt_pair]
  refine decide_eq_decide.mpr ?_
  omega
theorem lt_sp (a b : Int) (p q : Nat × Nat) : ltD (.tup [.int a, pD p]) (.tup [.int b, pD q]) = decide (a < b ∨ (a = b ∧ (p.1 < q.1 ∨ (p.1 = q.1 ∧ p.2 < q.2)))) := by
  rw [lt_two rfl rfl, eqv_int, eqv_pD, lt_pD, L3.lt_int]
  by_cases h1 : a = b
  · rw [decide_eq_true h1, if_pos rfl]
    by_cases h2 : p = q
    · rw [decide_eq_true h2, if_pos rfl, eq_comm, decide_eq_false_iff_not]
      subst h2
      omega
    · rw [decide_eq_false h2, if_neg (by decide)]
      refine decide_eq_decide.mpr ?_
      omega
  · rw [decide_eq_false h1, if_neg (by decide)]
    refine decide_eq_decide.mpr ?_
    omega
theorem leS_eq {r : List Int} {p q : Nat × Nat} : leD (spD r p) (spD r q) = leS r p q := by
  unfold leD leS
  rw [lt_sp, ← decide_not]
  refine decide_eq_decide.mpr ?_
  omega
theorem sortS (r : List Int) (ps : List (Nat × Nat)) : (ps.map (spD r)).mergeSort leD = (ps.mergeSort (leS r)).map (spD r) := (List.map_mergeSort (r := leS r) (s := leD) (f := spD r) (l := ps) fun _ _ _ _ => leS_eq.symm).symm
theorem leS_trans (r : List Int) (a b c : Nat × Nat) (h1 : leS r a b = true) (h2 : leS r b c = true) : leS r a c = true := by
  simp only [leS, decide_eq_true_eq] at *
  omega
theorem leS_total (r : List Int) (a b : Nat × Nat) : (leS r a b || leS r b a) = true := by
  simp only [leS, Bool.or_eq_true, decide_eq_true_eq]
  omega
theorem ordC_sp (r : List Int) (ps : List (Nat × Nat)) : OrdC (ps.map (spD r)) := by
  refine ⟨⟨2, by decide, fun d hd => ?_⟩, fun x hx y hy => ?_⟩
  · obtain ⟨p, _, rfl⟩ := List.mem_map.mp hd
    rfl
  · obtain ⟨p, _, rfl⟩ := List.mem_map.mp hx
    obtain ⟨q, _, rfl⟩ := List.mem_map.mp hy
    rfl
theorem srtC_sp (r : List Int) (ps : List (Nat × Nat)) : SrtC (ps.map (spD r)) := .inl fun d hd => by
  obtain ⟨p, _, rfl⟩ := List.mem_map.mp hd
  exact ⟨_, _, rfl⟩
/-- all stretches in order by sums -/
def ordL (r : List Int) : List (Nat × Nat) := (stN r.length).mergeSort (leS r)
theorem ordL_pw (r : List Int) : (ordL r).Pairwise fun a b => leS r a b = true := List.pairwise_mergeSort (leS_trans r) (leS_total r) _
theorem ordL_perm (r : List Int) : (ordL r).Perm (stN r.length) := List.mergeSort_perm _ _
theorem ordL_len (r : List Int) : (ordL r).length = (stN r.length).length := (ordL_perm r).length_eq
theorem ordL_mem {r : List Int} {p : Nat × Nat} : p ∈ ordL r ↔ p.1 < p.2 ∧ p.2 ≤ r.length := by rw [(ordL_perm r).mem_iff, stN_mem]
/-! the least by an order, the first of several -/
section
variable {α : Type}
def minBy (lt : α → α → Bool) (x : α) (xs : List α) : α := xs.foldl (fun a y => if lt y a = true then y else a) x
theorem minBy_enc {enc : α → Dv} {lt : α → α → Bool} (h : ∀ a b, ltD (enc a) (enc b) = lt a b) (x : α) (xs : List α) : minDv (enc x) (xs.map enc) = enc (minBy lt x xs) := by
  induction xs generalizing x with
  | nil => rfl
  | cons y r ih =>
    show minDv (if ltD (enc y) (enc x) = true then enc y else enc x) (r.map enc) = enc (minBy lt (if lt y x = true then y else x) r)
    rw [h, ← ih]
    congr 1
    split <;> rfl
theorem minBy_mem (lt : α → α → Bool) (x : α) (xs : List α) : minBy lt x xs ∈ x :: xs := by
  induction xs generalizing x with
  | nil => exact List.mem_cons_self
  | cons y r ih =>
    have h := ih (if lt y x = true then y else x)
    show minBy lt (if lt y x = true then y else x) r ∈ _
    rcases List.mem_cons.mp h with e | e
    · rw [e]; split <;> simp
    · exact List.mem_cons_of_mem _ (List.mem_cons_of_mem _ e)
/-- none is less -/
theorem minBy_le {lt : α → α → Bool} (tr : ∀ a b c, lt a b = false → lt b c = false → lt a c = false) (ir : ∀ a, lt a a = false) (as : ∀ a b, lt a b = true → lt b a = false) (x : α) (xs : List α) : ∀ y ∈ x :: xs, lt y (minBy lt x xs) = false := by
  induction xs generalizing x with
  | nil =>
    intro y hy
    rw [List.mem_singleton.mp hy]
    exact ir x
  | cons z r ih =>
    intro y hy
    have h := ih (if lt z x = true then z else x)
    show lt y (minBy lt (if lt z x = true then z else x) r) = false
    have h0 := h _ List.mem_cons_self
    rcases List.mem_cons.mp hy with e | e
    · subst e
      by_cases hz : lt z y = true
      · rw [if_pos hz] at h0 ⊢
        exact tr _ _ _ (as _ _ hz) h0
      · rw [if_neg hz] at h0 ⊢
        exact h0
    · rcases List.mem_cons.mp e with e | e
      · subst e
        by_cases hz : lt y x = true
        · rw [if_pos hz] at h0 ⊢
          exact h0
        · rw [if_neg hz] at h0 ⊢
          exact tr _ _ _ (by cases h : lt y x <;> simp_all) h0
      · exact h y (List.mem_cons_of_mem _ e)
end
theorem stN_pw (n : Nat) : (stN n).Pairwise fun a b => leP a b = true := by
  have h : ∀ i, i ≤ n → (stTo n i).Pairwise (fun a b => leP a b = true) ∧ ∀ p ∈ stTo n i, p.1 < i := by
    intro i
    induction i with
    | zero => intro _; exact ⟨by simp [stTo], fun p hp => by simp [stTo] at hp⟩
    | succ i ih =>
      intro hi
      obtain ⟨h1, h2⟩ := ih (by omega)
      rw [stTo_succ]
      refine ⟨List.pairwise_append.mpr ⟨h1, ?_, fun a ha b hb => ?_⟩, fun p hp => ?_⟩
      · rw [List.pairwise_map]
        refine List.pairwise_lt_range.imp fun {x y} hxy => ?_
        exact decide_eq_true (.inr ⟨rfl, by show i + 1 + x ≤ i + 1 + y; omega⟩)
      · have := h2 a ha
        obtain ⟨j, _, rfl⟩ := List.mem_map.mp hb
        simp only [leP, decide_eq_true_eq]
        omega
      · rcases List.mem_append.mp hp with z | z
        · have := h2 p z; omega
        · obtain ⟨j, _, rfl⟩ := List.mem_map.mp z
          exact Nat.lt_succ_self _
  exact (h n (Nat.le_refl _)).1
theorem stN_sorted (n : Nat) : (stN n).mergeSort leP = stN n := List.mergeSort_of_pairwise (stN_pw n)
def absI (i : Int) : Int := if i < 0 then -i else i
/-- the nearest to t -/
def ltN (r : List Int) (t : Int) (p q : Nat × Nat) : Bool := decide (absI (sm r p - t) < absI (sm r q - t) ∨ (absI (sm r p - t) = absI (sm r q - t) ∧ (sm r p < sm r q ∨ (sm r p = sm r q ∧ (p.1 < q.1 ∨ (p.1 = q.1 ∧ p.2 < q.2))))))
abbrev npD (r : List Int) (t : Int) (p : Nat × Nat) : Dv := .tup [.int (absI (sm r p - t)), .int (sm r p), pD p]
theorem lt_three {a b : Int} {x y x' y' : Dv} (h : PySem.W.alike (toPy x) (toPy x') = true) (h' : PySem.W.alike (toPy y) (toPy y') = true) :
    ltD (.tup [.int a, x, y]) (.tup [.int b, x', y']) = if a = b then ltD (.tup [x, y]) (.tup [x', y']) else decide (a < b) := by
  have e1 : ltD (.tup [.int a, x, y]) (.tup [.int b, x', y']) = PyProof.Rows.lexLt PyProof.Rows.itemOrd (PySem.W.keyToksAll [.int a, toPy x, toPy y]) (PySem.W.keyToksAll [.int b, toPy x', toPy y']) := PySem.W.dataLt_tuple _ _
  have e2 : ltD (.tup [x, y]) (.tup [x', y']) = PyProof.Rows.lexLt PyProof.Rows.itemOrd (PySem.W.keyToksAll [toPy x, toPy y]) (PySem.W.keyToksAll [toPy x', toPy y']) := PySem.W.dataLt_tuple _ _
  rw [e1, e2, PySem.W.dataLt_cons (x := .int a) (y := .int b) rfl]
  have e3 : PyData.eqv (.int a) (.int b) = decide (a = b) := eqv_int a b
  rw [e3]
  by_cases h : a = b
  · rw [decide_eq_true h, if_pos rfl, if_pos h]
  · rw [decide_eq_false h, if_neg (by decide), if_neg h]
    exact PySem.W.dataLt_int a b
theorem lt_np (r : List Int) (t : Int) (p q : Nat × Nat) : ltD (npD r t p) (npD r t q) = ltN r t p q := by
  rw [lt_three rfl rfl, lt_sp]
  unfold ltN
  by_cases h : absI (sm r p - t) = absI (sm r q - t)
  · rw [if_pos h]
    refine decide_eq_decide.mpr ?_
    omega
  · rw [if_neg h]
    refine decide_eq_decide.mpr ?_
    omega
def nearL (r : List Int) (t : Int) : Dv := match stN r.length with
  | [] => .non
  | p :: ps => spD r (minBy (ltN r t) p ps)
/-- the least, the first of the greatest -/
def ltE (r : List Int) (s : Int) (p q : Nat × Nat) : Bool := decide (s * sm r p < s * sm r q ∨ (s * sm r p = s * sm r q ∧ (p.1 < q.1 ∨ (p.1 = q.1 ∧ p.2 < q.2))))
theorem ltE_tr {r : List Int} {s : Int} (a b c : Nat × Nat) (h1 : ltE r s a b = false) (h2 : ltE r s b c = false) : ltE r s a c = false := by
  simp only [ltE, decide_eq_false_iff_not] at *
  omega
theorem ltE_ir {r : List Int} {s : Int} (a : Nat × Nat) : ltE r s a a = false := by
  simp only [ltE, decide_eq_false_iff_not]
  omega
theorem ltE_as {r : List Int} {s : Int} (a b : Nat × Nat) (h1 : ltE r s a b = true) : ltE r s b a = false := by
  simp only [ltE, decide_eq_false_iff_not, decide_eq_true_eq] at *
  omega
theorem ltE_eq {r : List Int} {s : Int} {a b : Nat × Nat} (h1 : ltE r s a b = false) (h2 : ltE r s b a = false) : a = b := by
  simp only [ltE, decide_eq_false_iff_not] at *
  ext <;> omega
theorem minE_uniq {r : List Int} {s : Int} {p : Nat × Nat} {ps : List (Nat × Nat)} {x : Nat × Nat} (hx : x ∈ p :: ps) (h : ∀ y ∈ p :: ps, ltE r s y x = false) : x = minBy (ltE r s) p ps :=
  ltE_eq (minBy_le ltE_tr ltE_ir ltE_as p ps x hx) (h _ (minBy_mem _ _ _))
def endsL (r : List Int) : Dv := match stN r.length with
  | [] => .non
  | p :: ps => .tup [spD r (minBy (ltE r 1) p ps), spD r (minBy (ltE r (-1)) p ps)]
theorem eqC_spDs {r : List Int} {ps : List (Nat × Nat)} : eqC (spDs r ps) (.lst []) := .inr ⟨3, by decide, by simp [spDs, pl], rfl⟩
theorem ordC_np (r : List Int) (t : Int) (ps : List (Nat × Nat)) : OrdC (ps.map (npD r t)) := by
  refine ⟨⟨2, by decide, fun d hd => ?_⟩, fun x hx y hy => ?_⟩
  · obtain ⟨p, _, rfl⟩ := List.mem_map.mp hd
    rfl
  · obtain ⟨p, _, rfl⟩ := List.mem_map.mp hx
    obtain ⟨q, _, rfl⟩ := List.mem_map.mp hy
    rfl
theorem lt_spE (r : List Int) (p q : Nat × Nat) : ltD (spD r p) (spD r q) = ltE r 1 p q := by
  rw [lt_sp]
  unfold ltE
  rw [Int.one_mul, Int.one_mul]
theorem map_cons_true {α β : Type} {f : α → β} {x : α} {xs : List α} : (((x :: xs).filter fun _ => true).map f) = f x :: xs.map f := by
  rw [List.filter_eq_self.mpr fun _ _ => rfl, List.map_cons]
theorem nearL_cases (r : List Int) (t : Int) : nearL r t = .non ∨ ∃ p, nearL r t = spD r p := by
  unfold nearL
  split
  · exact .inl rfl
  · exact .inr ⟨_, rfl⟩
abbrev neD (r : List Int) (p : Nat × Nat) : Dv := .tup [.int (0 - sm r p), pD p]
theorem lt_ne (r : List Int) (p q : Nat × Nat) : ltD (neD r p) (neD r q) = ltE r (-1) p q := by
  rw [lt_sp]
  unfold ltE
  refine decide_eq_decide.mpr ?_
  omega
theorem ordC_ne (r : List Int) (ps : List (Nat × Nat)) : OrdC (ps.map (neD r)) := by
  refine ⟨⟨2, by decide, fun d hd => ?_⟩, fun x hx y hy => ?_⟩
  · obtain ⟨p, _, rfl⟩ := List.mem_map.mp hd
    rfl
  · obtain ⟨p, _, rfl⟩ := List.mem_map.mp hx
    obtain ⟨q, _, rfl⟩ := List.mem_map.mp hy
    rfl
def wiL (r : List Int) (lo hi : Int) : List (Nat × Nat) := (stN r.length).filter fun p => decide (lo ≤ sm r p) && decide (sm r p ≤ hi)
end Lw

/-! L3s: how sums and counts go along with a row's changes (mathematics). -/
namespace Lw
open PySem PySem.Spec PyProof.Rows L2 L3

theorem cutL_nat {α : Type} {xs : List α} {lo hi : Nat} (h1 : lo ≤ hi) (h2 : hi ≤ xs.length) : cutL xs (some (lo : Nat)) (some (hi : Nat)) = (xs.drop lo).take (hi - lo) := by
  unfold cutL
  rw [show HT.sIx xs.length 0 (some ((lo : Nat) : Int)) = min lo xs.length from HT.sIx_nat xs.length 0 lo, show HT.sIx xs.length xs.length (some ((hi : Nat) : Int)) = min hi xs.length from HT.sIx_nat xs.length xs.length hi, Nat.min_eq_left (Nat.le_trans h1 h2), Nat.min_eq_left h2]
theorem cut_to {α : Type} {xs : List α} {k : Nat} (h : k ≤ xs.length) : cutL xs none (some (k : Nat)) = xs.take k := by
  unfold cutL
  rw [HT.sIx_none, show HT.sIx xs.length xs.length (some ((k : Nat) : Int)) = min k xs.length from HT.sIx_nat xs.length xs.length k, Nat.min_eq_left h]
  simp
theorem cut_from {α : Type} {xs : List α} {k : Nat} (h : k ≤ xs.length) : cutL xs (some (k : Nat)) none = xs.drop k := by
  unfold cutL
  rw [HT.sIx_none, show HT.sIx xs.length 0 (some ((k : Nat) : Int)) = min k xs.length from HT.sIx_nat xs.length 0 k, Nat.min_eq_left h]
  exact List.take_of_length_le (by rw [List.length_drop]; exact Nat.le_refl _)
theorem cut_sum {r : List Int} {lo hi : Nat} (h1 : lo ≤ hi) : ((r.drop lo).take (hi - lo)).sum = sm r (lo, hi) := by
  have e : r.take hi = r.take lo ++ (r.drop lo).take (hi - lo) := by
    have := List.take_add (l := r) (i := lo) (j := hi - lo)
    rw [Nat.add_sub_cancel' h1] at this
    exact this
  unfold sm
  show _ = (r.take hi).sum - (r.take lo).sum
  rw [e, List.sum_append]
  omega
theorem sm_append {r s : List Int} {p : Nat × Nat} (h1 : p.1 ≤ p.2) (h2 : p.2 ≤ r.length) : sm (r ++ s) p = sm r p := by
  unfold sm
  rw [List.take_append_of_le_length h2, List.take_append_of_le_length (by omega)]
theorem sum_smul (c : Int) : ∀ r : List Int, (r.map fun x => c * x).sum = c * r.sum
  | [] => by simp
  | x :: r => by
    rw [List.map_cons, List.sum_cons, List.sum_cons, sum_smul c r, Int.mul_add]
theorem sm_smul (c : Int) (r : List Int) (p : Nat × Nat) : sm (r.map fun x => c * x) p = c * sm r p := by
  unfold sm
  rw [← List.map_take, ← List.map_take, sum_smul, sum_smul, Int.mul_sub]
theorem neg_smul (r : List Int) : (r.map fun x => 0 - x) = r.map fun x => (-1) * x := List.map_congr_left fun x _ => by omega
theorem sm_neg (r : List Int) (p : Nat × Nat) : sm (r.map fun x => 0 - x) p = -sm r p := by
  rw [neg_smul, sm_smul]
  omega
theorem sum_reverse (r : List Int) : r.reverse.sum = r.sum := by
  induction r with
  | nil => rfl
  | cons x r ih => rw [List.reverse_cons, List.sum_append, ih, List.sum_cons, List.sum_cons, List.sum_nil]; omega
/-- turned about -/
def rv (n : Nat) (p : Nat × Nat) : Nat × Nat := (n - p.2, n - p.1)
theorem sm_reverse {r : List Int} {p : Nat × Nat} (h1 : p.1 ≤ p.2) (h2 : p.2 ≤ r.length) : sm r.reverse p = sm r (rv r.length p) := by
  unfold sm rv
  show (r.reverse.take p.2).sum - (r.reverse.take p.1).sum = (r.take (r.length - p.1)).sum - (r.take (r.length - p.2)).sum
  have h : ∀ k, k ≤ r.length → (r.reverse.take k).sum = r.sum - (r.take (r.length - k)).sum := fun k hk => by
    rw [List.take_reverse, sum_reverse]
    have e : r.sum = (r.take (r.length - k)).sum + (r.drop (r.length - k)).sum := by rw [← List.sum_append, List.take_append_drop]
    omega
  rw [h p.2 h2, h p.1 (by omega)]
  omega
theorem nodup_map {α β : Type} {f : α → β} {l : List α} (h : l.Nodup) (hf : ∀ x ∈ l, ∀ y ∈ l, f x = f y → x = y) : (l.map f).Nodup := by
  unfold List.Nodup
  rw [List.pairwise_map]
  exact List.Pairwise.imp_of_mem (fun {a b} ha hb hab e => hab (hf a ha b hb e)) h
theorem stN_nodup (n : Nat) : (stN n).Nodup := by
  have h : ∀ i, (stTo n i).Nodup ∧ ∀ p ∈ stTo n i, p.1 < i := by
    intro i
    induction i with
    | zero => exact ⟨by simp [stTo], fun p hp => by simp [stTo] at hp⟩
    | succ i ih =>
      rw [stTo_succ]
      refine ⟨List.nodup_append.mpr ⟨ih.1, ?_, fun a ha b hb e => ?_⟩, fun p hp => ?_⟩
      · refine nodup_map List.nodup_range fun x _ y _ e => ?_
        have e := congrArg Prod.snd e
        have e : i + 1 + x = i + 1 + y := e
        omega
      · have := ih.2 a ha
        obtain ⟨j, _, rfl⟩ := List.mem_map.mp hb
        rw [e] at this
        exact Nat.lt_irrefl _ this
      · rcases List.mem_append.mp hp with z | z
        · have := ih.2 p z; omega
        · obtain ⟨j, _, rfl⟩ := List.mem_map.mp z
          exact Nat.lt_succ_self _
  exact (h n).1
theorem rv_perm (n : Nat) : ((stN n).map (rv n)).Perm (stN n) := by
  refine (List.perm_ext_iff_of_nodup ?_ (stN_nodup n)).mpr fun p => ?_
  · refine nodup_map (stN_nodup n) fun x hx y hy e => ?_
    have hx := stN_mem.mp hx
    have hy := stN_mem.mp hy
    have e1 : n - x.2 = n - y.2 := congrArg Prod.fst e
    have e2 : n - x.1 = n - y.1 := congrArg Prod.snd e
    ext <;> omega
  · rw [List.mem_map, stN_mem]
    constructor
    · rintro ⟨q, hq, rfl⟩
      have := stN_mem.mp hq
      show n - q.2 < n - q.1 ∧ n - q.1 ≤ n
      omega
    · intro h
      exact ⟨rv n p, stN_mem.mpr (by show n - p.2 < n - p.1 ∧ n - p.1 ≤ n; omega), by show (n - (n - p.1), n - (n - p.2)) = p; ext <;> simp <;> omega⟩
/-- how many stretches have a sum of a kind -/
def cntS (r : List Int) (P : Int → Bool) : Nat := ((stN r.length).filter fun p => P (sm r p)).length
theorem cntS_congr {r : List Int} {P P' : Int → Bool} (h : ∀ p ∈ stN r.length, P (sm r p) = P' (sm r p)) : cntS r P = cntS r P' := by
  unfold cntS
  rw [List.filter_congr h]
theorem cntS_reverse (r : List Int) (P : Int → Bool) : cntS r.reverse P = cntS r P := by
  unfold cntS
  rw [List.length_reverse]
  have e1 : (stN r.length).filter (fun p => P (sm r.reverse p)) = (stN r.length).filter ((fun p => P (sm r p)) ∘ rv r.length) := List.filter_congr fun p hp => by
    have := stN_mem.mp hp
    show _ = P (sm r (rv r.length p))
    rw [sm_reverse (by omega) this.2]
  have e2 : ((stN r.length).filter ((fun p => P (sm r p)) ∘ rv r.length)).length = (((stN r.length).map (rv r.length)).filter fun p => P (sm r p)).length := by
    rw [List.filter_map, List.length_map]
  rw [e1, e2]
  exact ((rv_perm r.length).filter _).length_eq
theorem cntS_smul (c : Int) (r : List Int) (P : Int → Bool) : cntS (r.map fun x => c * x) P = cntS r fun z => P (c * z) := by
  unfold cntS
  rw [List.length_map]
  simp only [sm_smul]
theorem cntS_neg (r : List Int) (P : Int → Bool) : cntS (r.map fun x => 0 - x) P = cntS r fun z => P (-z) := by
  unfold cntS
  rw [List.length_map]
  simp only [sm_neg]
theorem stN_succ (n : Nat) : (stN (n + 1)).Perm (stN n ++ (List.range (n + 1)).map fun lo => (lo, n + 1)) := by
  refine (List.perm_ext_iff_of_nodup (stN_nodup _) ?_).mpr fun p => ?_
  · refine List.nodup_append.mpr ⟨stN_nodup n, nodup_map List.nodup_range fun x _ y _ e => congrArg Prod.fst e, fun a ha b hb e => ?_⟩
    · have := (stN_mem.mp ha).2
      obtain ⟨lo, _, rfl⟩ := List.mem_map.mp hb
      rw [e] at this
      have : n + 1 ≤ n := this
      omega
  · rw [List.mem_append, stN_mem, stN_mem, List.mem_map]
    constructor
    · intro h
      by_cases e : p.2 = n + 1
      · exact .inr ⟨p.1, List.mem_range.mpr (by omega), by rw [← e]⟩
      · exact .inl (by omega)
    · rintro (h | ⟨lo, h, rfl⟩)
      · omega
      · have := List.mem_range.mp h
        show lo < n + 1 ∧ n + 1 ≤ n + 1
        omega
theorem cntS_snoc (r : List Int) (x : Int) (P : Int → Bool) : cntS (r ++ [x]) P = cntS r P + ((List.range (r.length + 1)).filter fun lo => P (sm (r ++ [x]) (lo, r.length + 1))).length := by
  unfold cntS
  rw [List.length_append, List.length_singleton, ((stN_succ r.length).filter _).length_eq, List.filter_append, List.length_append, List.filter_map, List.length_map]
  congr 1
  refine congrArg _ (List.filter_congr fun p hp => ?_)
  have := stN_mem.mp hp
  rw [sm_append (by omega) this.2]
theorem stN_count (n : Nat) : 2 * (stN n).length = n * (n + 1) := by
  induction n with
  | zero => rfl
  | succ n ih =>
    rw [(stN_succ n).length_eq, List.length_append, List.length_map, List.length_range, Nat.mul_add, ih]
    rw [Nat.mul_comm (n + 1) (n + 1 + 1), show n + 1 + 1 = n + 2 from rfl, Nat.add_mul]
theorem cntS_split (r : List Int) (P P' : Int → Bool) (h : ∀ z, (P z && P' z) = false) : cntS r P + cntS r P' = cntS r fun z => P z || P' z := by
  unfold cntS
  induction stN r.length with
  | nil => rfl
  | cons p ps ih =>
    rw [List.filter_cons, List.filter_cons, List.filter_cons]
    have := h (sm r p)
    cases h1 : P (sm r p) <;> cases h2 : P' (sm r p) <;> simp_all <;> omega
theorem sm_bound {r : List Int} {B : Int} (hB : ∀ x ∈ r, -B < x ∧ x < B) (h0 : 0 ≤ B) {lo : Nat} : ∀ k, lo + k ≤ r.length → -(k * B) ≤ sm r (lo, lo + k) ∧ sm r (lo, lo + k) ≤ k * B
  | 0, _ => by simp [sm]
  | k + 1, h => by
    have ih := sm_bound hB h0 (lo := lo) k (by omega)
    obtain ⟨n, hn⟩ : ∃ n, r[lo + k]? = some n := ⟨_, List.getElem?_eq_getElem (by omega)⟩
    have e : sm r (lo, lo + (k + 1)) = sm r (lo, lo + k) + n := by
      unfold sm
      show (r.take (lo + (k + 1))).sum - (r.take lo).sum = (r.take (lo + k)).sum - (r.take lo).sum + n
      rw [← Nat.add_assoc, sum_snoc hn]
      omega
    have hb := hB n (List.mem_of_getElem? hn)
    have e2 : ((k + 1 : Nat) : Int) * B = (k : Int) * B + B := by
      rw [Int.natCast_add, Int.add_mul]; omega
    rw [e, e2]
    omega
theorem sm_small {r : List Int} (hr : r.length ≤ 60) (hB : ∀ x ∈ r, -1000000000000 < x ∧ x < 1000000000000) {p : Nat × Nat} (hp : p ∈ stN r.length) : -60000000000000 ≤ sm r p ∧ sm r p ≤ 60000000000000 := by
  have h := stN_mem.mp hp
  have := sm_bound hB (by decide) (lo := p.1) (p.2 - p.1) (by omega)
  rw [Nat.add_sub_cancel' (by omega)] at this
  have e : ((p.2 - p.1 : Nat) : Int) ≤ 60 := by omega
  have e' : (sm r p) = sm r (p.1, p.2) := rfl
  omega
end Lw

/-! L3v: texts: join, split, int(text). -/
namespace L3
open PySem PySem.Spec PyProof.Rows L2
section
variable {X : Cx} {R : RS} {e o : Expr} {w wo : WE} {wt : WA} {apos cpos pos p : Pos}
/-- int(text) -/
def rdIntT : List Dv → (Dv → Prop) → Prop := fun ds Q => ∃ a n, ds = [.str a] ∧ PySem.intText? a = some n ∧ a.length ≤ 640 ∧ Q (.int n)
theorem sem_intT : SemCall X R (.type "int") rdIntT := by
  refine ⟨⟨_, call_int_str, fun C es σ H vs ds Q o r ⟨a, n, e, h1, h2, q⟩ => ?_⟩, fun ds P P' f ⟨a, n, e, h1, h2, q⟩ => ⟨a, n, e, h1, h2, f _ q⟩⟩
  subst e
  cases r with
  | cons r rr => cases rr; have := r.str; subst this; exact ⟨a, n, rfl, h1, h2, q _ H o.here (.int _)⟩
theorem de_intT (hm : X.mg "int" = none) (ha : DAB X R [e] wt) (hg : Gl X "int" := by rfl) (he : starEach [e] X.env = (false, eval e X.env) :: starEach [] X.env := by rfl) (hpl : (backTo pos (starEach [] X.env)).any (·.1) = false := by rfl) :
    DE X R (.Call (.Name "int" p) [e] [] pos) (wBi rdIntT wt) := de_ty sem_intT boot_int hg hm ha (he := he) (hpl := hpl)
/-- sep.join(texts) -/
def wJoin (wo w : WE) : WE := fun es Q => wo es fun x => w es fun y => ∃ (a : Str) (ys : List Str), x = .str a ∧ seqD y = some (ys.map Dv.str) ∧ (ys.map (·.length)).sum + ys.length * a.length ≤ 16777216 ∧ Q (.str (Txt.join a ys))
def wJoinT (a : Str) (w : WE) : WE := fun es Q => w es fun y => ∃ ys : List Str, seqD y = some (ys.map Dv.str) ∧ (ys.map (·.length)).sum + ys.length * a.length ≤ 16777216 ∧ Q (.str (Txt.join a ys))
theorem de_joinT {a : Str} {k : Nat} {sp : Pos} (he : DB X R e w) (hs : starEach [e] X.env = [(false, eval e X.env)] := by rfl)
    (hbase : attributeBase (.Constant (.str a) k sp) "join" X.env (eval (.Constant (.str a) k sp) X.env) = eval (.Constant (.str a) k sp) X.env := by rfl) (hline : (apos.endLine == cpos.line) = true := by rfl) :
    DE X R (.Call (.Attribute (.Constant (.str a) k sp) "join" apos) [e] [] cpos) (wJoinT a w) := by
  refine ⟨fun C => PE.imp (pe_join pe_str (he.pe C) hs hbase hline) fun σ H Q ⟨es, ok, q⟩ => ?_,
    fun es P P' f q => he.mono es _ _ (fun y ⟨ys, e2, h1, k⟩ => ⟨ys, e2, h1, f _ k⟩) q⟩
  refine ⟨⟨a, rfl⟩, es, ok, he.mono es _ _ (fun y ⟨ys, e2, h1, k⟩ u H1 a1 r1 => ?_) q⟩
  obtain ⟨p, xs, rfl, hs2, rr, _, _⟩ := seq_of r1 e2
  have ex := RepL.strs rr
  subst ex
  exact ⟨a, p, ys, rfl, rfl, hs2, h1, k _ H1 a1 (.str _)⟩
/-- text.split(sep): a new list -/
theorem dn_split {a : Str} {k : Nat} {sp : Pos} (ho : DE X R o wo) (hs : starEach [.Constant (.str a) k sp] X.env = [(false, eval (.Constant (.str a) k sp) X.env)] := by rfl) (hbase : attributeBase o "split" X.env (eval o X.env) = eval o X.env := by rfl) (hline : (apos.endLine == cpos.line) = true := by rfl) :
    DN X R (.Call (.Attribute o "split" apos) [.Constant (.str a) k sp] [] cpos) (fun es Q => wo es fun x => ∃ t : Str, x = .str t ∧ (a.length == 0) = false ∧ t.length ≤ 100000 ∧ Q ((Txt.split t a).map Dv.str)) := by
  refine ⟨fun C => PE.imp (pe_split (ho.pe C) pe_str hs hbase hline) fun σ H Q ⟨es, ok, q⟩ => ⟨es, ok, ho.mono es _ _ (fun d ⟨t, e1, h1, h2, k⟩ v H1 a1 r1 => ?_) q⟩,
    fun es P P' f q => ho.mono es _ _ (fun d ⟨t, e1, h1, h2, k⟩ => ⟨t, e1, h1, h2, f _ k⟩) q⟩
  subst e1
  cases r1
  refine ⟨⟨t, rfl⟩, ?_⟩
  refine ⟨t, a, rfl, rfl, h1, by rw [sizeLine_eq]; omega, fun l hl => ?_⟩
  have a2 := (ok.aft a1).aft_new (u := .lst ((Txt.split t a).map V.str)) hl
  exact k _ _ (a1.trans a2) ⟨a1.ext.live _ hl, _, upd_same, RepL.of_strs _⟩
end
end L3

/-! L3w: texts of figures (mathematics). -/
namespace Lw
open PySem PySem.Spec PyProof.Rows L2 L3 PySem.NumText

def figT (d : Int) : Str := (toString d : String)
theorem fig_cps {d : Int} (h0 : 0 ≤ d) (h1 : d < 10) : (figT d).cps.toList = [48 + d.toNat] := by
  have h : d = 0 ∨ d = 1 ∨ d = 2 ∨ d = 3 ∨ d = 4 ∨ d = 5 ∨ d = 6 ∨ d = 7 ∨ d = 8 ∨ d = 9 := by omega
  rcases h with h | h | h | h | h | h | h | h | h | h <;> subst h <;> decide +kernel
theorem app_cps (a b : Str) : (a ++ b).cps.toList = a.cps.toList ++ b.cps.toList := by
  show (a.cps ++ b.cps).toList = _
  rw [Array.toList_append]
theorem join_cps : ∀ ys : List Str, (Txt.join (Str.ofString "") ys).cps.toList = (ys.map fun y => y.cps.toList).flatten := by
  intro ys
  show (Builtin.Str.glued (Str.ofString "") ys).cps.toList = _
  rw [StrLaws.glued_eq_join]
  induction ys with
  | nil => rfl
  | cons x xs ih =>
    cases xs with
    | nil => simp [Str.join]
    | cons y ys =>
      show (x ++ Str.ofString "" ++ Str.join (Str.ofString "") (y :: ys)).cps.toList = _
      rw [app_cps, app_cps, ih]
      have e : (Str.ofString "").cps.toList = [] := by decide
      rw [e, List.append_nil]
      rfl
theorem digitsVal_lt : ∀ (cs : List Nat) (a : Nat), AllDigits cs → cs.foldl (fun acc c => acc * 10 + (c - 48)) a < (a + 1) * 10 ^ cs.length
  | [], a, _ => by simp
  | c :: cs, a, h => by
    have h1 := h.head
    have h2 := digitsVal_lt cs (a * 10 + (c - 48)) h.tail
    rw [List.foldl_cons, List.length_cons, Nat.pow_succ]
    refine Nat.lt_of_lt_of_le h2 ?_
    rw [Nat.mul_comm (10 ^ cs.length) 10, ← Nat.mul_assoc]
    exact Nat.mul_le_mul_right _ (by omega)
theorem join_figs (ds : List Int) (h : ∀ d ∈ ds, 0 ≤ d ∧ d < 10) (hne : ds ≠ []) (hl : ds.length ≤ 600) : ∃ n : Nat, intText? (Txt.join (Str.ofString "") (ds.map figT)) = some (n : Int) ∧ n < 10 ^ ds.length ∧ (Txt.join (Str.ofString "") (ds.map figT)).length = ds.length := by
  have e : (Txt.join (Str.ofString "") (ds.map figT)).cps.toList = ds.map fun d => 48 + d.toNat := by
    rw [join_cps, List.map_map]
    clear hne hl
    induction ds with
    | nil => rfl
    | cons d ds ih =>
      have h1 := h d (.head _)
      rw [List.map_cons, List.flatten_cons, ih fun x hx => h x (.tail _ hx)]
      show (figT d).cps.toList ++ _ = _
      rw [fig_cps h1.1 h1.2]
      rfl
  have el : (Txt.join (Str.ofString "") (ds.map figT)).length = ds.length := by
    have := congrArg List.length e
    rw [List.length_map] at this
    rw [← this]
    exact Array.length_toList.symm
  have hd : AllDigits (Txt.join (Str.ofString "") (ds.map figT)).cps.toList := by
    rw [e]
    intro c hc
    obtain ⟨d, hdm, rfl⟩ := List.mem_map.mp hc
    have := h d hdm
    omega
  refine ⟨_, intText_digits hd (by rw [e]; simpa using hne) (by rw [el]; omega), ?_, el⟩
  have := digitsVal_lt _ 0 hd
  rw [e] at this ⊢
  unfold digitsVal
  rw [List.length_map] at this
  omega
end Lw

/-! L3x: more rules: a whole number in a tuple or list of such. -/
namespace L3
open PySem PySem.Spec PyProof.Rows L2
section
variable {X : Cx} {R : RS} {a b : Expr} {wa wb : WE} {pos : Pos}
theorem inV_ints (i : Int) (ns : List Int) : inV (.int i) (ns.map V.int) = decide (i ∈ ns) := by
  unfold inV
  induction ns with
  | nil => rfl
  | cons n r ih =>
    rw [List.map_cons, List.any_cons, ih]
    show ((n == i) || decide (i ∈ r)) = _
    by_cases h : n = i
    · subst h; simp
    · have : ¬ i = n := fun z => h z.symm
      simp [h, this]
theorem flat_ints (ns : List Int) : (ns.map V.int).all flatV = true := by
  rw [List.all_eq_true]
  intro x hx
  obtain ⟨n, _, rfl⟩ := List.mem_map.mp hx
  rfl
def rdInI : Dv → Dv → (Dv → Prop) → Prop := fun d e Q => ∃ (i : Int) (ns : List Int), d = .int i ∧ seqD e = some (ns.map Dv.int) ∧ Q (.bl (decide (i ∈ ns)))
def rdNinI : Dv → Dv → (Dv → Prop) → Prop := fun d e Q => ∃ (i : Int) (ns : List Int), d = .int i ∧ seqD e = some (ns.map Dv.int) ∧ Q (.bl (!decide (i ∈ ns)))
theorem sem_inI : SemOp X R (compareOp .In) rdInI := by
  refine ⟨⟨_, op_in_seq, fun C es σ H x y d e Q o rx ry ⟨i, ns, e1, e2, q⟩ => ?_⟩, fun d e P P' f ⟨i, ns, e1, e2, q⟩ => ⟨i, ns, e1, e2, f _ q⟩⟩
  subst e1
  have hx := rx.int
  subst hx
  cases e with
  | tup ds =>
    cases e2
    obtain ⟨p, xs, rfl, hs, rr⟩ := ry.tup
    have ex := RepL.ints rr
    subst ex
    exact ⟨p, _, rfl, .inr hs, rfl, flat_ints ns, q _ H o.here (by rw [if_neg (by decide), inV_ints]; exact .bl _)⟩
  | lst ds =>
    cases e2
    obtain ⟨p, xs, rfl, hs, rr⟩ := ry.lst
    have ex := RepL.ints rr
    subst ex
    exact ⟨p, _, rfl, .inl (.inl hs), rfl, flat_ints ns, q _ H o.here (by rw [if_neg (by decide), inV_ints]; exact .bl _)⟩
  | scr ms =>
    obtain ⟨p, rfl, hs⟩ := ry.scr
    have h : ms.map Dv.int = ns.map Dv.int := Option.some.inj e2
    have hm : ms = ns := (List.map_inj_right fun a b z => by cases z; rfl).mp h
    subst hm
    exact ⟨p, _, rfl, .inl hs, rfl, flat_ints ms, q _ H o.here (by rw [if_neg (by decide), inV_ints]; exact .bl _)⟩
  | _ => cases e2
theorem sem_ninI : SemOp X R (compareOp .NotIn) rdNinI := by
  refine ⟨⟨_, op_notIn_seq, fun C es σ H x y d e Q o rx ry ⟨i, ns, e1, e2, q⟩ => ?_⟩, fun d e P P' f ⟨i, ns, e1, e2, q⟩ => ⟨i, ns, e1, e2, f _ q⟩⟩
  subst e1
  have hx := rx.int
  subst hx
  cases e with
  | tup ds =>
    cases e2
    obtain ⟨p, xs, rfl, hs, rr⟩ := ry.tup
    have ex := RepL.ints rr
    subst ex
    exact ⟨p, _, rfl, .inr hs, rfl, flat_ints ns, q _ H o.here (by rw [if_pos rfl, inV_ints]; exact .bl _)⟩
  | lst ds =>
    cases e2
    obtain ⟨p, xs, rfl, hs, rr⟩ := ry.lst
    have ex := RepL.ints rr
    subst ex
    exact ⟨p, _, rfl, .inl (.inl hs), rfl, flat_ints ns, q _ H o.here (by rw [if_pos rfl, inV_ints]; exact .bl _)⟩
  | scr ms =>
    obtain ⟨p, rfl, hs⟩ := ry.scr
    have h : ms.map Dv.int = ns.map Dv.int := Option.some.inj e2
    have hm : ms = ns := (List.map_inj_right fun a b z => by cases z; rfl).mp h
    subst hm
    exact ⟨p, _, rfl, .inl hs, rfl, flat_ints ms, q _ H o.here (by rw [if_pos rfl, inV_ints]; exact .bl _)⟩
  | _ => cases e2
theorem de_inI (ha : DB X R a wa) (hb : DB X R b wb) (hm : behindInMarks .In b = false := by rfl) : DE X R (.Compare a [.In] [b] pos) (w2 rdInI wa wb) := de_cmp2 sem_inI ha hb hm
theorem dt_inI (ha : DB X R a wa) (hb : DB X R b wb) (hm : behindInMarks .In b = false := by rfl) : DT X R (.Compare a [.In] [b] pos) (w2T rdInI wa wb) := dt_cmp2 sem_inI ha hb hm
theorem de_ninI (ha : DB X R a wa) (hb : DB X R b wb) (hm : behindInMarks .NotIn b = false := by rfl) : DE X R (.Compare a [.NotIn] [b] pos) (w2 rdNinI wa wb) := de_cmp2 sem_ninI ha hb hm
theorem dt_ninI (ha : DB X R a wa) (hb : DB X R b wb) (hm : behindInMarks .NotIn b = false := by rfl) : DT X R (.Compare a [.NotIn] [b] pos) (w2T rdNinI wa wb) := dt_cmp2 sem_ninI ha hb hm
end
end L3
namespace L3
open PySem PySem.Spec PyProof.Rows L2
section
variable {X : Cx} {R : RS} {k d : Expr} {wk wd : WE} {pos : Pos}
/-- k in d, k not in d as tests -/
def wDInT (neg : Bool) (wk wd : WE) : WT := fun es Q => wk es fun y => wd es fun x => ∃ kvs k, x = dKof kvs ∧ y = kD k ∧ Q (if neg = true then !(valD kvs k).isSome else (valD kvs k).isSome)
theorem dt_din (hu : X.A.units + 1 < cLine) (hk : DE X R k wk) (hd : DB X R d wd) (h1 : behindInMarks .In d = false := by rfl) : DT X R (.Compare k [.In] [d] pos) (wDInT false wk wd) := by
  refine ⟨fun C => PT.imp (pt_cmp (pc_din hu (hk.pe C) (hd.pe C)) h1) fun σ H Q ⟨es, o, q⟩ => ⟨es, o, hk.mono es _ _ (fun y q1 u H1 a1 r1 => ⟨es, o.aft a1, hd.mono es _ _ (fun x ⟨kvs, k, e1, e2, q2⟩ v H2 a2 r2 => ?_) q1⟩) q⟩,
    fun es P P' f q => hk.mono es _ _ (fun d k => hd.mono es _ _ (fun e ⟨kvs, k, e1, e2, q⟩ => ⟨kvs, k, e1, e2, f _ q⟩) k) q⟩
  subst e1 e2
  obtain ⟨a, og, e1, g, g1, g2⟩ := get_rel r2 (.inl (r1.ext (C.avF es) a2.ext))
  refine ⟨a, og, e1, g, ?_⟩
  rw [isSome_rel g1 g2]
  exact ⟨_, rfl, q2 H2 (a1.trans a2)⟩
theorem dt_dnotin (hu : X.A.units + 1 < cLine) (hk : DE X R k wk) (hd : DB X R d wd) (h1 : behindInMarks .NotIn d = false := by rfl) : DT X R (.Compare k [.NotIn] [d] pos) (wDInT true wk wd) := by
  refine ⟨fun C => PT.imp (pt_cmp (pc_dnotin hu (hk.pe C) (hd.pe C)) h1) fun σ H Q ⟨es, o, q⟩ => ⟨es, o, hk.mono es _ _ (fun y q1 u H1 a1 r1 => ⟨es, o.aft a1, hd.mono es _ _ (fun x ⟨kvs, k, e1, e2, q2⟩ v H2 a2 r2 => ?_) q1⟩) q⟩,
    fun es P P' f q => hk.mono es _ _ (fun d k => hd.mono es _ _ (fun e ⟨kvs, k, e1, e2, q⟩ => ⟨kvs, k, e1, e2, f _ q⟩) k) q⟩
  subst e1 e2
  obtain ⟨a, og, e1, g, g1, g2⟩ := get_rel r2 (.inl (r1.ext (C.avF es) a2.ext))
  refine ⟨a, og, e1, g, ?_⟩
  rw [isSome_rel g1 g2]
  exact ⟨_, rfl, q2 H2 (a1.trans a2)⟩
end
end L3
namespace L3
open PySem PySem.Spec PyProof.Rows L2
section
variable {X : Cx} {R : RS} {e e2 : Expr} {w w2 : WE} {pos : Pos}
theorem RepL.erase {K : PySem.W.Frag} {Av : Addr → Prop} {H : Hp} {xs : List V} {ds : List Dv} (r : RepL K Av H xs ds) (n : Nat) : RepL K Av H (xs.eraseIdx n) (ds.eraseIdx n) := by
  rw [List.eraseIdx_eq_take_drop_succ, List.eraseIdx_eq_take_drop_succ]
  exact (r.take n).append (r.drop (n + 1))
/-- x.pop(i), the told thing let go -/
def wsPopAt (i : Nat) (w : WE) : WS := fun D es => ∃ l ds, es[i]? = some (.own l (.lst ds)) ∧ w es fun d => ∃ n : Nat, d = .int (n : Nat) ∧ n < ds.length ∧ ds.length ≤ 100000 ∧ D.nx (es.set i (.own l (.lst (ds.eraseIdx n))))
theorem ds_popAt (i : Nat) {x : Str} {px apos cpos : Pos} (he : DE X R e w) (hN : X.N[i]? = some x := by rfl) (hv : Vis X.env.scope x := by first | exact Or.inl rfl | exact Or.inr (Or.inl rfl) | exact Or.inr (Or.inr rfl)) (hd : (x == ("__debug__" : Str)) = false := by decide)
    (hcd : (x == ("__classdict__" : Str)) = false := by decide) (hbase : attributeBase (.Name x px) "pop" X.env (eval (.Name x px) X.env) = eval (.Name x px) X.env := by rfl)
    (hfew : ((backTo cpos (starEach [e] X.env)).all (fun x => !x.1) && (backToKw cpos (keywordEach [] X.env)).all (fun x => x.1.isSome)
      && decide (([e] : List Expr).length + ([] : List Keyword).length + (if ([] : List Keyword).isEmpty then 0 else 1) < 30)) = true := by rfl)
    (hline : (apos.endLine == cpos.line) = true := by rfl) (hs : starEach [e] X.env = (false, eval e X.env) :: starEach [] X.env := by rfl) (hplain : (backTo cpos (starEach [] X.env)).any (·.1) = false := by rfl)
    (hsw : swapsWith (.Call (.Attribute (.Name x px) "pop" apos) [e] [] cpos) none pos.line X.env = pure false := by rfl) :
    DS X R (.Expr (.Call (.Attribute (.Name x px) "pop" apos) [e] [] cpos) pos) (wsPopAt i w) := by
  refine ⟨fun C => PSt.imp (ps_expr (pe_bm PySem.F.plainAttrs_list PySem.F.slot_list_pop PySem.F.type_list_pop mt_popAt (pe_var hN hv hd hcd) (pa_cons (he.pe C) pa_nil hs) hbase hfew hline hs hplain) hsw) fun D σ H ⟨es, o, l, ds, h1, q⟩ => ?_,
    fun D D' es hD ⟨l, ds, h1, q⟩ => ⟨l, ds, h1, he.mono es _ _ (fun d ⟨n, h2, h3, h4, k⟩ => ⟨n, h2, h3, h4, hD.nx _ k⟩) q⟩⟩
  obtain ⟨e1, xs, hx, rx⟩ := o.own i l _ h1
  refine ⟨.ref l, e1, .inl ⟨rfl, xs, .inl (.inl hx)⟩, es, o, he.mono es _ _ (fun d ⟨n, h2, h3, h4, k⟩ v H1 a1 r1 => ?_) q⟩
  have o1 := o.aft a1
  obtain ⟨_, xs', hx', rx'⟩ := o1.own i l _ h1
  subst h2
  cases r1
  have hl := rx'.length
  have hy : xs'[n]? = some xs'[n] := List.getElem?_eq_getElem (by omega)
  exact ⟨l, xs', (n : Nat), n, _, rfl, rfl, hx', by omega, by omega, PySem.StrLaws.seqIndex_nonneg (by omega) (by omega), hy, k _ _ (o1.mutO h1 ⟨_, upd_same, (rx'.erase n).mut (.inr (mem_owned h1)) fun u e => by rw [hx'] at e; cases e; exact fun z => z⟩)⟩
/-- x.insert(i, d) -/
def wsIns (i : Nat) (w w2 : WE) : WS := fun D es => ∃ l ds, es[i]? = some (.own l (.lst ds)) ∧ w es fun a => w2 es fun d => ∃ n : Nat, a = .int (n : Nat) ∧ n ≤ 100000 ∧ ds.length < 100000 ∧ D.nx (es.set i (.own l (.lst (ds.take n ++ [d] ++ ds.drop n))))
theorem ds_insert (i : Nat) {x : Str} {px apos cpos : Pos} (he : DE X R e w) (hf : DE X R e2 w2) (hN : X.N[i]? = some x := by rfl) (hv : Vis X.env.scope x := by first | exact Or.inl rfl | exact Or.inr (Or.inl rfl) | exact Or.inr (Or.inr rfl)) (hd : (x == ("__debug__" : Str)) = false := by decide)
    (hcd : (x == ("__classdict__" : Str)) = false := by decide) (hbase : attributeBase (.Name x px) "insert" X.env (eval (.Name x px) X.env) = eval (.Name x px) X.env := by rfl)
    (hfew : ((backTo cpos (starEach [e, e2] X.env)).all (fun x => !x.1) && (backToKw cpos (keywordEach [] X.env)).all (fun x => x.1.isSome)
      && decide (([e, e2] : List Expr).length + ([] : List Keyword).length + (if ([] : List Keyword).isEmpty then 0 else 1) < 30)) = true := by rfl)
    (hline : (apos.endLine == cpos.line) = true := by rfl) (hs : starEach [e, e2] X.env = (false, eval e X.env) :: starEach [e2] X.env := by rfl) (hs2 : starEach [e2] X.env = (false, eval e2 X.env) :: starEach [] X.env := by rfl) (hplain : (backTo cpos (starEach [e2] X.env)).any (·.1) = false := by rfl)
    (hsw : swapsWith (.Call (.Attribute (.Name x px) "insert" apos) [e, e2] [] cpos) none pos.line X.env = pure false := by rfl) :
    DS X R (.Expr (.Call (.Attribute (.Name x px) "insert" apos) [e, e2] [] cpos) pos) (wsIns i w w2) := by
  refine ⟨fun C => PSt.imp (ps_expr (pe_bm PySem.F.plainAttrs_list PySem.F.slot_list_insert PySem.F.type_list_insert mt_insert (pe_var hN hv hd hcd) (pa_cons (he.pe C) (pa_cons (hf.pe C) pa_nil hs2) hs) hbase hfew hline hs hplain) hsw) fun D σ H ⟨es, o, l, ds, h1, q⟩ => ?_,
    fun D D' es hD ⟨l, ds, h1, q⟩ => ⟨l, ds, h1, he.mono es _ _ (fun a k => hf.mono es _ _ (fun d ⟨n, h2, h3, h4, k⟩ => ⟨n, h2, h3, h4, hD.nx _ k⟩) k) q⟩⟩
  obtain ⟨e1, xs, hx, rx⟩ := o.own i l _ h1
  refine ⟨.ref l, e1, .inl ⟨rfl, xs, .inl (.inl hx)⟩, es, o, he.mono es _ _ (fun a q1 v H1 a1 r1 => ⟨es, o.aft a1, hf.mono es _ _ (fun d ⟨n, h2, h3, h4, k⟩ u H2 a2 r2 => ?_) q1⟩) q⟩
  have o1 := (o.aft a1).aft a2
  obtain ⟨_, xs', hx', rx'⟩ := o1.own i l _ h1
  subst h2
  cases r1
  have hl := rx'.length
  refine ⟨l, xs', (n : Nat), u, rfl, rfl, hx', Nat.lt_of_lt_of_le (by rw [hl]; exact h4) (by decide), by omega, by omega, ?_⟩
  rw [show ((n : Nat) : Int).toNat = n from Int.toNat_natCast n]
  exact k _ _ (o1.mutO h1 ⟨_, upd_same, (((rx'.take n).append (.cons r2 .nil)).append (rx'.drop n)).mut (.inr (mem_owned h1)) fun u e => by rw [hx'] at e; cases e; exact fun z => z⟩)
end
end L3
namespace L3
open PySem PySem.Spec PyProof.Rows L2
section
variable {X : Cx} {R : RS} {a b : Expr} {wa wb : WE} {pos : Pos}
/-! a bool is True, is not False .. -/
theorem op_isB : OpR X (compareOp .Is) (fun x y H Q => ∃ i j, x = .bl i ∧ y = .bl j ∧ Q (.bl (decide (i = j))) H) := by
  intro pins s σ H x y v u Q I rx ry h
  obtain ⟨i, j, rfl, rfl, q⟩ := h
  cases rx
  cases ry
  refine wpAny_is_plain (by cases i <;> cases j <;> rfl) (fin_bl I q ?_)
  cases i <;> cases j <;> rfl
theorem op_notB : OpR X (compareOp .IsNot) (fun x y H Q => ∃ i j, x = .bl i ∧ y = .bl j ∧ Q (.bl (!decide (i = j))) H) := by
  intro pins s σ H x y v u Q I rx ry h
  obtain ⟨i, j, rfl, rfl, q⟩ := h
  cases rx
  cases ry
  refine wpAny_isNot_plain (by cases i <;> cases j <;> rfl) (fin_bl I q ?_)
  cases i <;> cases j <;> rfl
def rdIsBl : Dv → Dv → (Dv → Prop) → Prop := fun d e Q => ∃ i j, d = .bl i ∧ e = .bl j ∧ Q (.bl (decide (i = j)))
def rdNotBl : Dv → Dv → (Dv → Prop) → Prop := fun d e Q => ∃ i j, d = .bl i ∧ e = .bl j ∧ Q (.bl (!decide (i = j)))
theorem sem_isBl : SemOp X R (compareOp .Is) rdIsBl :=
  ⟨⟨_, op_isB, fun C es σ H x y d e Q o rx ry ⟨i, j, e1, e2, q⟩ => by subst e1 e2; exact ⟨i, j, rx.bl, ry.bl, q _ H o.here (.bl _)⟩⟩, fun d e P P' f ⟨i, j, e1, e2, q⟩ => ⟨i, j, e1, e2, f _ q⟩⟩
theorem sem_notBl : SemOp X R (compareOp .IsNot) rdNotBl :=
  ⟨⟨_, op_notB, fun C es σ H x y d e Q o rx ry ⟨i, j, e1, e2, q⟩ => by subst e1 e2; exact ⟨i, j, rx.bl, ry.bl, q _ H o.here (.bl _)⟩⟩, fun d e P P' f ⟨i, j, e1, e2, q⟩ => ⟨i, j, e1, e2, f _ q⟩⟩
theorem de_isBl (ha : DB X R a wa) (hb : DB X R b wb) : DE X R (.Compare a [.Is] [b] pos) (w2 rdIsBl wa wb) := de_cmp2 sem_isBl ha hb (nomark _)
theorem dt_isBl (ha : DB X R a wa) (hb : DB X R b wb) : DT X R (.Compare a [.Is] [b] pos) (w2T rdIsBl wa wb) := dt_cmp2 sem_isBl ha hb (nomark _)
theorem de_notBl (ha : DB X R a wa) (hb : DB X R b wb) : DE X R (.Compare a [.IsNot] [b] pos) (w2 rdNotBl wa wb) := de_cmp2 sem_notBl ha hb (nomark _)
theorem dt_notBl (ha : DB X R a wa) (hb : DB X R b wb) : DT X R (.Compare a [.IsNot] [b] pos) (w2T rdNotBl wa wb) := dt_cmp2 sem_notBl ha hb (nomark _)
end
end L3

/-! L4a: what raises; try .. except; isinstance of what was caught. -/
namespace L3
open PySem PySem.Spec PyProof.Rows L2

/-! ### an exception that was caught is tracked -/
section
variable {X : Cx} {pins : List (Addr × Obj)} {σ : L2.St} {H : Hp} {s : Shared}
theorem xcO_ok {P : Program} {w : World} {H : Hp} {h : Heap} {a : Addr} {cls : Value} {oe : Obj} {vs : Array Value} (e : h.get? a = some oe) (z : Zc cls none oe) (d : oe.data = .fields vs) : ObjOk P w H h a (XcO cls a) :=
  ⟨⟨oe, vs, e, z, d⟩, ⟨oe, e⟩, fun _ _ ⟨o, v, q, r⟩ k => ⟨o, v, k o q, r⟩⟩
theorem inv_track {a : Addr} {cls : Value} {oe : Obj} {vs : Array Value} (I : Inv X pins σ H s) (e : s.heap.get? a = some oe) (z : Zc cls none oe) (d : oe.data = .fields vs) (na : H a = none) (n0 : X.s_0.heap.get? a = none) (nL : a ≠ X.env.locals)
    (nP : ∀ p ∈ X.pn ++ pins, p.1 ≠ a) : Inv X pins σ (upd H a (XcO cls a)) s where
  ok := I.ok
  os := I.os
  bare := I.bare
  base := by
    have u := I.base
    refine ⟨u.keep, u.slot, fun b o q n hx => ?_, u.there, fun b xs q => ?_, fun b o u' q => ?_, fun b ps q => ?_⟩
    · rw [upd_ne (fun z => by rw [z, n0] at q; cases q)]; exact u.free b o q n hx
    · have t := u.tups b xs q; rw [upd_ne (ne_of_none t na)]; exact t
    · have t := u.frzs b o u' q; rw [upd_ne (ne_of_none t na)]; exact t
    · obtain ⟨m, t⟩ := u.tbls b ps q; exact ⟨m, by rw [upd_ne (ne_of_none t na)]; exact t⟩
  loc := I.loc
  cell := I.cell
  free := by rw [upd_ne (Ne.symm nL)]; exact I.free
  freeC := fun x c q => by
    have : c ≠ a := fun y => by
      obtain ⟨v, o, ho, hd⟩ := I.cell x c q
      rw [y, e] at ho; cases ho; rw [d] at hd; cases hd
    rw [upd_ne this]; exact I.freeC x c q
  pin := fun p hp => by
    obtain ⟨h1, h2, h3⟩ := I.pin p hp
    exact ⟨h1, by rw [upd_ne (nP p hp)]; exact h2, h3⟩
  hok := I.hok.laidN (fun _ _ q => q) na (xcO_ok e z d)
  len := I.len
end
/-- the wish of a clause that takes all that is raised: slot i is the name's -/
def wAsV (K : PySem.W.Frag) (c : Value) (i : Nat) (ts : TS) (D : Ends) : WX := fun cls d σ H => PySem.W.exmOne K cls c = some true ∧ d = none ∧
  ∀ a, H a = none → ts { nx := fun σ' H' => D.nx (σ'.set i none) H', rt := D.rt, bk := fun σ' H' => D.bk (σ'.set i none) H', ct := fun σ' H' => D.ct (σ'.set i none) H' } (σ.set i (some (.ref a))) (upd H a (XcO cls a))
section
variable {X : Cx} {x n : Str} {c : Value} {i : Nat} {body suite : List Stmt} {b₀ : Stmt} {np pos pos' : Pos} {tb : WX → TS} {ts : TS}
theorem ps_tryV (hs : X.stack = X.env :: X.outer) (hf : X.env.frame = some X.env.locals) (hxs : X.ex = []) (hN : X.N.Nodup) (hi : X.N[i]? = some n) (hln : X.env.kindOf n = some .local) (hc : Names X x c)
    (hb : ∀ (W : WX) (pn : List (Addr × Obj)) (xe : Value → Shared → Prop), Takes (X.tr pn xe) W → PassesOwn (model X.prog X.w) X.A X.env xe → PSs (X.tr pn xe) body (tb W))
    (hsu : ∀ (a : Addr) (pn : List (Addr × Obj)), PSs (X.suite a pn) (b₀ :: suite) ts) :
    PS X (.Try body [.ExceptHandler (some (.Name x np)) (some n) (b₀ :: suite) pos'] [] [] pos) (fun D σ H => tb (wAsV X.K c i ts D) D σ H) := by
  refine ⟨fun pins s σ H D I h => ?_⟩
  have okX := I.ok
  have frX : X.A.frames = some (X.env :: X.outer) := by rw [okX.frames, hs]
  refine wpAny_Try_except ?_
  refine wpAny_mono ((hb (wAsV X.K c i ts D) (X.pn ++ pins) _ ?tk PassesOwn.looking).run [] s σ H D (I.toTry _) h) (fun f s1 q1 => ?_) (fun _ _ z => z)
  case tk =>
    rintro u s2 ⟨a, B, sI, pq, σ1, H1, cls, d, eu, J0, nb, up, sky, na, os, ag, hex, hd0, hy⟩
    subst eu
    subst hd0
    have J : Inv X pins σ1 H1 sI := J0.ofTry okX
    have nbX : ∀ b o, sI.heap.get? b = some o → b ∉ frs X.stack → B.get? b = some o := nb
    have skyX : Sky B (X.env :: X.outer) a (Zc cls none) X.env.locals s2.heap := by rw [← hs]; exact sky
    show wpAny (model X.prog X.w) X.A (noteFrame (.ref a) X.env) _ _ _
    refine Sky.land Zc.steady frX hf skyX fun h3 fl3 up3 => ?_
    have J3 : Inv X pins σ1 H1 { s2 with heap := h3 } := J.landed nbX fl3.1 (up.trans up3) os ag
    obtain ⟨oe3, vs3, he3, hz3, hd3⟩ := fl3.there
    have nfr : a ∉ frs (X.env :: X.outer) := fun hm => by
      obtain ⟨_, o', e', hnf⟩ := fl3.2.2.1.mem hm
      rw [he3] at e'; cases e'
      exact hnf _ hd3
    have nfrX : a ∉ frs X.stack := by rw [hs]; exact nfr
    have nL : a ≠ X.env.locals := fun z => nfr (List.mem_filterMap.mpr ⟨X.env, List.mem_cons_self, by rw [hf, z]⟩)
    have ground : ∀ b o, sI.heap.get? b = some o → b ∉ frs X.stack → b ≠ a := fun b o e hb z => by
      have q := nbX b o e hb
      rw [z, fl3.2.1] at q; cases q
    have n0 : X.s_0.heap.get? a = none := by
      cases e : X.s_0.heap.get? a with
      | none => rfl
      | some o =>
        obtain ⟨o', e1⟩ := J.base.there a o e (by rw [hxs]; exact fun z => nomatch z)
        exact (ground a o' e1 nfrX rfl).elim
    have nP : ∀ p ∈ X.pn ++ pins, p.1 ≠ a := fun p hp => by
      obtain ⟨h1, _, h3, h4, _⟩ := J.pin p hp
      refine ground p.1 _ h1 fun hm => ?_
      rcases List.mem_cons.mp (J.stkSub _ hm) with z | z
      · exact h3 z
      · exact h4 z
    have inS : ∀ {σ' : L2.St} {H' : Hp} {s' : Shared}, Inv X pins σ' H' s' → Inv (X.suite a (X.pn ++ pins)) [] σ' H' s' := fun I' =>
      ⟨I'.ok.suite _ _, I'.os, I'.bare, I'.base, I'.loc, I'.cell, I'.free, I'.freeC, fun p hp => I'.pin p (by rw [List.append_nil] at hp; exact hp), I'.hok, I'.len⟩
    have outS : ∀ {σ' : L2.St} {H' : Hp} {s' : Shared}, Inv (X.suite a (X.pn ++ pins)) [] σ' H' s' → Inv X pins σ' H' s' := fun I' =>
      ⟨okX, I'.os, I'.bare, I'.base, I'.loc, I'.cell, I'.free, I'.freeC, fun p hp => I'.pin p (List.mem_append_left _ hp), I'.hok, I'.len⟩
    refine wpAny_handleBy_cons (codeAny_handlers_test ?_) (by intro q; cases q)
    have ty3 : PySem.W.Looks (model X.prog X.w) h3 (typeOf (.ref a)) cls := fun _ _ _ _ k q => wpAny_typeOf_ref (k _ _ he3) (by rw [hz3.1]; exact q)
    have hit := PySem.W.exm_one (M := model X.prog X.w) J3.kIn ty3 hex
    have name : ∀ {Q E : Value → Shared → Prop}, Q c { s2 with heap := h3 } → wpAny (model X.prog X.w) (X.A.mark (some (.ref a))) (eval (.Name x np) X.env) Q E { s2 with heap := h3 } := fun {Q E} q => by
      obtain ⟨g1, g2, g3 | ⟨g3, g4, g5⟩⟩ := hc
      · exact ld_glob (X := X.suite a (X.pn ++ pins)) (inS J3) g1 g3 q g2
      · exact ld_blt (X := X.suite a (X.pn ++ pins)) (inS J3) g1 g3 g4 q g5 g2
    refine name (hit.here (codeAny_handlers_suite_as (HandSPX.lands_againZ fl3 fun h4 fl4 up4 => ?_)))
    have J4 : Inv X pins σ1 H1 { s2 with heap := h4 } := J.landed nbX fl4.1 ((up.trans up3).trans up4) os ag
    obtain ⟨oe4, vs4, he4, hz4, hd4⟩ := fl4.there
    have T4 := inS (inv_track J4 he4 hz4 hd4 na n0 nL nP)
    refine store_ok (X := X.suite a (X.pn ++ pins)) (v := .ref a) T4 hN hi (.inl hln) rfl (fun s5 S5 => ?_) (.inr hln)
    refine wpAny_mono ((hsu a (X.pn ++ pins)).run [] s5 _ _ _ S5 (hy a na)) (fun f s6 q6 => ?_) (fun _ _ z => False.elim z)
    have gone : ∀ {σ6 : L2.St} {H6 : Hp} {Q : Shared → Prop}, Inv (X.suite a (X.pn ++ pins)) [] σ6 H6 s6 → (∀ s7, Inv X pins (σ6.set i none) H6 s7 → Q s7) →
        wpAny (model X.prog X.w) X.A (do bindName X.env n .none; unbindBehindTheSuite X.env n pos') (fun _ s7 => Q s7) X.xe s6 := fun S6 hq => gone_ok (outS S6) hN hi hln hq
    cases f with
    | next => obtain ⟨σ6, H6, S6, k6⟩ := q6; exact gone S6 fun s7 J7 => ⟨_, _, J7, k6⟩
    | brk => obtain ⟨σ6, H6, S6, k6⟩ := q6; exact gone S6 fun s7 J7 => ⟨_, _, J7, k6⟩
    | cont => obtain ⟨σ6, H6, S6, k6⟩ := q6; exact gone S6 fun s7 J7 => ⟨_, _, J7, k6⟩
    | ret u => obtain ⟨v6, σ6, H6, S6, r6, k6⟩ := q6; exact gone S6 fun s7 J7 => ⟨_, _, _, J7, r6, k6⟩
  · cases f with
    | next =>
      obtain ⟨σ', H', J', q⟩ := q1
      exact wpAny_execs_nil ⟨σ', H', J'.ofTry okX, q⟩
    | brk =>
      obtain ⟨σ', H', J', q⟩ := q1
      exact ⟨σ', H', J'.ofTry okX, q⟩
    | cont =>
      obtain ⟨σ', H', J', q⟩ := q1
      exact ⟨σ', H', J'.ofTry okX, q⟩
    | ret u =>
      obtain ⟨v, σ', H', J', r, q⟩ := q1
      exact ⟨v, σ', H', J'.ofTry okX, r, q⟩
end

/-! ### judgements with two ends -/
abbrev WSX := DEnds → (Value → Es → Prop) → Es → Prop
abbrev WEX := (Dv → Prop) → (Value → Prop) → Es → Prop
def MonoX (w : WSX) : Prop := ∀ D D' (E E' : Value → Es → Prop) es, D.Le D' → (∀ c es, E c es → E' c es) → w D E es → w D' E' es
def MonoEX (w : WEX) : Prop := ∀ (P P' : Dv → Prop) (E E' : Value → Prop) es, (∀ d, P d → P' d) → (∀ c, E c → E' c) → w P E es → w P' E' es
def excW (K : PySem.W.Frag) {R : RS} (C : DC R) (W : WX) : Value → Es → Prop := fun cls es => ∀ σ H, Ok K C es σ H → W cls none σ H
def liftSX (K : PySem.W.Frag) {R : RS} (C : DC R) (W : WX) (w : WSX) : TS := fun D σ H => ∃ es, Ok K C es σ H ∧ w (endsD K C D) (excW K C W) es
def liftEX (K : PySem.W.Frag) {R : RS} (C : DC R) (W : WX) (w : WEX) : TE := fun σ H Q => ∃ es, Ok K C es σ H ∧ w (fun d => ∀ v H', Aft R H H' → Rep K (C.Av es) H' v d → Q v H') (fun cls => ∀ H', Aft R H H' → W cls none σ H') es
structure DXs (X : Cx) (R : RS) (sts : List Stmt) (w : WSX) : Prop where
  pss : ∀ (C : DC R) (W : WX), Takes X W → PSs X sts (liftSX X.K C W w)
  mono : MonoX w
structure DX (X : Cx) (R : RS) (st : Stmt) (w : WSX) : Prop where
  ps : ∀ (C : DC R) (W : WX), Takes X W → PS X st (liftSX X.K C W w)
  mono : MonoX w
structure DEX (X : Cx) (R : RS) (e : Expr) (w : WEX) : Prop where
  pe : ∀ (C : DC R) (W : WX), Takes X W → PE X e (liftEX X.K C W w)
  mono : MonoEX w

/-! ### a class of the text that may be raised -/
def clsV (mg : Str → Option Value) (x : Str) : Value := (mg x).getD .none
theorem clsV_of {mg : Str → Option Value} {x : Str} {v : Value} (h : mg x = some v) : clsV mg x = v := by
  unfold clsV; rw [h]; rfl
structure Ec (K : PySem.W.Frag) (mg : Str → Option Value) (x : Str) : Prop where
  ex : ∃ C, mg x = some (.ref C) ∧ PySem.W.excIn K C [.type "ValueError", .type "Exception", .type "BaseException", .type "object"] "ValueError.__new__" = true ∧ PySem.W.keepIn K (.ref C) = true ∧
    PySem.W.subIn K (.ref C) (.type "BaseException") = some true ∧ PySem.W.typeIn K (.ref C) = some (.type "type") ∧ ExcC K C
theorem Ec.mg {K : PySem.W.Frag} {mg : Str → Option Value} {x : Str} (h : Ec K mg x) : mg x = some (clsV mg x) := by
  obtain ⟨C, e, _⟩ := h.ex
  rw [e, clsV_of e]

section
variable {X : Cx} {R : RS} {st : Stmt} {rest sts : List Stmt} {e a b c : Expr} {w wa wb wc we : WE} {wn : WA} {wt : WT} {t u : WS} {tx ux : WSX} {wx : WEX} {pos p : Pos} {es' : List Expr} {wl : WA} {x : Str} {j k : Nat}
theorem dx_of (h : DS X R st t) : DX X R st (fun D _ es => t D es) := ⟨fun C W _ => PSt.imp (h.ps C) fun D σ H q => q, fun D D' E E' es hD _ q => h.mono _ _ es hD q⟩
theorem dxs_of (h : DSs X R sts t) : DXs X R sts (fun D _ es => t D es) := ⟨fun C W _ => PSs.imp (h.pss C) fun D σ H q => q, fun D D' E E' es hD _ q => h.mono _ _ es hD q⟩
theorem dex_of (h : DE X R e w) : DEX X R e (fun P _ es => w es P) := ⟨fun C W _ => PE.imp (h.pe C) fun σ H Q q => q, fun P P' E E' es hP _ q => h.mono es _ _ hP q⟩
def wxNil : WSX := fun D _ es => D.nx es
theorem dxs_nil : DXs X R [] wxNil := ⟨fun C W _ => PSs.imp pss_nil fun D σ H ⟨es, o, q⟩ => q σ H o, fun D D' E E' es hD _ q => hD.nx es q⟩
def wxSeq (t u : WSX) : WSX := fun D E es => t { D with nx := fun es => u D E es } E es
theorem dxs_cons (h1 : DX X R st tx) (h2 : DXs X R rest ux) : DXs X R (st :: rest) (wxSeq tx ux) :=
  ⟨fun C W tk => PSs.imp (pss_cons (h1.ps C W tk) (h2.pss C W tk)) fun D σ H ⟨es, o, q⟩ => ⟨es, o, h1.mono { endsD X.K C D with nx := fun es => ux (endsD X.K C D) (excW X.K C W) es } _ _ _ es ⟨fun es k σ' H' o' => ⟨es, o', k⟩, fun _ k => k, fun _ k => k, fun _ k => k⟩ (fun _ _ k => k) q⟩,
    fun D D' E E' es hD hE q => h1.mono _ _ _ _ es (hD.withNx fun es k => h2.mono _ _ _ _ es hD hE k) hE q⟩
theorem dxs_one (h1 : DX X R st tx) : DXs X R [st] tx := ⟨fun C W tk => PSs.imp (pss_one (h1.ps C W tk)) fun D σ H q => q, h1.mono⟩
def wxIf (c : WT) (t u : WSX) : WSX := fun D E es => c es fun b => if b = true then t D E es else u D E es
theorem dx_if {sa sb : List Stmt} (hc : DT X R c wt) (ha : DXs X R sa tx) (hb : DXs X R sb ux) : DX X R (.If c sa sb pos) (wxIf wt tx ux) := by
  refine ⟨fun C W tk => PSt.imp (ps_if (hc.pt C) (ha.pss C W tk) (hb.pss C W tk)) fun D σ H ⟨es, o, q⟩ => ⟨es, o, hc.mono es _ _ (fun b k H1 a1 => ?_) q⟩, fun D D' E E' es hD hE q => hc.mono es _ _ (fun b k => ?_) q⟩
  · cases b with
    | true => exact iteT ⟨es, o.aft a1, unT k⟩
    | false => exact iteF ⟨es, o.aft a1, unF k⟩
  · cases b with
    | true => exact iteT (ha.mono _ _ _ _ _ hD hE (unT k))
    | false => exact iteF (hb.mono _ _ _ _ _ hD hE (unF k))
/-- raise X(".") -/
def wxRaise (c : Value) : WSX := fun _ E es => E c es
theorem dx_raise {m : Str} {jj : Nat} {p2 pos2 : Pos} (hc : X.calm = true) (h : Ec X.K X.mg x) (hg : Gl X x) (hd : (x == ("__debug__" : Str)) = false := by decide) : DX X R (.Raise (some (.Call (.Name x p) [.Constant (.str m) jj p2] [] pos2)) none pos) (wxRaise (clsV X.mg x)) := by
  obtain ⟨C, e, q, kC, s1, s2, _⟩ := h.ex
  refine ⟨fun Cc W tk => PSt.imp (ps_raise hc tk (pmk_own PySem.F.excBase_ValueError q e kC (raises_own s1 s2) hg hd)) fun D σ H ⟨es, o, z⟩ => ?_, fun D D' E E' es hD hE z => hE _ _ z⟩
  have z' := z σ H o
  rw [clsV_of e] at z'
  exact z'
theorem Ec.isc {K : PySem.W.Frag} {mg : Str → Option Value} {x : Str} (h : Ec K mg x) : ∃ D, clsV mg x = .ref D ∧ ExcC K D := by
  obtain ⟨C, e, _, _, _, _, q⟩ := h.ex
  exact ⟨C, clsV_of e, q⟩
/-! a call that raises or answers -/
def wxDrop (w : WEX) : WSX := fun D E es => w (fun _ => D.nx es) (fun c => E c es) es
theorem excW_aft {K : PySem.W.Frag} {C : DC R} {W : WX} {es : Es} {σ : L2.St} {H : Hp} {c : Value} (o : Ok K C es σ H) (h : excW K C W c es) : ∀ H', Aft R H H' → W c none σ H' := fun H' a => h σ H' (o.aft a)
theorem dx_expr (h : DEX X R e wx) (hs : swapsWith e none pos.line X.env = pure false := by rfl) : DX X R (.Expr e pos) (wxDrop wx) :=
  ⟨fun C W tk => PSt.imp (ps_expr (h.pe C W tk) hs) fun D σ H ⟨es, o, q⟩ => ⟨es, o, h.mono _ _ _ _ es (fun d k v H' a r => k σ H' (o.aft a)) (fun c k => excW_aft o k) q⟩, fun D D' E E' es hD hE q => h.mono _ _ _ _ es (fun d k => hD.nx _ k) (fun c k => hE _ _ k) q⟩
def wxSet (i : Nat) (w : WEX) : WSX := fun D E es => w (fun d => D.nx (es.set i (.v d))) (fun c => E c es) es
theorem dx_set {i : Nat} {pos' : Pos} (hN : X.N.Nodup) (h : DEX X R e wx) (hi : X.N[i]? = some x := by rfl) (hx : Loc X.env.scope x := by first | exact Or.inl rfl | exact Or.inr rfl) (hs : swapsWith e (some (.Name x pos')) pos.line X.env = pure false := by rfl)
    (hf : X.fn x = true ∨ X.env.scope.names.lookup x = some .local := by first | exact .inl rfl | exact .inr rfl) : DX X R (.Assign [.Name x pos'] e pos) (wxSet i wx) :=
  ⟨fun C W tk => PSt.imp (ps_set hN hi hx (h.pe C W tk) hs hf) fun D σ H ⟨es, o, q⟩ => ⟨es, o, h.mono _ _ _ _ es (fun d k v H' a r => k _ H' ((o.aft a).setV' r)) (fun c k => excW_aft o k) q⟩, fun D D' E E' es hD hE q => h.mono _ _ _ _ es (fun d k => hD.nx _ k) (fun c k => hE _ _ k) q⟩
def wxRet (w : WEX) : WSX := fun D E es => w D.rt (fun c => E c es) es
theorem dx_ret (h : DEX X R e wx) (hro : R.ro = true := by rfl) : DX X R (.Return (some e) pos) (wxRet wx) :=
  ⟨fun C W tk => PSt.imp (ps_ret (h.pe C W tk)) fun D σ H ⟨es, o, q⟩ => ⟨es, o, h.mono _ _ _ _ es (fun d k v H' a r => k v H' (o.ext.trans a.ext) a.z (RetOk.of (o.aft a) hro (r.anti fun a z => .inl z))) (fun c k => excW_aft o k) q⟩, fun D D' E E' es hD hE q => h.mono _ _ _ _ es (fun d k => hD.rt _ k) (fun c k => hE _ _ k) q⟩
/-- what a def is refused by: it raises the class at these arguments -/
structure XSpec where
  A : Type
  enc : A → List Dv
  pre : A → Prop
def spX (K : PySem.W.Frag) (S : XSpec) (cls : Value) : Sp := fun vs H _ E => ∃ (Av : Addr → Prop) (ds : List Dv), RepL K Av H vs ds ∧ (∀ a, Av a → H a ≠ none) ∧ ∃ a, ds = S.enc a ∧ S.pre a ∧ ∀ H', Ext No H H' → E cls none H'
structure ClX (P : Program) (w : World) (K : PySem.W.Frag) (mg : Str → Option Value) (base : Heap) (k : Nat) (x : Str) (S : XSpec) (cls : Value) : Prop where
  ex : ∃ (f : Addr) (fd : FuncData) (ps : List Str), FnOk P w K mg base (L2.CX P w) k f fd ps (spX K S cls) ∧ mg x = some (.ref f) ∧ PySem.W.keepIn K (.ref f) = true ∧ Binds K fd ps []
def wxCallX (S' : XSpec) (cls : Value) (wt : WA) : WEX := fun _ E es => wt es fun ds => ∃ a, ds = S'.enc a ∧ S'.pre a ∧ E cls
theorem dex_callX {S' : XSpec} {cls : Value} (c : ClX X.prog X.w X.K X.mg X.base k x S' cls) (hr : Room j X.A) (hg : Gl X x) (ha : DA X R (e :: es') wl) (hk : k ≤ j := by decide) (hdb : (x == ("__debug__" : Str)) = false := by decide)
    (he : starEach (e :: es') X.env = (false, eval e X.env) :: starEach es' X.env := by rfl) (hpl : (backTo pos (starEach es' X.env)).any (·.1) = false := by rfl) : DEX X R (.Call (.Name x p) (e :: es') [] pos) (wxCallX S' cls wl) := by
  obtain ⟨f, fd, ps, F, hm, hkp, hb⟩ := c.ex
  refine ⟨fun C W tk => PE.imp (pe_callS F (hr.mono hk) hg hm hkp hb (fun σ => passAt tk σ) (ha.pa C) hdb he hpl) fun σ H Q ⟨es, o, q⟩ => ⟨es, o, ha.mono es _ _ (fun ds ⟨a, e1, h1, h2⟩ vs H1 a1 r1 => ?_) q⟩, fun P P' E E' es hP hE q => ha.mono es _ _ (fun ds ⟨a, e1, h1, h2⟩ => ⟨a, e1, h1, hE _ h2⟩) q⟩
  exact ⟨C.Av es, ds, r1, fun a h => (o.aft a1).live h, a, e1, h1, fun H' e2 => h2 H' (a1.aft0 e2)⟩
/-- len of what raises -/
def wxLen (w : WEX) : WEX := fun _ E es => w (fun _ => False) E es
theorem dex_len (hm : X.mg "len" = none) (h : DEX X R e wx) (hg : Gl X "len" := by rfl) (he : starEach [e] X.env = (false, eval e X.env) :: starEach [] X.env := by rfl) (hpl : (backTo pos (starEach [] X.env)).any (·.1) = false := by rfl) :
    DEX X R (.Call (.Name "len" p) [e] [] pos) (wxLen wx) :=
  ⟨fun C W tk => PE.imp (pe_callB call_len hg hm boot_len (pa_cons (h.pe C W tk) pa_nil he) (by decide) (by decide) he hpl) fun σ H Q ⟨es, o, q⟩ => ⟨es, o, h.mono _ _ _ _ es (fun d k => k.elim) (fun c k => k) q⟩,
    fun P P' E E' es hP hE q => h.mono _ _ _ _ es (fun d k => k) hE q⟩
/-- .. or answers -/
def wxOr (w v : WEX) : WEX := fun P E es => w P E es ∨ v P E es
theorem dex_or {w1 w2 : WEX} (h1 : DEX X R e w1) (h2 : DEX X R e w2) : DEX X R e (wxOr w1 w2) :=
  ⟨fun C W tk => ⟨fun pins s σ H Q I ⟨es, o, q⟩ => q.elim (fun q => (h1.pe C W tk).run pins s σ H Q I ⟨es, o, q⟩) fun q => (h2.pe C W tk).run pins s σ H Q I ⟨es, o, q⟩⟩,
    fun P P' E E' es hP hE q => q.imp (h1.mono _ _ _ _ es hP hE) (h2.mono _ _ _ _ es hP hE)⟩
theorem dx_or {w1 w2 : WSX} (h1 : DX X R st w1) (h2 : DX X R st w2) : DX X R st (fun D E es => w1 D E es ∨ w2 D E es) :=
  ⟨fun C W tk => ⟨fun pins s σ H D I ⟨es, o, q⟩ => q.elim (fun q => (h1.ps C W tk).run pins s σ H D I ⟨es, o, q⟩) fun q => (h2.ps C W tk).run pins s σ H D I ⟨es, o, q⟩⟩,
    fun D D' E E' es hD hE q => q.imp (h1.mono _ _ _ _ es hD hE) (h2.mono _ _ _ _ es hD hE)⟩
end

/-! ### a def that raises -/
section
variable {P : Program} {w : World} {K : PySem.W.Frag} {mg : Str → Option Value} {base : Heap}
theorem fn_X {S' : XSpec} {cls : Value} {x : Str} {st : Stmt} {N ps : List Str} {k : Nat} (D : Df K mg x st ps) (S : FnScope N ps (defScope st)) (hlen : ∀ a, (S'.enc a).length = ps.length)
    (hbody : ∀ (f : Addr) (cdv : Value) (A : Around) (outer : List Env) (s : Shared) (H : Hp) (E : XK), Room k (A.deeper (envOfC x (defScope st) s.heap.objs.size f cdv)) →
      ∃ wb, DXs (cxOf (L2.CX P w) P w K mg base N x (defScope st) f cdv A outer s H E) R0 (defBody st) wb ∧
        ∀ (a : S'.A) (E : Value → Es → Prop), S'.pre a → (∀ es, E cls es) → wb ⟨fun _ => False, fun _ => False, fun _ => False, fun _ => False⟩ E (startE N (S'.enc a))) :
    ClX P w K mg base (k + 1) x S' cls := by
  obtain ⟨f, fd, F, hm, hb⟩ := D.ex
  refine ⟨f, fd, ps, F.okX S (fun vs H Q E h => ?_) (fun cdv A outer s H vs Q E hr h => ?_), hm, F.kp, hb⟩
  · obtain ⟨Av, ds, r, _, a, e, _⟩ := h
    rw [r.length, e, hlen]
  · obtain ⟨Av, ds, r, live, a, e, pre, q⟩ := h
    subst e
    obtain ⟨wb, hd, hw⟩ := hbody f cdv A outer s H E hr
    have hF : ∀ a, R0.F a → Av a := fun _ z => False.elim z
    refine ⟨_, hd.pss ⟨Av, H, [], hF, live⟩ (fun cls d _ H => E cls d H) (takes_of rfl rfl rfl rfl), startE N (S'.enc a), ok_start (C := ⟨Av, H, [], hF, live⟩) r trivial rfl,
      hd.mono ⟨fun _ => False, fun _ => False, fun _ => False, fun _ => False⟩ _ _ _ _ ⟨fun es k => False.elim k, fun d k => False.elim k, fun es k => False.elim k, fun es k => False.elim k⟩ (fun c es k => k)
        (hw a (excW K ⟨Av, H, [], hF, live⟩ fun cls d _ H => E cls d H) pre fun es σ' H' o => q H' o.ext)⟩
end

/-! ### try: .. except X as n: .. -/
section
variable {X : Cx} {R : RS} {x n : Str} {c : Value} {i : Nat} {body suite : List Stmt} {b₀ : Stmt} {np pos pos' : Pos} {tb : WSX} {ts : WS}
def wsTry (K : PySem.W.Frag) (c : Value) (i : Nat) (tb : WSX) (ts : WS) : WS := fun D es => tb D (fun cls es' => PySem.W.exmOne K cls c = some true ∧ ts { D with nx := fun e => D.nx (e.set i .no), bk := fun e => D.bk (e.set i .no), ct := fun e => D.ct (e.set i .no) } (es'.set i (.v (.exc cls)))) es
theorem ds_try (hN : X.N.Nodup) (hc : Ec X.K X.mg x) (hg : Gl X x) (hb : ∀ (pn : List (Addr × Obj)) (xe : Value → Shared → Prop), PassesOwn (model X.prog X.w) X.A X.env xe → DXs (X.tr pn xe) R body tb) (hsu : ∀ (a : Addr) (pn : List (Addr × Obj)), DSs (X.suite a pn) R (b₀ :: suite) ts)
    (hdb : (x == ("__debug__" : Str)) = false := by decide) (hs : X.stack = X.env :: X.outer := by rfl) (hf : X.env.frame = some X.env.locals := by rfl) (hxs : X.ex = [] := by rfl) (hi : X.N[i]? = some n := by rfl) (hln : X.env.kindOf n = some .local := by rfl) :
    DS X R (.Try body [.ExceptHandler (some (.Name x np)) (some n) (b₀ :: suite) pos'] [] [] pos) (wsTry X.K (clsV X.mg x) i tb ts) := by
  refine ⟨fun C => PSt.imp (ps_tryV (tb := fun W D σ H => liftSX X.K C W tb D σ H) (ts := liftS X.K C ts) hs hf hxs hN hi hln ⟨hg, hdb, .inl hc.mg⟩ (fun W pn xe tk po => (hb pn xe po).pss C W tk) fun a pn => (hsu a pn).pss C) fun D σ H ⟨es, o, q⟩ => ?_,
    fun D D' es hD q => (hb [] (fun _ _ => False) PassesOwn.never).mono _ _ _ _ es hD (fun cls es' ⟨h1, h2⟩ => ⟨h1, (hsu 0 []).mono { D with nx := fun e => D.nx (e.set i .no), bk := fun e => D.bk (e.set i .no), ct := fun e => D.ct (e.set i .no) } { D' with nx := fun e => D'.nx (e.set i .no), bk := fun e => D'.bk (e.set i .no), ct := fun e => D'.ct (e.set i .no) } _ ⟨fun e k => hD.nx _ k, hD.rt, fun e k => hD.bk _ k, fun e k => hD.ct _ k⟩ h2⟩) q⟩
  refine ⟨es, o, (hb [] (fun _ _ => False) PassesOwn.never).mono _ _ _ _ es ⟨fun _ k => k, fun _ k => k, fun _ k => k, fun _ k => k⟩ (fun cls es' ⟨h1, h2⟩ σ' H' o' => ⟨h1, rfl, fun a na => ⟨_, (o'.aft (o'.aft_new na)).setV' (.exc upd_same), (hsu 0 []).mono { endsD X.K C D with nx := fun e => (endsD X.K C D).nx (e.set i .no), bk := fun e => (endsD X.K C D).bk (e.set i .no), ct := fun e => (endsD X.K C D).ct (e.set i .no) } _ _ ⟨fun e k σ2 H2 o2 => ?_, fun d k => k, fun e k σ2 H2 o2 => ?_, fun e k σ2 H2 o2 => ?_⟩ h2⟩⟩) q⟩
  · exact k _ H2 (o2.setN' none (.inr trivial))
  · exact k _ H2 (o2.setN' none (.inr trivial))
  · exact k _ H2 (o2.setN' none (.inr trivial))
end

/-! ### isinstance of what was caught -/
/-- a class by its name -/
structure CN (X : Cx) (e : Expr) (u : Value) : Prop where
  ex : ∃ c, ClsV c u ∧ PE X e (tC c)
theorem cn_own {X : Cx} {K : PySem.W.Frag} {mg : Str → Option Value} {x : Str} {p : Pos} (h : Ec K mg x) (hM : X.mg = mg := by rfl) (hg : Gl X x := by rfl) (hd : (x == ("__debug__" : Str)) = false := by decide) : CN X (.Name x p) (clsV mg x) := by
  subst hM
  obtain ⟨C, e, _⟩ := h.ex
  rw [clsV_of e]
  exact ⟨.ref C, .own C, pe_glob hg e rfl hd⟩
theorem cn_ty {X : Cx} {x : Str} {T : String} {p : Pos} (hm : X.mg x = none) (hv : bootBuiltins x = some (.type T)) (hg : Gl X x := by rfl) (hn : x ≠ "__name__" := by decide) (hd : (x == ("__debug__" : Str)) = false := by decide) : CN X (.Name x p) (.type T) :=
  ⟨.ty T, .ty T, pe_bltn (v := .ty T) hg hm hv rfl hn hd⟩
section
variable {X : Cx} {R : RS}
/-- the class of what is asked -/
def tyV (K : PySem.W.Frag) : Dv → Value → Prop
  | .non, t => t = .type "NoneType"
  | .exc c, t => t = c ∧ ∃ D, c = .ref D ∧ ExcC K D
  | _, _ => False
theorem tyV_n {K : PySem.W.Frag} {t : Value} : tyV K .non t = (t = .type "NoneType") := rfl
theorem tyV_e {K : PySem.W.Frag} {t c : Value} : tyV K (.exc c) t = (t = c ∧ ∃ D, c = .ref D ∧ ExcC K D) := rfl
section
variable {CXX : CXT} {P : Program} {w : World} {K : PySem.W.Frag} {mg : Str → Option Value} {base : Heap} {N : List Str} {x : Str} {sc : Scope} {f : Addr} {cdv : Value} {A : Around} {o : List Env} {s : Shared} {H : Hp} {E : XK}
theorem cxK : (cxOf CXX P w K mg base N x sc f cdv A o s H E).K = K := rfl
theorem cxM : (cxOf CXX P w K mg base N x sc f cdv A o s H E).mg = mg := rfl
theorem cxKn : (cxOf CXX P w K mg base N x sc f cdv A o s H E).nox.K = K := rfl
theorem cxMn : (cxOf CXX P w K mg base N x sc f cdv A o s H E).nox.mg = mg := rfl
end
theorem tyV_exc {K : PySem.W.Frag} {mg : Str → Option Value} {x : Str} (h : Ec K mg x) : tyV K (.exc (clsV mg x)) (clsV mg x) := ⟨rfl, h.isc⟩
def rIsc (K : PySem.W.Frag) : List V → Hp → VK → Prop := fun xs H Q => ∃ (a D : Addr) (c : V) (u : Value) (b : Bool), xs = [.ref a, c] ∧ ClsV c u ∧ H a = some (XcO (.ref D) a) ∧ ExcC K D ∧ PySem.W.kitOne K (.ref D) u = some b ∧ Q (.bl b) H
theorem xc_inst {pins : List (Addr × Obj)} {σ : L2.St} {H : Hp} {s : Shared} {a D : Addr} (I : Inv X pins σ H s) (h : H a = some (XcO (.ref D) a)) : ∃ oe, PySem.W.InstAt s.heap a oe D none := by
  obtain ⟨⟨oe, vs, e, z, d⟩, _, _⟩ := I.hok a _ h
  refine ⟨oe, ?_⟩
  obtain ⟨oc, od, oda, osl⟩ := oe
  obtain ⟨h1, h2⟩ := z
  dsimp only at h1 h2 d
  subst h1 h2 d
  exact ⟨e, rfl, rfl, trivial⟩
theorem call_isc : CallR X (.builtin "isinstance") (rIsc X.K) := by
  intro pins s σ H xs us Q I r h
  obtain ⟨a, D, c, u, b, rfl, k, hx, C, e, q⟩ := h
  obtain ⟨u1, u2, rfl, r1, r2⟩ := vals2 r
  cases r1
  have e2 := k.eq r2
  subst e2
  obtain ⟨oe, J⟩ := xc_inst I hx
  exact PySem.W.kia_one (PySem.W.handS_kitx_exc C.hg C.hk C.hs C.hd C.ha C.hn C.ht C.hm) I.kIn J e (fun z => nomatch z) fun tk => ⟨.bl b, H, I.tok tk, rfl, q⟩
def rIscT (K : PySem.W.Frag) : List V → Hp → VK → Prop := fun xs H Q => ∃ (a D tp : Addr) (cs : List V) (us : List Value) (b : Bool), xs = [.ref a, .ref tp] ∧ H tp = some (.tup cs) ∧ Paired ClsV cs us ∧ H a = some (XcO (.ref D) a) ∧ ExcC K D ∧ PySem.W.kitAny K (.ref D) us = some b ∧ Q (.bl b) H
theorem call_iscT : CallR X (.builtin "isinstance") (rIscT X.K) := by
  intro pins s σ H xs us Q I r h
  obtain ⟨a, D, tp, cs, ws, b, rfl, hT, k, hx, C, e, q⟩ := h
  obtain ⟨u1, u2, rfl, r1, r2⟩ := vals2 r
  cases r1
  cases (show u2 = Value.ref tp from r2)
  obtain ⟨_, its, rv, o, h1, h2, n, h3⟩ := (show ObjOk X.prog X.w H s.heap tp (.tup cs) from I.hok tp _ hT)
  have e3 := ClsV.all k rv
  subst e3
  obtain ⟨oc, od, dt, sl⟩ := o
  simp only at h2 h3
  subst h2 h3
  obtain ⟨oe, J⟩ := xc_inst I hx
  exact PySem.W.kia_tup (PySem.W.handS_kitx_exc C.hg C.hk C.hs C.hd C.ha C.hn C.ht C.hm) I.kIn J h1 e (fun z => nomatch z) fun tk => ⟨.bl b, H, I.tok tk, rfl, q⟩
end
section
variable {X : Cx} {R : RS} {e ec : Expr} {w : WE} {pos p : Pos} {u : Value}
def wIsc (K : PySem.W.Frag) (u : Value) (w : WE) : WE := fun es Q => w es fun x => ∃ t b, tyV K x t ∧ PySem.W.kitOne K t u = some b ∧ Q (.bl b)
theorem de_isc {K : PySem.W.Frag} (hm : X.mg "isinstance" = none) (hc : CN X ec u) (ha : DE X R e w) (hK : X.K = K := by rfl) (hg : Gl X "isinstance" := by rfl)
    (he : starEach [e, ec] X.env = (false, eval e X.env) :: starEach [ec] X.env := by rfl) (he2 : starEach [ec] X.env = (false, eval ec X.env) :: starEach [] X.env := by rfl) (hpl : (backTo pos (starEach [ec] X.env)).any (·.1) = false := by rfl) :
    DE X R (.Call (.Name "isinstance" p) [e, ec] [] pos) (wIsc K u w) := by
  subst hK
  obtain ⟨c, kc, hp⟩ := hc.ex
  refine ⟨fun C => PE.imp (pe_callB (call_isi.or call_isc) hg hm boot_isinstance (pa_cons (ha.pe C) (pa_cons hp pa_nil he2) he) (by decide) (by decide) he hpl) fun σ H Q ⟨es, o, q⟩ => ⟨es, o, ha.mono es _ _ (fun d ⟨t, b, h, hk, k⟩ v H1 a1 r1 => ?_) q⟩,
    fun es P P' f q => ha.mono es _ _ (fun d ⟨t, b, h, hk, k⟩ => ⟨t, b, h, hk, f _ k⟩) q⟩
  cases r1 with
  | non => cases h; exact .inl ⟨_, c, _, u, b, rfl, kc, .base .non, hk, k _ H1 a1 (.bl _)⟩
  | exc hx =>
    obtain ⟨rfl, D, rfl, hD⟩ := h
    exact .inr ⟨_, D, c, u, b, rfl, kc, hx, hD, hk, k _ H1 a1 (.bl _)⟩
  | _ => exact h.elim
theorem paired_len {α β : Type} {F : α → β → Prop} : ∀ {xs : List α} {ys : List β}, Paired F xs ys → xs.length = ys.length
  | _, _, .nil => rfl
  | _, _, .cons _ t => by rw [List.length_cons, List.length_cons, paired_len t]
/-- classes in a tuple -/
structure CNs (X : Cx) (es : List Expr) (us : List Value) : Prop where
  ex : ∃ cs, Paired ClsV cs us ∧ ∃ t, PA X es t ∧ ∀ σ H Q, Q cs H → t σ H Q
theorem cns_nil : CNs X [] [] := ⟨[], .nil, _, pa_nil, fun _ _ _ q => q⟩
theorem cns_cons {es : List Expr} {us : List Value} (h : CN X e u) (t : CNs X es us) (he : starEach (e :: es) X.env = (false, eval e X.env) :: starEach es X.env := by rfl) : CNs X (e :: es) (u :: us) := by
  obtain ⟨c, k, hp⟩ := h.ex
  obtain ⟨cs, kk, t, ht, hq⟩ := t.ex
  exact ⟨c :: cs, .cons k kk, _, pa_cons hp ht he, fun σ H Q q => hq _ _ _ q⟩
def wIscT (K : PySem.W.Frag) (us : List Value) (w : WE) : WE := fun es Q => w es fun x => ∃ t b, tyV K x t ∧ PySem.W.kitAny K t us = some b ∧ Q (.bl b)
theorem de_iscT {K : PySem.W.Frag} {ecs : List Expr} {us : List Value} {kt : Nat} {pt : Pos} (hm : X.mg "isinstance" = none) (hc : CNs X ecs us) (ha : DE X R e w) (hl : us.length ≤ 100 := by simp) (hK : X.K = K := by rfl) (hg : Gl X "isinstance" := by rfl)
    (he : starEach [e, .Tuple ecs kt pt] X.env = (false, eval e X.env) :: starEach [.Tuple ecs kt pt] X.env := by rfl) (he2 : starEach [.Tuple ecs kt pt] X.env = (false, eval (.Tuple ecs kt pt) X.env) :: starEach [] X.env := by rfl) (hpl : (backTo pos (starEach [.Tuple ecs kt pt] X.env)).any (·.1) = false := by rfl) :
    DE X R (.Call (.Name "isinstance" p) [e, .Tuple ecs kt pt] [] pos) (wIscT K us w) := by
  subst hK
  obtain ⟨cs, kc, t, ht, hq⟩ := hc.ex
  refine ⟨fun C => PE.imp (pe_callB (call_isiT.or call_iscT) hg hm boot_isinstance (pa_cons (ha.pe C) (pa_cons (pe_tup ht) pa_nil he2) he) (by decide) (by decide) he hpl) fun σ H Q ⟨es, o, q⟩ => ⟨es, o, ha.mono es _ _ (fun d ⟨t, b, h, hk, k⟩ v H1 a1 r1 => ?_) q⟩,
    fun es P P' f q => ha.mono es _ _ (fun d ⟨t, b, h, hk, k⟩ => ⟨t, b, h, hk, f _ k⟩) q⟩
  have hcl : cs.length = us.length := paired_len kc
  refine hq _ _ _ ⟨Nat.le_trans (by rw [hcl]; exact hl) (by decide), fun tp hp => ?_⟩
  have o1 := o.aft a1
  have a2 := o1.aft_new (u := .tup cs) hp
  have r2 := r1.ext (C.avF es) a2.ext
  cases r2 with
  | non => cases h; exact .inl ⟨_, tp, cs, _, us, b, rfl, upd_same, kc, .base .non, hk, k _ _ (a1.trans a2) (.bl _)⟩
  | exc hx =>
    obtain ⟨rfl, D, rfl, hD⟩ := h
    exact .inr ⟨_, D, tp, cs, us, b, rfl, upd_same, kc, hx, hD, hk, k _ _ (a1.trans a2) (.bl _)⟩
  | _ => exact h.elim
end

/-! ### x[j] += e of an own list of whole numbers -/
section
variable {X : Cx} {R : RS} {e : Expr} {w : WE} {pos : Pos}
def tGetL : V → V → Hp → VK → Prop := fun o i H Q => ∃ p xs k v, o = .ref p ∧ i = .int k ∧ H p = some (.lst xs) ∧ 0 ≤ k ∧ k < 2 ^ 60 ∧ xs[k.toNat]? = some v ∧ Q v H
theorem pget_list : PGet X tGetL := by
  intro pins s σ H o i ov iv Q I ro ri h
  obtain ⟨p, xs, k, v, rfl, rfl, hp, h0, h60, hv, q⟩ := h
  cases ro
  obtain ⟨t, rfl⟩ := ri
  obtain ⟨hz, its, n, r, hl, e⟩ := I.lstM hp
  obtain ⟨u, eu, ru⟩ := r.get hv
  exact wpAny_getItem_list (items := its.toArray) ⟨_, e, rfl, _, rfl⟩ h0 (by omega) (by simpa using eu) ⟨v, H, I, ru, q⟩
def wsAugIt (i : Nat) (wj w : WE) : WS := fun D es => ∃ l ds, es[i]? = some (.own l (.lst ds)) ∧ wj es fun y => ∃ n m, y = .int n ∧ 0 ≤ n ∧ n < 1000000 ∧ ds[n.toNat]? = some (.int m) ∧ w es fun d => ∃ k, d = .int k ∧ D.nx (es.set i (.own l (.lst (ds.set n.toNat (.int (m + k))))))
theorem ds_augIt (i : Nat) {x : Str} {px p2 : Pos} {j : Expr} {wj : WE} (hj : DE X R j wj) (he : DE X R e w) (hN : X.N[i]? = some x := by rfl) (hv : Vis X.env.scope x := by first | exact Or.inl rfl | exact Or.inr (Or.inl rfl) | exact Or.inr (Or.inr rfl)) (hd : (x == ("__debug__" : Str)) = false := by decide)
    (hcd : (x == ("__classdict__" : Str)) = false := by decide) (ha : ∀ ov iv new, augStore j ov iv new = (do holding [new, ov, iv] (setItem ov iv new); release [new, ov, iv] []; pure .next) := by intros; rfl) :
    DS X R (.AugAssign (.Subscript (.Name x px) j p2) .Add e pos) (wsAugIt i wj w) := by
  refine ⟨fun C => PSt.imp (ps_augS (pe_var hN hv hd hcd) (hj.pe C) pget_list (he.pe C) ip_add set_list ha) fun D σ H ⟨es, o, l, ds, hl, q⟩ => ?_,
    fun D D' es hD ⟨l, ds, hl, q⟩ => ⟨l, ds, hl, hj.mono es _ _ (fun y ⟨n, m, h1, h2, h3, h4, k⟩ => ⟨n, m, h1, h2, h3, h4, he.mono es _ _ (fun d ⟨k, h5, kk⟩ => ⟨k, h5, hD.nx _ kk⟩) k⟩) q⟩⟩
  obtain ⟨e1, _⟩ := o.own i l _ hl
  refine ⟨.ref l, e1, es, o, hj.mono es _ _ (fun y ⟨n, m, h1, h2, h3, h4, k⟩ v H1 a1 r1 => ?_) q⟩
  subst h1
  cases r1
  have o1 := o.aft a1
  obtain ⟨_, xs, hx, rx⟩ := o1.own i l _ hl
  obtain ⟨z, hz, rz⟩ := rx.get' h4
  cases rz
  refine ⟨l, xs, n, _, rfl, rfl, hx, h2, by omega, hz, es, o1, he.mono es _ _ (fun d ⟨k, h5, kk⟩ u H2 a2 r2 => ?_) k⟩
  subst h5
  cases r2
  have o2 := o1.aft a2
  obtain ⟨_, xs', hx', rx'⟩ := o2.own i l _ hl
  have hlt : n.toNat < ds.length := (List.getElem?_eq_some_iff.mp h4).1
  refine ⟨m, k, rfl, rfl, l, xs', n, n.toNat, rfl, rfl, hx', ?_, kk _ _ (o2.mutO hl ⟨_, upd_same, (rx'.set (.int _) n.toNat).mut (.inr (mem_owned hl)) fun u e => by rw [hx'] at e; cases e; exact fun z => z⟩)⟩
  unfold L2.ixN
  rw [if_pos h2, if_pos (by rw [rx'.length]; omega)]
end

/-! ### which class stands under which -/
section
variable {K : PySem.W.Frag} {t : Value} {C : Addr} {b : Bool}
theorem kit_self : PySem.W.kitOne K t t = some true := by
  unfold PySem.W.kitOne
  rw [if_pos (beq_self_eq_true _)]
theorem kit_ref (hd : PySem.W.hasDictIn K C = true) (ht : PySem.W.typeIn K (.ref C) = some (.type "type")) (hn : (t == .ref C) = false) (h : PySem.W.subIn K t (.ref C) = some b) : PySem.W.kitOne K t (.ref C) = some b := by
  obtain ⟨cd, hc, _⟩ := PySem.W.any_some hd
  unfold PySem.W.kitOne
  rw [if_neg (by rw [hn]; exact Bool.false_ne_true)]
  show (if ((PySem.W.clsIn K C).isSome && PySem.W.typeIn K (.ref C) == some (.type "type")) = true then PySem.W.subIn K t (.ref C) else none) = some b
  rw [if_pos (by rw [hc, ht]; rfl)]
  exact h
theorem kit_typ {T : String} (hk : PySem.W.kitMeta T = true) (hn : (t == .type T) = false) (h : PySem.W.subIn K t (.type T) = some b) : PySem.W.kitOne K t (.type T) = some b := by
  unfold PySem.W.kitOne
  rw [if_neg (by rw [hn]; exact Bool.false_ne_true)]
  show (if PySem.W.kitMeta T = true then PySem.W.subIn K t (.type T) else none) = some b
  rw [if_pos hk]
  exact h
theorem kitMeta_VE : PySem.W.kitMeta "ValueError" = true := by decide +kernel
end
/-! ### == of lists of bools -/
section
variable {X : Cx} {R : RS} {a b : Expr} {wa wb : WE} {pos : Pos}
theorem eqv_bls : ∀ xs ys : List Bool, PyData.eqvAll (toPyL (xs.map .bl)) (toPyL (ys.map .bl)) = decide (xs = ys)
  | [], [] => by simp [toPyL, PyData.eqvAll]
  | [], y :: ys => by simp [toPyL, PyData.eqvAll]
  | x :: xs, [] => by simp [toPyL, PyData.eqvAll]
  | x :: xs, y :: ys => by
    have ih := eqv_bls xs ys
    simp only [List.map_cons, toPyL, PyData.eqvAll, ih, List.cons.injEq]
    cases x <;> cases y <;> simp [toPy, PyData.eqv]
theorem bls_lay (xs : List Bool) : (toPy (.lst (xs.map .bl))).canLay0 = true := by
  simp only [toPy, PyData.canLay0]
  exact lay_all fun d hd => by
    obtain ⟨b, _, rfl⟩ := List.mem_map.mp hd
    simp [toPy, PyData.canLay0]
theorem bls_shaped (xs : List Bool) : SeqAt.shaped (toPy (.lst (xs.map .bl))) = true := by
  unfold SeqAt.shaped
  rw [bls_lay, Bool.true_and]
  refine decide_eq_true ?_
  have h : PyData.depthAll (toPyL (xs.map .bl)) ≤ 0 := depth_all fun d hd => by
    obtain ⟨b, _, rfl⟩ := List.mem_map.mp hd
    simp [toPy, PyData.depth]
  simp only [toPy, PyData.depth]
  omega
def rdEqB : Dv → Dv → (Dv → Prop) → Prop := fun d e Q => ∃ xs ys : List Bool, d = .lst (xs.map .bl) ∧ e = .lst (ys.map .bl) ∧ Q (.bl (decide (xs = ys)))
theorem sem_eqB (hu : X.A.units + 64 < cLine) : SemOp X R (compareOp .Eq) rdEqB := by
  refine ⟨⟨_, op_eqD hu, fun C es σ H x y d e Q o rx ry ⟨xs, ys, e1, e2, q⟩ => ?_⟩, fun d e P P' f ⟨xs, ys, e1, e2, q⟩ => ⟨xs, ys, e1, e2, f _ q⟩⟩
  subst e1 e2
  refine ⟨_, _, rx.dp (bls_lay xs), ry.dp (bls_lay ys), bls_shaped xs, bls_shaped ys, ?_⟩
  have e : PyData.eqv (toPy (.lst (xs.map .bl))) (toPy (.lst (ys.map .bl))) = decide (xs = ys) := by
    rw [← eqv_bls]
    simp only [toPy, PyData.eqv]
  rw [e]
  exact q _ H o.here (.bl _)
theorem de_eqB (hu : X.A.units + 64 < cLine) (ha : DB X R a wa) (hb : DB X R b wb) : DE X R (.Compare a [.Eq] [b] pos) (w2 rdEqB wa wb) := de_cmp2 (sem_eqB hu) ha hb (nomark _)
end
end L3

/-! L3l: texts of whole numbers: a sign in a text, a text of the module, rows shown and read. -/
namespace L3
open PySem PySem.Spec PyProof.Rows L2
section
variable {X : Cx} {R : RS} {a b : Expr} {wa wb : WE} {pos : Pos}
def rdInS : Dv → Dv → (Dv → Prop) → Prop := fun d e Q => ∃ (c : Nat) (z : Str), d = .str ⟨#[c]⟩ ∧ e = .str z ∧ Q (.bl (decide (c ∈ z.cps.toList)))
def rdNinS : Dv → Dv → (Dv → Prop) → Prop := fun d e Q => ∃ (c : Nat) (z : Str), d = .str ⟨#[c]⟩ ∧ e = .str z ∧ Q (.bl (!decide (c ∈ z.cps.toList)))
theorem sem_inS : SemOp X R (compareOp .In) rdInS :=
  ⟨⟨_, op_in_sign, fun C es σ H x y d e Q o rx ry ⟨c, z, e1, e2, q⟩ => by subst e1 e2; exact ⟨c, z, rx.str, ry.str, q _ H o.here (.bl _)⟩⟩, fun d e P P' f ⟨c, z, e1, e2, q⟩ => ⟨c, z, e1, e2, f _ q⟩⟩
theorem sem_ninS : SemOp X R (compareOp .NotIn) rdNinS :=
  ⟨⟨_, op_notIn_sign, fun C es σ H x y d e Q o rx ry ⟨c, z, e1, e2, q⟩ => by subst e1 e2; exact ⟨c, z, rx.str, ry.str, q _ H o.here (.bl _)⟩⟩, fun d e P P' f ⟨c, z, e1, e2, q⟩ => ⟨c, z, e1, e2, f _ q⟩⟩
theorem de_inS (ha : DB X R a wa) (hb : DB X R b wb) (hm : behindInMarks .In b = false := by rfl) : DE X R (.Compare a [.In] [b] pos) (w2 rdInS wa wb) := de_cmp2 sem_inS ha hb hm
theorem dt_inS (ha : DB X R a wa) (hb : DB X R b wb) (hm : behindInMarks .In b = false := by rfl) : DT X R (.Compare a [.In] [b] pos) (w2T rdInS wa wb) := dt_cmp2 sem_inS ha hb hm
theorem de_ninS (ha : DB X R a wa) (hb : DB X R b wb) (hm : behindInMarks .NotIn b = false := by rfl) : DE X R (.Compare a [.NotIn] [b] pos) (w2 rdNinS wa wb) := de_cmp2 sem_ninS ha hb hm
theorem dt_ninS (ha : DB X R a wa) (hb : DB X R b wb) (hm : behindInMarks .NotIn b = false := by rfl) : DT X R (.Compare a [.NotIn] [b] pos) (w2T rdNinS wa wb) := dt_cmp2 sem_ninS ha hb hm
theorem de_gstrE {x y : Str} (hg : Gl X x) (hm : ∃ t, X.mg x = some (.str y t)) (hd : (x == ("__debug__" : Str)) = false := by decide) : DE X R (.Name x pos) (wC (.str y)) :=
  de_c (v := .str y) (by
    obtain ⟨t, h⟩ := hm
    exact pe_glob hg h ⟨t, rfl⟩ hd) fun _ _ => .str y
/-- a text once or not at all -/
theorem op_repS : OpR X (binaryOp .Mult) (fun x y H Q => ∃ (i : Str) (k : Int), x = .str i ∧ y = .int k ∧ (k = 0 ∨ k = 1) ∧ Q (.str (if k = 1 then i else Str.empty)) H) := by
  intro pins s σ H x y v u Q I rx ry h
  obtain ⟨i, k, rfl, rfl, hk, q⟩ := h
  obtain ⟨t, rfl⟩ := rx
  obtain ⟨t', rfl⟩ := ry
  rcases hk with e | e
  · subst e
    refine PySem.P.mul_str_none (by decide) (by decide) ⟨.str Str.empty, H, I.tok _, ⟨_, rfl⟩, ?_⟩
    rw [if_neg (by decide)] at q
    exact q
  · subst e
    refine PySem.P.mul_str (by decide) (fun _ h => absurd h (by simp)) (fun _ h => absurd h (by simp)) ?_
    rw [if_neg (by decide), if_pos (by rfl)]
    rw [if_pos rfl] at q
    exact ⟨.str i, H, I, ⟨t, rfl⟩, q⟩
def rdRepS : Dv → Dv → (Dv → Prop) → Prop := fun d e Q => ∃ (i : Str) (k : Int), d = .str i ∧ e = .int k ∧ (k = 0 ∨ k = 1) ∧ Q (.str (if k = 1 then i else Str.empty))
theorem sem_repS : SemOp X R (binaryOp .Mult) rdRepS :=
  ⟨⟨_, op_repS, fun C es σ H x y d e Q o rx ry ⟨i, k, e1, e2, hk, q⟩ => by subst e1 e2; exact ⟨i, k, rx.str, ry.int, hk, q _ H o.here (.str _)⟩⟩, fun d e P P' f ⟨i, k, e1, e2, hk, q⟩ => ⟨i, k, e1, e2, hk, f _ q⟩⟩
theorem de_repS (ha : DB X R a wa) (hb : DB X R b wb) : DE X R (.BinOp a .Mult b pos) (w2 rdRepS wa wb) := de_op2 sem_repS ha hb
end
end L3
namespace Lw
open PySem PySem.Spec PyProof.Rows L2 L3 PySem.NumText TL

/-! ### a whole number's text -/
def strI (n : Int) : Str := (toString n : String)
def sgL (n : Int) : List Nat := if 0 ≤ n then numL n.toNat else 45 :: numL (-n).toNat
theorem tl_strI (n : Int) : tl (strI n) = sgL n := by
  unfold sgL
  by_cases h : 0 ≤ n
  · rw [if_pos h]
    obtain ⟨m, rfl⟩ : ∃ m : Nat, n = (m : Nat) := ⟨n.toNat, by omega⟩
    exact tl_num m
  · rw [if_neg h]
    obtain ⟨m, rfl⟩ : ∃ m : Nat, n = Int.negSucc m := ⟨(-n).toNat - 1, by omega⟩
    have e1 : (toString (Int.negSucc m) : String) = "-" ++ Nat.repr (m + 1) := rfl
    show (Str.ofString (toString (Int.negSucc m) : String)).cps.toList = _
    rw [e1, PyProof.Rows.signs_ofString, String.toList_append, List.map_append]
    have e3 : (-(Int.negSucc m)).toNat = m + 1 := by omega
    rw [e3]
    have e4 := tl_num (m + 1)
    rw [show tl (Str.ofString (toString ((m + 1 : Nat) : Int))) = (Str.ofString (Nat.repr (m + 1))).cps.toList from rfl, PyProof.Rows.signs_ofString] at e4
    rw [e4]
    rfl
theorem sgL_sign {n : Int} {c : Nat} (h : c ∈ sgL n) : c = 45 ∨ (48 ≤ c ∧ c ≤ 57) := by
  unfold sgL at h
  split at h
  · exact .inr (numL_digits _ c h)
  · rcases List.mem_cons.mp h with z | z
    · exact .inl z
    · exact .inr (numL_digits _ c z)
theorem sgL_len {n : Int} {k : Nat} (hk : 0 < k) (h : -(10 : Int) ^ k < n ∧ n < (10 : Int) ^ k) : (sgL n).length ≤ k + 1 := by
  have hp : ∀ m : Nat, (m : Int) < (10 : Int) ^ k → m < 10 ^ k := fun m hm => by
    rw [← Int.ofNat_lt, Int.natCast_pow]; exact hm
  unfold sgL
  split
  · have := numL_len (n := n.toNat) hk (hp _ (by omega))
    omega
  · have := numL_len (n := (-n).toNat) hk (hp _ (by omega))
    rw [List.length_cons]
    omega
theorem strI_len {n : Int} {k : Nat} (hk : 0 < k) (h : -(10 : Int) ^ k < n ∧ n < (10 : Int) ^ k) : (strI n).length ≤ k + 1 := by
  rw [len_tl, tl_strI]; exact sgL_len hk h
theorem strI_int {n : Int} (h : (strI n).length ≤ 4300) : intText? (strI n) = some n := by
  have e := tl_strI n
  unfold sgL at e
  split at e
  · rename_i h0
    have := intText_digits (x := strI n) (by rw [show (strI n).cps.toList = tl (strI n) from rfl, e]; exact numL_digits _) (by rw [show (strI n).cps.toList = tl (strI n) from rfl, e]; exact numL_ne _) h
    rw [this, show (strI n).cps.toList = tl (strI n) from rfl, e, numL_val]
    congr 1
    omega
  · rename_i h0
    have := intText_neg (x := strI n) e (numL_digits _) (numL_ne _) h
    rw [this, numL_val]
    congr 1
    omega
theorem numL_head : ∀ n : Nat, ∃ c cs, numL n = c :: cs ∧ (0 < n → c ≠ 48) := by
  intro n
  induction n using Nat.strongRecOn with
  | _ n ih =>
    by_cases h : n < 10
    · exact ⟨48 + n, [], numL_lt h, fun h0 => by omega⟩
    · obtain ⟨c, cs, e, h2⟩ := ih (n / 10) (by omega)
      exact ⟨c, cs ++ [48 + n % 10], by rw [numL_step (by omega), e]; rfl, fun _ => h2 (by omega)⟩
theorem strI_inj {m n : Int} (h : strI m = strI n) : m = n := by
  have e : sgL m = sgL n := by rw [← tl_strI, ← tl_strI, h]
  unfold sgL at e
  split at e <;> split at e
  · have := numL_inj e; omega
  · have := numL_digits m.toNat 45 (by rw [e]; exact List.mem_cons_self)
    omega
  · have := numL_digits n.toNat 45 (by rw [← e]; exact List.mem_cons_self)
    omega
  · have := numL_inj (List.cons.inj e).2
    omega
/-! ### rows shown -/
def shT (r : List Int) : Str := Txt.join (Str.ofString " ") (r.map strI)
theorem sh_split {r : List Int} (h : r ≠ []) : Txt.split (shT r) (Str.ofString " ") = r.map strI := by
  refine split_join (s := 32) (S := []) (by decide +kernel) (by decide +kernel) (fun e => h (List.map_eq_nil_iff.mp e)) fun p hp hm => ?_
  obtain ⟨n, _, rfl⟩ := List.mem_map.mp hp
  rw [tl_strI] at hm
  have := sgL_sign hm
  omega
theorem cut_to1 {z : Str} {c : Nat} {cs : List Nat} (e : tl z = c :: cs) : cutS z none (some 1) = ⟨#[c]⟩ := by
  have hl : z.length = cs.length + 1 := by rw [len_tl, e]; rfl
  unfold cutS
  rw [HT.sIx_none, show HT.sIx z.length z.length (some 1) = min 1 z.length from HT.sIx_nat z.length z.length 1, hl, show min 1 (cs.length + 1) = 1 by omega, show z.cps.toList = c :: cs from e]
  rfl
theorem cut_from1 {z : Str} {c : Nat} {cs : List Nat} (e : tl z = c :: cs) : tl (cutS z (some 1) none) = cs := by
  have hl : z.length = cs.length + 1 := by rw [len_tl, e]; rfl
  unfold cutS
  rw [HT.sIx_none, show HT.sIx z.length 0 (some 1) = min 1 z.length from HT.sIx_nat z.length 0 1, hl, show min 1 (cs.length + 1) = 1 by omega, show z.cps.toList = c :: cs from e]
  show List.take (cs.length + 1 - 1) cs = _
  rw [Nat.add_sub_cancel, List.take_length]
theorem nlog {n : Int} (h : -(10 : Int) ^ 14 < n ∧ n < (10 : Int) ^ 14) : n.natAbs.log2 < 1920 := by
  have e : (10 : Int) ^ 14 = 100000000000000 := by decide
  rw [e] at h
  by_cases z : n.natAbs = 0
  · rw [z]; decide
  · exact Nat.lt_trans ((Nat.log2_lt z).mpr (show n.natAbs < 2 ^ 64 by omega)) (by decide)
theorem len_sum {α : Type} (f : α → Str) {k : Nat} : ∀ l : List α, (∀ x ∈ l, (f x).length ≤ k) → (((l.map f).map fun x => x.length).sum) ≤ k * l.length
  | [], _ => Nat.zero_le _
  | x :: l, h => by
    have h1 := h x (.head _)
    have h2 := len_sum f l fun y hy => h y (.tail _ hy)
    rw [List.map_cons, List.map_cons, List.sum_cons, List.length_cons, Nat.mul_succ]
    omega
theorem strI_ne (n : Int) : strI n ≠ Str.ofString "" := fun e => by
  have h := tl_strI n
  rw [e] at h
  have h2 : sgL n ≠ [] := by
    unfold sgL
    split
    · exact numL_ne _
    · exact fun z => nomatch z
  exact h2 h.symm
theorem sh_ne {r : List Int} (h : r ≠ []) : shT r ≠ Str.ofString "" := fun e => by
  have h1 := sh_split h
  rw [e, show Txt.split (Str.ofString "") (Str.ofString " ") = [Str.ofString ""] from by decide +kernel] at h1
  cases r with
  | nil => exact h rfl
  | cons n r => exact strI_ne n (List.cons.inj h1).1.symm
theorem joinL_len (s : List Nat) : ∀ ps : List (List Nat), (joinL s ps).length ≤ (ps.map List.length).sum + ps.length * s.length
  | [] => Nat.zero_le _
  | [p] => by
    show p.length ≤ _
    rw [List.map_cons, List.sum_cons]
    omega
  | p :: q :: r => by
    have h := joinL_len s (q :: r)
    show (p ++ (s ++ joinL s (q :: r))).length ≤ _
    rw [List.length_append, List.length_append, List.map_cons, List.sum_cons, List.length_cons, Nat.succ_mul]
    omega
theorem sh_len {r : List Int} {k : Nat} (hk : 0 < k) (h : ∀ n ∈ r, -(10 : Int) ^ k < n ∧ n < (10 : Int) ^ k) : (shT r).length ≤ (k + 2) * r.length := by
  rw [len_tl]
  unfold shT
  rw [join_eq, tl_join]
  refine Nat.le_trans (joinL_len _ _) ?_
  rw [show (tl (Str.ofString " ")).length = 1 by decide +kernel, List.length_map, List.length_map, Nat.mul_one]
  have h2 : (((r.map strI).map tl).map List.length).sum ≤ (k + 1) * r.length := by
    have h3 := len_sum strI r fun n hn => strI_len hk (h n hn)
    have e : ((r.map strI).map tl).map List.length = (r.map strI).map fun x => x.length := by
      rw [List.map_map]
      exact List.map_congr_left fun x _ => (len_tl x).symm
    rw [e]
    exact h3
  have e2 : (k + 2) * r.length = (k + 1) * r.length + r.length := by rw [Nat.succ_mul]
  omega
/-! ### two rows -/
theorem joinL_app (s : List Nat) : ∀ (ps qs : List (List Nat)), ps ≠ [] → qs ≠ [] → joinL s (ps ++ qs) = joinL s ps ++ (s ++ joinL s qs)
  | [], _, h, _ => absurd rfl h
  | [p], qs, _, h => by
    cases qs with
    | nil => exact absurd rfl h
    | cons q r => rfl
  | p :: p' :: ps, qs, _, h => by
    have ih := joinL_app s (p' :: ps) qs (fun z => nomatch z) h
    show p ++ (s ++ joinL s ((p' :: ps) ++ qs)) = (p ++ (s ++ joinL s (p' :: ps))) ++ _
    rw [ih]
    simp [List.append_assoc]
theorem str_ext {a b : Str} (h : a.cps.toList = b.cps.toList) : a = b := by
  cases a; cases b
  congr 1
  exact Array.toList_inj.mp h
theorem sh_app {a b : List Int} (ha : a ≠ []) (hb : b ≠ []) : shT (a ++ b) = shT a ++ Str.ofString " " ++ shT b := by
  refine str_ext ?_
  rw [app_cps, app_cps]
  show tl (shT (a ++ b)) = tl (shT a) ++ tl (Str.ofString " ") ++ tl (shT b)
  unfold shT
  rw [join_eq, join_eq, join_eq, tl_join, tl_join, tl_join, List.map_append, List.map_append, joinL_app _ _ _ (by simpa using ha) (by simpa using hb), List.append_assoc]
theorem sh_nil : shT [] = Str.ofString "" := by decide +kernel
theorem app_e (a : Str) : a ++ Str.ofString "" = a := str_ext (by rw [app_cps, show (Str.ofString "").cps.toList = [] by decide +kernel, List.append_nil])
theorem e_app (a : Str) : Str.ofString "" ++ a = a := str_ext (by rw [app_cps, show (Str.ofString "").cps.toList = [] by decide +kernel, List.nil_append])
theorem pre_last (r : List Int) : ixD (rowD (pre r)) (.int (-1)) = some (.int r.sum) := by
  have h := pre_get (r := r) (i := r.length) (Nat.le_refl _)
  rw [List.take_length] at h
  have e : pre r = (pre r).take r.length ++ [r.sum] := by rw [← take_snoc h, ← pre_length r, List.take_length]
  rw [e, rowD, iD_append]
  exact atI_last _ _
theorem pre_append (a b : List Int) : pre (a ++ b) = pre a ++ ((pre b).drop 1).map fun x => a.sum + x := by
  apply List.ext_getElem?
  intro i
  by_cases h1 : i ≤ a.length
  · rw [pre_get (by rw [List.length_append]; omega), List.getElem?_append_left (by rw [pre_length]; omega), pre_get h1, List.take_append_of_le_length h1]
  · by_cases h2 : i ≤ a.length + b.length
    · obtain ⟨j, rfl⟩ : ∃ j, i = a.length + 1 + j := ⟨i - (a.length + 1), by omega⟩
      rw [pre_get (by rw [List.length_append]; omega), List.getElem?_append_right (by rw [pre_length]; omega), pre_length, List.getElem?_map, List.getElem?_drop, show 1 + (a.length + 1 + j - (a.length + 1)) = j + 1 by omega, pre_get (by omega)]
      have e : (a ++ b).take (a.length + 1 + j) = a ++ b.take (j + 1) := by
        rw [show a.length + 1 + j = a.length + (j + 1) by omega, List.take_length_add_append]
      rw [e, List.sum_append]
      rfl
    · rw [List.getElem?_eq_none (by rw [pre_length, List.length_append]; omega), List.getElem?_eq_none (by rw [List.length_append, List.length_map, List.length_drop, pre_length, pre_length]; omega)]
theorem app_len (a b : Str) : (a ++ b).length = a.length + b.length := by rw [len_tl, len_tl, len_tl, ← List.length_append]; exact congrArg List.length (app_cps a b)
/-! ### a row written figure by figure from behind -/
def preL (m : Nat) : List Nat := if m < 10 then [] else numL (m / 10)
theorem numL_pre (m : Nat) : numL m = preL m ++ [48 + m % 10] := by
  unfold preL
  by_cases h : m < 10
  · rw [if_pos h, numL_lt h, Nat.mod_eq_of_lt h]; rfl
  · rw [if_neg h, numL_step (by omega)]
theorem joinL_flat (ps : List (List Nat)) (p : List Nat) : joinL [32] (p :: ps) = p ++ ps.flatMap fun q => 32 :: q := by
  induction ps generalizing p with
  | nil => simp [joinL]
  | cons q r ih =>
    show p ++ ([32] ++ joinL [32] (q :: r)) = _
    rw [ih q, List.flatMap_cons]
    simp
theorem sh_flat {r : List Int} {x : Str} (h : x.cps.toList = r.flatMap fun n => 32 :: sgL n) : cutS x (some 1) none = shT r := by
  cases r with
  | nil =>
    have e : x = Str.ofString "" := str_ext (by rw [h]; decide +kernel)
    rw [e]
    decide +kernel
  | cons n r =>
    rw [List.flatMap_cons, List.cons_append] at h
    refine str_ext ?_
    show tl (cutS x (some 1) none) = tl (shT (n :: r))
    rw [cut_from1 h]
    unfold shT
    rw [join_eq, tl_join, List.map_cons, List.map_cons, show tl (Str.ofString " ") = [32] by decide +kernel, joinL_flat, tl_strI]
    congr 1
    rw [List.flatMap_def, List.flatMap_def, List.map_map, List.map_map]
    congr 1
    refine List.map_congr_left fun z _ => ?_
    show 32 :: sgL z = 32 :: tl (strI z)
    rw [tl_strI]
end Lw

/-! L7d: a list comprehension whose element may raise. -/
namespace L3
open PySem PySem.Spec PyProof.Rows L2

/-- how a block ends: all through, or by what was raised in it -/
def endX (M : Model) (A : Around) (E Q : Value → Shared → Prop) (env : Env) (acc : Value) (C : Addr) : Result → Shared → Prop
  | .ok _, s => ∃ m, s.heap.Ns C m ∧ ∀ h, Heap.SameBut C s.heap h → Q acc { s with heap := h }
  | .error x, s => ∃ m, s.heap.Ns C m ∧ ∀ h, Heap.SameBut C s.heap h → ∀ ce : Env, ce.frame = env.frame → wpAny M A (PySem.passOn "comprehension.variables-let-go" x ce : Sem Value) (fun _ _ => False) E { s with heap := h }
theorem compX {M : Model} {A : Around} {E Q : Value → Shared → Prop} {s : Shared} {env : Env} {e : Expr} {scope : Scope} {pos : Pos} {mk first : Sem Value} {g : Comprehension} {gs : List Comprehension} {cl : List (Str × Addr)}
    (hcl : clausesOf e = g :: gs) (hf : ∀ x, foldedSetIterable g.iter env x = pure x) (hclos : closureFor scope env = pure cl) (hk : scope.kind = .function) (hn : ∀ x ∈ scope.names, x.2 = .local → scope.names.lookup x.1 = some .local)
    (h : wpAny M A first (fun x s1 => wpAny M A (pyIter x) (fun it s2 => wpAny M A mk (fun acc s3 => wpAny M A (newFunctionEnv scope env.globals cl [] env.qual none .none (some env)) (fun ce s4 =>
      ce.frame = env.frame ∧ codeAny M A (.compStart e 0 it acc { ce with scope := relabel scope env }) (endX M A E Q env acc ce.locals) s4) E s3) E s2) E s1) E s) :
    wpAny M A (comprehension e scope env pos mk false first none) Q E s := by
  have idE : ∀ (x : Value) (s' : Shared), E x s' → E x s' := fun _ _ z => z
  unfold comprehension
  rw [hclos, hcl]
  refine wpAny_bind (wpAny_mono h (fun x s1 k1 => ?_) idE)
  refine wpAny_bind (wpAny_standAt (wpAny_bind (wpAny_of_eq (hf x) ?_)))
  refine wpAny_bind (wpAny_holding (wpAny_mono k1 (fun it s2 k2 => ?_) idE))
  refine wpAny_standIf (wpAny_bind (wpAny_mono k2 (fun acc s3 k3 => ?_) idE))
  refine wpAny_bind (wpAny_pure (wpAny_bind (wpAny_mono k3 (fun ce s4 k4 => ?_) idE)))
  obtain ⟨hfr, k4⟩ := k4
  dsimp only
  have hv : ∀ x ∈ (scope.names.filter fun x => (x.2 == .local || x.2 == .cell) && x.1 != (".0" : Str)).reverse, x.2 = .local → Env.kindOf { ce with scope := relabel scope env } x.1 = some .local :=
    fun x hx hl => lookup_relabel_local (hn x (List.mem_filter.mp (List.mem_reverse.mp hx)).1 hl)
  refine wpAny_holding (wpAny_bind (wpAny_attempt (wpAny_holding (wpAny_run (codeAny_mono k4 fun r s5 hr => ?_)))))
  match r, hr with
  | .ok _, ⟨m, h1, h2⟩ => exact wpAny_bind (wpAny_holding (wpAny_comp_letGo (cenv := { ce with scope := relabel scope env }) hk _ s5 m hv h1 fun h' m' _ hs => wpAny_pure (h2 h' hs)))
  | .error x, ⟨m, h1, h2⟩ => exact wpAny_bind (wpAny_holding (wpAny_comp_letGo (cenv := { ce with scope := relabel scope env }) hk _ s5 m hv h1 fun h' m' _ hs => wpAny_mono (h2 h' hs _ hfr) (fun _ _ z => z.elim) idE))
theorem note_same {x : Value} {env ce : Env} (h : ce.frame = env.frame) : noteFrame x ce = noteFrame x env := by
  unfold noteFrame PySem.frameOf
  rw [h]
/-- what a call in a block lets out leaves the block -/
theorem blk_out {X : Cx} {W : WX} {pins : List (Addr × Obj)} {σ : L2.St} {H3 : Hp} {s3 : Shared} {scope : Scope} {ce : Env} {fp : List Addr} {C : Addr} {acc : Value} {Qf : Value → Shared → Prop} (hst : X.stack = X.env :: X.outer) (hf : X.env.frame = some X.env.locals) (tk : Takes X W)
    (I3 : Inv X pins σ H3 s3) (f3 : ∀ b ∈ fp, FpOk X pins H3 b) (hce : ce.frame = X.env.frame) (hL : ce.locals = C) (hC : C = s3.heap.objs.size) {pn pins' : List (Addr × Obj)} {xe : Value → Shared → Prop} {σ' : L2.St} {H' : Hp} {s' s2 : Shared} {e : Value}
    (I : Inv ((X.blk s3 H3 scope ce fp).tr pn xe) pins' σ' H' s') (c : CX X.prog X.w X.stack H' s' (fun cls d H => W cls d σ H) e s2) :
    notedBy (model X.prog X.w) X.A ce (fun x s => endX (model X.prog X.w) X.A X.xe Qf X.env acc C (.error x) s) e s2 := by
  have x : XE ((X.blk s3 H3 scope ce fp).tr pn xe) (fun cls d _ H => W cls d σ H) e s2 := XE.of_call I (fun _ _ _ h => h) c
  obtain ⟨a0, B0, _, _, _, e0, fl0, _⟩ := c
  obtain ⟨a, B, sI, pinsI, σI, HI, cls, d, e1, J, nb, up, sky, na, os, ag, w⟩ := x
  subst e0
  obtain rfl : a0 = a := Value.ref.inj e1
  have sky : Sky B X.stack a0 (Zc cls d) ce.locals s2.heap := sky
  have nb : ∀ b o, sI.heap.get? b = some o → b ∉ frs X.stack → B.get? b = some o := nb
  have fl : HandSPX.FlyingZ B X.stack a0 (Zc cls d) s2.heap := by
    obtain ⟨_, _, _, oe0, vs0, T0, oT0, ts0, g1, _, g3, g4, _, _, g7, g8, g9⟩ := fl0
    rcases sky with ⟨_, _, _, oe, vs, he, _, hd, h1⟩ | fl | ⟨_, _, _, oe, vs, T, oT, ts, he, _, hd, h1, _, _, hT, hdT, h3⟩
    · rw [g1] at he; cases he
      rw [g3] at hd; cases hd
      rw [g4] at h1; cases h1
    · exact fl
    · rw [g1] at he; cases he
      rw [g3] at hd; cases hd
      rw [g4] at h1; cases h1
      rw [g7] at hT; cases hT
      rw [g8] at hdT; cases hdT
      rw [g9] at h3; cases h3
  have frX : X.A.frames = some (X.env :: X.outer) := by rw [I3.ok.frames, hst]
  unfold notedBy
  rw [note_same hce]
  rw [hst] at fl
  refine HandSPX.looks_onZ Zc.steady frX hf fl fun h1 hh up1 => ?_
  have J1 : Inv ((X.blk s3 H3 scope ce fp).tr pn xe) pinsI σI HI { s2 with heap := h1 } := J.landed nb hh.1 (up.trans up1) os ag
  obtain ⟨m, hn, _⟩ := J1.loc
  have hn : h1.Ns ce.locals m := hn
  rw [hL] at hn
  refine ⟨m, hn, fun h2 sb ce' hce' => ?_⟩
  have nC : HI C = none := by
    have z : HI ce.locals = none := J.free
    rwa [hL] at z
  have fC : FpOk X pins HI C := I3.fpOk (by rw [hC]; exact Nat.le_refl _) nC
  obtain ⟨q0, q1, q2, q3, q4, q5⟩ := fC
  have I7 : Inv X pins σ HI sI := I3.call' (ch := fp) J.os J.base J.hok J.bare fun b hb => ⟨(f3 b hb).2.2.2.1, (f3 b hb).2.1, (f3 b hb).2.2.2.2.1, (f3 b hb).2.2.2.2.2⟩
  have I7' : Inv X pins σ HI { s2 with heap := h1 } := I7.landed nb hh.1 (up.trans up1) os ag
  have I9 : Inv X pins σ HI { s2 with heap := h2 } := Inv.turned (s := { s2 with heap := h1 }) (t' := s2.toks) (it := C) I7' (fun b o hb z => (sb.2 b hb).trans z) q0 q1 q3 q4 q5
  obtain ⟨G, g1, g2⟩ := restrict sI.heap fun b => decide (b ≠ C)
  obtain ⟨B2, b1, b2⟩ := restrict B fun b => decide (b ≠ C)
  have I8 : Inv X pins σ HI { sI with heap := G, toks := sI.toks } := I7.turned (t' := sI.toks) (it := C) (fun b o hb z => (g1 b (decide_eq_true hb)).trans z) q0 q1 q3 q4 q5
  have inB : ∀ b o, B2.get? b = some o → b ≠ C ∧ B.get? b = some o := fun b o z => by
    by_cases hb : b = C
    · rw [b2 b (by simp [hb])] at z; cases z
    · exact ⟨hb, by rw [← b1 b (by simp [hb])]; exact z⟩
  have inG : ∀ b o, G.get? b = some o → b ≠ C ∧ sI.heap.get? b = some o := fun b o z => by
    by_cases hb : b = C
    · rw [g2 b (by simp [hb])] at z; cases z
    · exact ⟨hb, by rw [← g1 b (by simp [hb])]; exact z⟩
  have out : ∀ b, B.get? b = none → B2.get? b = none := fun b z => by
    by_cases hb : b = C
    · exact b2 b (by simp [hb])
    · rw [b1 b (by simp [hb])]; exact z
  obtain ⟨k1, k2, k3, oe, vs, T, oT, ts, t1, t2, t3, t4, t5, t6, t7, t8, t9⟩ := hh
  obtain ⟨oC, esC, epC, c1, c2, _⟩ := hn
  have ne : ∀ b o us, h1.get? b = some o → o.data = .fields us → b ≠ C := fun b o us z1 z2 z => by
    rw [z, c1] at z1; cases z1
    rw [c2] at z2; cases z2
  have ff : h2.FunFrames B2 (X.env :: X.outer) := by
    have z := I9.stack
    rw [hst] at z
    exact funFrames_none z fun L hL => out L (k3.mem hL).1
  have tr2 : HandSPX.HeldZ B2 (X.env :: X.outer) a0 (Zc cls d) X.env.locals h2 :=
    ⟨fun b o z => (sb.2 b (inB b o z).1).trans (k1 b o (inB b o z).2), out a0 k2, ff, oe, vs, T, oT, ts, (sb.2 a0 (ne a0 oe vs t1 t3)).trans t1, t2, t3, t4, out T t5, t6, (sb.2 T (ne T oT ts t7 t8)).trans t7, t8, t9⟩
  unfold PySem.passOn
  refine wpAny_bind (wpAny_field ((sb.2 a0 (ne a0 oe vs t1 t3)).trans t1) t3 t4 ?_)
  rw [if_neg (by simp)]
  rw [hce', hf]
  refine wpAny_bind (HandSPX.setFlight_onZ (s := { s2 with heap := h2 }) tr2 fun h3 hh3 up3 => wpAny_throw (tk _ _ ⟨a0, B2, _, pins, σ, HI, cls, d, rfl, I8, fun b o z hb => ?_, fun b o z hd => ?_, ?_, na, os, ag, w⟩))
  · obtain ⟨z1, z2⟩ := inG b o z
    rw [b1 b (decide_eq_true z1)]
    exact nb b o z2 hb
  · obtain ⟨z1, z2⟩ := inG b o z
    obtain ⟨sl, y⟩ := (up.trans up1) b o z2 hd
    exact up3 b { o with slots := sl } ((sb.2 b z1).trans y) hd
  · rw [hst]
    exact .inr (.inr hh3)
end L3
namespace L3
open PySem PySem.Spec PyProof.Rows L2
section
variable {X : Cx}
/-- [elt for tg in iter], elt may raise -/
def tLcX (wi : TI) (g : TG) (te : XK → TE) (vs : List Nat) (W : WX) : TE := fun σ H Q => tLc wi g tYes (te fun cls d H' => W cls d σ H') vs σ H Q
theorem pe_lcX {elt tg iter : Expr} {scope : Scope} {own : List (Str × Nat)} {pos : Pos} {wi : TI} {g : TG} {te : XK → TE} {W : WX} (hc : X.calm = true) (hN : X.N.Nodup) (hst : X.stack = X.env :: X.outer) (hf : X.env.frame = some X.env.locals) (tk : Takes X W) (hi : PI X tg iter wi) (ok : BlkOk X.N X.env.scope scope own)
    (hg : ∀ (s : Shared) (H : Hp) (C : Addr) (cl : List (Str × Addr)) (fp : List Addr), PG (X.blk s H scope (compEnvC scope cl C X.env) fp) tg g)
    (he : ∀ (E0 : XK) (s : Shared) (H : Hp) (C : Addr) (cl : List (Str × Addr)) (fp : List Addr) (pn : List (Addr × Obj)) (xe : Value → Shared → Prop), (∀ (pins : List (Addr × Obj)) (σ : L2.St) (H' : Hp) (s1 : Shared) (e : Value) (s2 : Shared), Inv ((X.blk s H scope (compEnvC scope cl C X.env) fp).tr pn xe) pins σ H' s1 → L2.CX X.prog X.w X.stack H' s1 E0 e s2 → xe e s2) →
      PE ((X.blk s H scope (compEnvC scope cl C X.env) fp).tr pn xe) elt (te E0)) (hs : ∀ x, foldedSetIterable iter X.env x = pure x := by intro _; rfl) :
    PE X (.ListComp elt [⟨tg, iter, [], 0⟩] scope pos) (tLcX wi g te (own.map (·.2)) W) := by
  refine ⟨fun pins s σ H Q I h => ?_⟩
  rw [eval_ListComp]
  have hfree : ∀ y ∈ scope.names, y.2 = .free → ∃ c, X.env.cells.lookup y.1 = some c := fun y hy e => (ok.free y hy e).elim (fun k => I.ok.has _ (.inl k)) fun k => I.ok.has _ (.inr k)
  refine compX rfl hs (closure_ok hfree) ok.kind (fun y hy e => by rw [ok.uniq y hy, e]) (thn (hi.run pins s σ H _ I h) fun xv s1 hx => thn hx fun itv s2 h2 => ?_)
  obtain ⟨it, fp, tn, J, H2, rfl, I2, T, st2, f2, q⟩ := h2
  refine wpAny_newObj_type (newEnv_comp ⟨rfl, ?_⟩) (by show 0 ≤ sizeLine; decide)
  obtain ⟨W1, ⟨m0, w0⟩, turn⟩ := q s2.heap.objs.size (I2.hok.fresh (Nat.le_refl _))
  -- the list that grows
  have hLst : (s2.heap.push { cls := .type "list", data := .seq ([] : List Value).toArray }).get? s2.heap.objs.size = some { cls := .type "list", data := .seq ([] : List Value).toArray } := Heap.get?_push_size _ rfl
  have I3 : Inv X pins σ (upd H2 s2.heap.objs.size (.lst [])) { s2 with heap := s2.heap.push { cls := .type "list", data := .seq ([] : List Value).toArray } } := I2.laid (t' := s2.toks) (fun b o e => Heap.get?_push_of_some _ e) (Nat.le_refl _) ⟨Nat.zero_le _, [], 0, .nil, hLst⟩
  generalize hD : s2.heap.objs.size = D at *
  generalize hs3 : ({ s2 with heap := s2.heap.push { cls := .type "list", data := .seq ([] : List Value).toArray } } : Shared) = s3 at *
  have e3 : s3.heap = s2.heap.push { cls := .type "list", data := .seq ([] : List Value).toArray } := by rw [← hs3]
  have kp3 : ∀ b o, s2.heap.get? b = some o → s3.heap.get? b = some o := fun b o e => by rw [e3]; exact Heap.get?_push_of_some _ e
  have f3 : ∀ b ∈ fp, FpOk X pins (upd H2 D (.lst [])) b ∧ b < s3.heap.objs.size := fun b hb => by
    obtain ⟨o, e, _⟩ := T.obj _ _ st2 b hb
    have hlt : b < s2.heap.objs.size := Heap.lt_size e
    exact ⟨⟨by rw [upd_ne (by rw [← hD]; exact Nat.ne_of_lt hlt)]; exact (f2 b hb).1, (f2 b hb).2⟩, Heap.lt_size (kp3 b o e)⟩
  generalize hH3 : upd H2 D (.lst []) = H3 at *
  have st3 : tn 0 s3.heap := T.keep _ _ _ st2 fun b _ o e => kp3 b o e
  have I4 := block_start I3 ok hN f3
  have pg := hg s3 H3 s3.heap.objs.size (cellsFrom (s3.heap.objs.size + 1) scope.names (cloFrom X.env.cells scope.names [])) fp
  have pe := fun E0 => he E0 s3 H3 s3.heap.objs.size (cellsFrom (s3.heap.objs.size + 1) scope.names (cloFrom X.env.cells scope.names [])) fp
  show codeAny _ _ (.compStart (.ListComp elt [⟨tg, iter, [], 0⟩] scope pos) 0 (.ref it) (.ref D) (compEnvC scope (cellsFrom (s3.heap.objs.size + 1) scope.names (cloFrom X.env.cells scope.names [])) s3.heap.objs.size X.env)) (endX (model X.prog X.w) X.A X.xe (EP X pins σ Q) X.env (.ref D) s3.heap.objs.size) { s3 with heap := pushCells (s3.heap.push { cls := .type "dict", data := .dict #[] }) scope.names }
  generalize hce : compEnvC scope (cellsFrom (s3.heap.objs.size + 1) scope.names (cloFrom X.env.cells scope.names [])) s3.heap.objs.size X.env = ce at I4 pg pe ⊢
  have cL : ce.locals = s3.heap.objs.size := by subst hce; rfl
  have cF : ce.frame = X.env.frame := by subst hce; rfl
  generalize hs4 : ({ s3 with heap := pushCells (s3.heap.push { cls := .type "dict", data := .dict #[] }) scope.names } : Shared) = s4 at I4 ⊢
  have st4 : tn 0 s4.heap := T.keep _ _ _ st3 fun b _ o e => by rw [← hs4]; exact pushCells_keeps _ _ _ _ (Heap.get?_push_of_some _ e)
  have nfp : ∀ b ∈ fp, H3 b = none := fun b hb => (f3 b hb).1.1
  have stays : ∀ {σ' : L2.St} {H' : Hp} {s' : Shared}, Inv (X.blk s3 H3 scope ce fp) [] σ' H' s' → (∀ b ∈ fp, H' b = none) → ∀ b ∈ fp, FpOk (X.blk s3 H3 scope ce fp) [] H' b := fun {σ' H' s'} I' hn b hb =>
    ⟨hn b hb, (I'.ok.exf b hb).1, I'.ok.exfs b hb, .inl hb, fun x c e => (I'.ok.exf b hb).2 x c e, fun p hp => nomatch (show p ∈ ([] : List (Addr × Obj)) from hp)⟩
  have loop : codeAny (model X.prog X.w) X.A (.compLoop (.ListComp elt [⟨tg, iter, [], 0⟩] scope pos) 0 (.ref it) (.ref D) ce) (endX (model X.prog X.w) X.A X.xe (EP X pins σ Q) X.env (.ref D) s3.heap.objs.size) s4 := by
    refine compLoop_any (fun n s' => ∃ i H', Inv (X.blk s3 H3 scope ce fp) [] (wipe σ (own.map (·.2))) H' s' ∧ tn i s'.heap ∧ (∀ b ∈ fp, H' b = none) ∧ W1 i n H') (fun n s5 hI => ?_) m0 ⟨0, H3, I4, st4, nfp, w0⟩
    obtain ⟨i, H5, I5, st5, n5, w5⟩ := hI
    rcases turn i n H5 w5 with ⟨stop, qq⟩ | ⟨go, Nx, hNx, step⟩
    · refine thnF (T.done (X.blk s3 H3 scope ce fp) rfl rfl rfl hc i [] s5 _ H5 (fun _ _ => False) I5 (stays I5 n5) st5 stop) fun r s6 ⟨hr, I6⟩ => ?_
      subst hr
      have nC : H5 s3.heap.objs.size = none := by
        have z : H5 ce.locals = none := I6.free
        rwa [cL] at z
      obtain ⟨m, hn, _⟩ := I6.loc
      have hn : s6.heap.Ns ce.locals m := hn
      rw [cL] at hn
      have I7 : Inv X pins σ H5 s6 := I3.call' (ch := fp) I6.os I6.base I6.hok I6.bare fun b hb => ⟨(f3 b hb).1.2.2.2.1, (f3 b hb).1.2.1, (f3 b hb).1.2.2.2.2.1, (f3 b hb).1.2.2.2.2.2⟩
      obtain ⟨q0, q1, q2, q3, q4, q5⟩ := I3.fpOk (H' := H5) (Nat.le_refl _) nC
      exact ⟨m, hn, fun h' sb => ⟨.ref D, H5, I7.turned (t' := s6.toks) (fun b o hb e => (sb.2 b hb).trans e) q0 q1 q3 q4 q5, rfl, qq⟩⟩
    · refine thnF (T.item (X.blk s3 H3 scope ce fp) rfl rfl rfl hc i [] s5 _ H5 (fun _ _ => False) I5 (stays I5 n5) st5 go) fun r s6 ⟨u, hr, h6⟩ => ?_
      subst hr
      refine thnF h6 fun _ s7 ⟨x, H7, I7, r7, y7, st7, n7⟩ => ?_
      have J7 := I7.pinned (stays I7 n7) (T.obj _ _ st7)
      refine thnF (pg.run _ s7 _ H7 x u _ J7 r7 (step x H7 y7)) fun _ s8 ⟨σ8, H8, I8, hw8, q8⟩ => ?_
      refine thnF ((pts_nil (X := X.blk s3 H3 scope ce fp)).run _ s8 σ8 H8 _ I8 q8) fun b s9 ⟨H9, I9, q9⟩ => ?_
      have fin : ∀ {s' : Shared} {H' : Hp}, Inv (X.blk s3 H3 scope ce fp) ([] ++ pinsAt fp s7.heap) σ8 H' s' → Nx H' → ∃ m, m < n ∧ ∃ i H', Inv (X.blk s3 H3 scope ce fp) [] (wipe σ (own.map (·.2))) H' s' ∧ tn i s'.heap ∧ (∀ b ∈ fp, H' b = none) ∧ W1 i m H' := fun {s' H'} I' nx => by
        obtain ⟨k, hk, w'⟩ := hNx H' nx
        have stand : ∀ b ∈ fp, ∀ o, s7.heap.get? b = some o → s'.heap.get? b = some o ∧ H' b = none := fun b hb o e =>
          let z := I'.pin (b, o) (List.mem_append_right _ (List.mem_append_right _ (mem_pinsAt hb e)))
          ⟨z.1, z.2.1⟩
        refine ⟨k, hk, i + 1, H', (I'.unpinned (pins := [])).weak (by rw [← hw8, wipe_length]) (fun j v e => ?_), T.keep _ _ _ st7 fun b hb o e => (stand b hb o e).1, fun b hb => ?_, w'⟩
        · rw [← hw8] at e
          exact (wipe_some e).1
        · obtain ⟨o, e, _⟩ := T.obj _ _ st7 b hb
          exact (stand b hb o e).2
      cases b with
      | false =>
        simp only [Bool.false_eq_true, if_false] at q9 ⊢
        exact fin I9 q9
      | true =>
        simp only [if_true] at q9 ⊢
        have pt := pe (fun cls d H' => W cls d σ H') ((X.blk s3 H3 scope ce fp).pn ++ ([] ++ pinsAt fp s7.heap)) (notedBy (model X.prog X.w) X.A ce fun x s => endX (model X.prog X.w) X.A X.xe (EP X pins σ Q) X.env (.ref D) s3.heap.objs.size (.error x) s)
          (fun _ _ _ _ _ _ I' c => blk_out hst hf tk I3 (fun b hb => (f3 b hb).1) cF cL rfl I' c)
        refine thn (pt.run [] s9 σ8 H9 _ (I9.toTry _) q9) fun z s10 ⟨yv, H10, I10, r10, acc, hD10, hz10, nx⟩ => ?_
        exact app_ok (X := X.blk s3 H3 scope ce fp) (I10.ofTry I9.ok) hD10 hz10 r10 fun s11 I11 => fin I11 nx
  exact codeAny_compStart_list loop (T.self X.A 0 _ _ _ st4 loop)
end
end L3

/-! L7e: [f(x) for x in xs] where f may raise; tuple of it. -/
namespace L3
open PySem PySem.Spec PyProof.Rows L2
/-- what a call lets out is taken -/
def Out (X : Cx) (E0 : XK) : Prop := ∀ (pins : List (Addr × Obj)) (σ : L2.St) (H : Hp) (s : Shared) (e : Value) (s' : Shared), Inv X pins σ H s → L2.CX X.prog X.w X.stack H s E0 e s' → X.xe e s'
def liftEC (K : PySem.W.Frag) {R : RS} (C : DC R) (E0 : XK) (w : WEX) : TE := fun σ H Q => ∃ es, Ok K C es σ H ∧ w (fun d => ∀ v H', Aft R H H' → Rep K (C.Av es) H' v d → Q v H') (fun cls => ∀ H', Aft R H H' → E0 cls none H') es
structure DEC (X : Cx) (R : RS) (e : Expr) (w : WEX) : Prop where
  pe : ∀ (C : DC R) (E0 : XK), Out X E0 → PE X e (liftEC X.K C E0 w)
  mono : MonoEX w
section
variable {X : Cx} {R : RS} {e : Expr} {w : WE} {wx : WEX} {pos p : Pos} {es' : List Expr} {wl : WA} {x : Str} {j k : Nat}
theorem dec_of (h : DE X R e w) : DEC X R e (fun P _ es => w es P) := ⟨fun C E0 _ => PE.imp (h.pe C) fun σ H Q q => q, fun P P' E E' es hP _ q => h.mono es _ _ hP q⟩
theorem dec_or {w1 w2 : WEX} (h1 : DEC X R e w1) (h2 : DEC X R e w2) : DEC X R e (wxOr w1 w2) :=
  ⟨fun C W tk => ⟨fun pins s σ H Q I ⟨es, o, q⟩ => q.elim (fun q => (h1.pe C W tk).run pins s σ H Q I ⟨es, o, q⟩) fun q => (h2.pe C W tk).run pins s σ H Q I ⟨es, o, q⟩⟩,
    fun P P' E E' es hP hE q => q.imp (h1.mono _ _ _ _ es hP hE) (h2.mono _ _ _ _ es hP hE)⟩
theorem dec_callX {S' : XSpec} {cls : Value} (c : ClX X.prog X.w X.K X.mg X.base k x S' cls) (hr : Room j X.A) (hg : Gl X x) (ha : DA X R (e :: es') wl) (hk : k ≤ j := by decide) (hdb : (x == ("__debug__" : Str)) = false := by decide)
    (he : starEach (e :: es') X.env = (false, eval e X.env) :: starEach es' X.env := by rfl) (hpl : (backTo pos (starEach es' X.env)).any (·.1) = false := by rfl) : DEC X R (.Call (.Name x p) (e :: es') [] pos) (wxCallX S' cls wl) := by
  obtain ⟨f, fd, ps, F, hm, hkp, hb⟩ := c.ex
  refine ⟨fun C E0 out => PE.imp (pe_callS (E := fun _ => E0) F (hr.mono hk) hg hm hkp hb (fun σ pins H s e s' I c => out pins σ H s e s' I c) (ha.pa C) hdb he hpl) fun σ H Q ⟨es, o, q⟩ => ⟨es, o, ha.mono es _ _ (fun ds ⟨a, e1, h1, h2⟩ vs H1 a1 r1 => ?_) q⟩, fun P P' E E' es hP hE q => ha.mono es _ _ (fun ds ⟨a, e1, h1, h2⟩ => ⟨a, e1, h1, hE _ h2⟩) q⟩
  exact ⟨C.Av es, ds, r1, fun a h => (o.aft a1).live h, a, e1, h1, fun H' e2 => h2 H' (a1.aft0 e2)⟩
end
/-! the comprehension -/
section
variable {X : Cx} {R : RS} {elt tg iter : Expr} {scope : Scope} {own : List (Str × Nat)} {pos : Pos} {wi : WA} {wx : WEX} {t : Tg}
def wLcX (wi : WA) (t : Tg) (wx : WEX) : WEX := fun P E es => wi es fun items => items.length ≤ 100000 ∧ ownFree es t.ix = true ∧ ∃ Iv : Nat → List Dv → Prop, Iv 0 [] ∧
  (∀ i d acc, items[i]? = some d → Iv i acc → t.w d (wipeE es t.ix) fun es2 => wx (fun z => Iv (i + 1) (acc ++ [z])) E es2) ∧ ∀ acc, Iv items.length acc → P (.lst acc)
def tAnyX (K : PySem.W.Frag) (R : RS) (w : WEX) (E0 : XK) : TE := fun σ H Q => ∃ C : DC R, liftEC K C E0 w σ H Q
theorem lcX_ok {K : PySem.W.Frag} {C : DC R} {σ : L2.St} {H : Hp} {Q : VK} {W : WX} (mi : MonoE wi) (me : MonoEX wx) (h : liftEX K C W (wLcX wi t wx) σ H Q) : tLcX (liftIB K C wi) (t.g K) (tAnyX K R wx) t.ix W σ H Q := by
  obtain ⟨es, o, h⟩ := h
  refine ⟨es, o, mi es _ _ (fun items ⟨hl, hf, Iv, h0, hs, hd⟩ J H1 G a1 g it => fun D hD => ?_) h⟩
  have o1 := o.aft a1
  have avD : ∀ b, (C.Av es b ∨ b = D) → C.Av es b ∨ H1 b = none := fun b z => z.imp id fun z => by rw [z]; exact hD
  have fD : ∀ b, R.F b → (C.Av es b ∨ b = D) := fun b f => .inl (C.avF es b f)
  have nFD : ¬ R.F D := fun f => o1.live (C.avF es D f) hD
  refine ⟨fun i m Hc => m = items.length - i ∧ i ≤ items.length ∧ Aft R H1 Hc ∧ ∃ xs acc, Hc D = some (.lst xs) ∧ RepL K (fun b => C.Av es b ∨ b = D) Hc xs acc ∧ acc.length ≤ i ∧ Iv i acc,
    ⟨items.length, by simp, Nat.zero_le _, o1.aft_new hD, [], [], upd_same, .nil, Nat.le_refl _, h0⟩, ?_⟩
  rintro i m Hc ⟨rfl, hi, ac, xs, acc, hx, rx, hlen, iv⟩
  have gc : G (fun b => C.Av es b ∨ b = D) Hc := it.ext _ H1 Hc fD ac.ext (it.more _ _ H1 avD g)
  by_cases hlt : i < items.length
  · refine .inr ⟨it.go _ _ i gc hlt, fun H' => i + 1 ≤ items.length ∧ Aft R H1 H' ∧ ∃ xs acc, H' D = some (.lst xs) ∧ RepL K (fun b => C.Av es b ∨ b = D) H' xs acc ∧ acc.length ≤ i + 1 ∧ Iv (i + 1) acc,
      fun H' ⟨h1, h2⟩ => ⟨items.length - (i + 1), by omega, rfl, h1, h2⟩, fun x H' y => ?_⟩
    obtain ⟨ey, d, hd', rd⟩ := it.yld _ _ i x H' gc hlt y
    have ac' : Aft R H1 H' := ac.aft0 ey
    have hx' : H' D = some (.lst xs) := ey.keep D _ hx (.inl fun z => z)
    have rx' := rx.ext fD (Ext.of0 (F := R.F) ey)
    obtain ⟨C', hav, hva, oS⟩ := (o1.wipe t.ix).sub hD (by rw [hx']; exact fun z => nomatch z) ac'
    have rdC : Rep K (C'.Av (wipeE es t.ix)) H' x d := rd.anti fun b z => (hav _ b z).imp (fun z => avWipe b z) id
    have hf1 := ownFree_spec hf
    refine Tg.ok oS rdC (t.mono (fun es2 ⟨q, how⟩ σ2 o2 hw => ?_) (Tg.owned (fun i hi => wipeE_get_own (hf1 i hi)) (hs i d acc hd' iv)))
    have avE : ∀ b, C.Av es b ∨ b = D → C'.Av es2 b := fun b z => hva es2 b (z.imp (fun z => z.imp id fun z => how b (owned_wipe z hf1)) id)
    refine ⟨by rw [hw]; exact wipe_same (wipe_length _ _) fun j hj => by rw [wipe_get, if_neg hj], ?_⟩
    simp only [tYes, if_true]
    refine ⟨C', es2, o2, me _ _ _ _ es2 (fun z k v H4 a4 r4 => ?_) (fun cls k H' a => k H' (a1.trans (ac'.trans a))) q⟩
    have hx4 : H4 D = some (.lst xs) := a4.ext.keep D _ hx' (.inl nFD)
    have rx4 := rx'.ext fD a4.ext
    have ac4 := ac'.trans a4
    have stay : ∀ (b : Addr) (u : HO), (R.F b ∨ Imm u) → H4 b = some u → upd H4 D (.lst (xs ++ [v])) b = some u := fun b u f e => by
      rw [upd_ne (show b ≠ D from fun z => f.elim (fun f => nFD (by rw [← z]; exact f)) fun i => by rw [z, hx4] at e; cases e; exact i)]
      exact e
    refine ⟨xs, hx4, by rw [rx4.length]; exact Nat.lt_of_le_of_lt (Nat.le_trans hlen hi) (Nat.lt_of_le_of_lt hl (by decide)), hlt, ⟨?_, ?_, ?_⟩, xs ++ [v], acc ++ [z], upd_same, ?_, by rw [List.length_append, List.length_singleton]; omega, k⟩
    · refine ⟨fun b u e q => ?_, fun b e => ?_⟩
      · rw [upd_ne (ne_of_none e hD)]; exact ac4.ext.keep b u e q
      · by_cases z : b = D
        · rw [z]; exact hD
        · rw [upd_ne z] at e; exact ac4.ext.live b e
    · exact R.zst H4 _ ac4.z stay
    · exact fun vs s => R.sst vs H4 _ (ac4.st vs s) stay
    · have r4' : Rep K (fun b => C.Av es b ∨ b = D) H4 v z := r4.anti avE
      have imm : ∀ u, H4 D = some u → ¬ Imm u := fun u e => by rw [hx4] at e; cases e; exact fun z => z
      exact (rx4.append (.cons r4' .nil)).mut (.inr rfl) imm
  · have e : i = items.length := by omega
    subst e
    refine .inl ⟨it.stop _ _ gc, ?_⟩
    have n : NewL K (C.Av es) H Hc D acc := ⟨a1.ext.live D hD, xs, hx, rx⟩
    exact hd acc iv (.ref D) Hc (a1.trans ac) (n.rep o)
theorem dex_lc (hc : X.calm = true) (hN : X.N.Nodup) (hi : DIB X R tg iter wi) (ok : BlkOk X.N X.env.scope scope own) (hix : own.map (·.2) = t.ix)
    (hg : ∀ (s : Shared) (H : Hp) (C : Addr) (cl : List (Str × Addr)) (fp : List Addr), PG (X.blk s H scope (compEnvC scope cl C X.env) fp) tg (t.g X.K))
    (he : ∀ (s : Shared) (H : Hp) (C : Addr) (cl : List (Str × Addr)) (fp : List Addr) (pn : List (Addr × Obj)) (xe : Value → Shared → Prop), DEC ((X.blk s H scope (compEnvC scope cl C X.env) fp).tr pn xe) R elt wx)
    (hs : ∀ x, foldedSetIterable iter X.env x = pure x := by intro _; rfl) (hst : X.stack = X.env :: X.outer := by rfl) (hf : X.env.frame = some X.env.locals := by rfl) : DEX X R (.ListComp elt [⟨tg, iter, [], 0⟩] scope pos) (wLcX wi t wx) := by
  refine ⟨fun C W tk => PE.imp (pe_lcX (own := own) (g := t.g X.K) (te := tAnyX X.K R wx) hc hN hst hf tk (hi.pi C) ok hg (fun E0 s H Ca cl fp pn xe out => ⟨fun pins s' σ H' Q I ⟨C', q⟩ => ((he s H Ca cl fp pn xe).pe C' E0 fun pins σ H s e s' I c => out pins σ H s e s' I c).run pins s' σ H' Q I q⟩) hs) fun σ H Q h => ?_,
    fun P P' E E' es hP hE q => hi.mono es _ _ (fun items ⟨hl, hf, Iv, h0, hs, hd⟩ => ⟨hl, hf, Iv, h0, fun i d acc e k => t.mono (fun es2 k => (he X.s_0 X.H_0 0 [] [] [] (fun _ _ => False)).mono _ _ _ _ es2 (fun _ z => z) hE k) (hs i d acc e k), fun acc k => hP _ (hd acc k)⟩) q⟩
  rw [hix]
  exact lcX_ok hi.mono (he X.s_0 X.H_0 0 [] [] [] (fun _ _ => False)).mono h
/-- tuple(what may raise) -/
def wxTup (w : WEX) : WEX := fun P E es => w (fun d => ∃ xs, seqD d = some xs ∧ P (.tup xs)) E es
theorem dex_tuple {e : Expr} {p : Pos} {w : WEX} (hm : X.mg "tuple" = none) (h : DEX X R e w) (hg : Gl X "tuple" := by rfl) (he : starEach [e] X.env = (false, eval e X.env) :: starEach [] X.env := by rfl) (hpl : (backTo pos (starEach [] X.env)).any (·.1) = false := by rfl) :
    DEX X R (.Call (.Name "tuple" p) [e] [] pos) (wxTup w) := by
  obtain ⟨r, hr, imp⟩ := (sem_tuple (X := X) (R := R)).ex
  refine ⟨fun C W tk => PE.imp (pe_callTy hr hg hm boot_tuple (pa_cons (h.pe C W tk) pa_nil he) (by decide) (by decide) he hpl) fun σ H Q ⟨es, o, q⟩ => ⟨es, o, h.mono _ _ _ _ es (fun d ⟨xs, h1, k⟩ v H1 a1 r1 => ?_) (fun c k => k) q⟩,
    fun P P' E E' es hP hE q => h.mono _ _ _ _ es (fun d ⟨xs, h1, k⟩ => ⟨xs, h1, hP _ k⟩) hE q⟩
  exact imp C es σ H1 [v] [d] Q (o.aft a1) (.cons (.inl r1) .nil) ⟨d, xs, rfl, h1, fun v' H' a' rv => k v' H' (a1.trans a') rv⟩
end
end L3

/-! an exception made, as a value -/
namespace L3
open PySem PySem.Spec PyProof.Rows L2
section
variable {X : Cx} {R : RS} {x m : Str} {jj : Nat} {p p2 pos : Pos}
theorem pe_mkX {e : Expr} {cls : Value} (h : PMk X e (fun _ H Q => Q cls none H)) : PE X e (fun _ H Q => ∀ a, H a = none → Q (.ref a) (upd H a (XcO cls a))) := by
  refine ⟨fun pins s σ H Q I q => thn (h pins s σ H (fun c d H' => c = cls ∧ d = none ∧ H' = H) I ⟨rfl, rfl, rfl⟩) fun u s1 hu => ?_⟩
  obtain ⟨a, oe, vs, sI, H', c, d, rfl, J, k, hne, ha, hz, hd, _, na, os, ag, _, e1, e2, e3⟩ := hu
  subst e1 e2 e3
  have T := J.laidN (h' := s1.heap) (t' := s1.toks) (o := XcO c a) k hne na (xcO_ok ha hz hd)
  exact ⟨.ref a, upd H' a (XcO c a), ⟨T.ok, os.trans T.os, ag, T.base, T.loc, T.cell, T.free, T.freeC, T.pin, T.hok, T.len⟩, rfl, q a na⟩
theorem de_mkX (h : Ec X.K X.mg x) (hg : Gl X x := by rfl) (hd : (x == ("__debug__" : Str)) = false := by decide) : DE X R (.Call (.Name x p) [.Constant (.str m) jj p2] [] pos) (wC (.exc (clsV X.mg x))) := by
  obtain ⟨C, e, q, kC, s1, s2, _⟩ := h.ex
  refine ⟨fun Cc => PE.imp (pe_mkX (pmk_own PySem.F.excBase_ValueError q e kC (raises_own s1 s2) hg hd)) fun σ H Q ⟨es, o, z⟩ => fun a na => ?_, fun es P P' f q => f _ q⟩
  have z' : ∀ v H', Aft R H H' → Rep X.K (Cc.Av es) H' v (.exc (clsV X.mg x)) → Q v H' := z
  rw [clsV_of e] at z'
  exact z' _ _ (o.aft_new na) (.exc upd_same)
end
end L3

/-! L7f: texts that may write a row (mathematics). -/
namespace Lw
open PySem PySem.Spec PyProof.Rows L2 L3 PySem.NumText TL

/-! ### figures -/
theorem numL_of : ∀ (k : Nat) (ds : List Nat), ds.length = k → (∀ c ∈ ds, 48 ≤ c ∧ c ≤ 57) → ds ≠ [] → ds.head? ≠ some 48 → ∃ m, 0 < m ∧ numL m = ds
  | 0, ds, hk, _, h, _ => absurd (List.length_eq_zero_iff.mp hk) h
  | k + 1, ds, hk, hd, hn, h0 => by
    obtain ⟨es, c, rfl⟩ : ∃ es c, ds = es ++ [c] := ⟨ds.dropLast, ds.getLast hn, (List.dropLast_concat_getLast _).symm⟩
    have hc := hd c (List.mem_append_right _ (List.mem_singleton.mpr rfl))
    cases es with
    | nil =>
      have : c ≠ 48 := fun z => h0 (by rw [z]; rfl)
      exact ⟨c - 48, by omega, by rw [numL_lt (by omega), show 48 + (c - 48) = c by omega]; rfl⟩
    | cons e es =>
      have hk' : (e :: es).length = k := by rw [List.length_append] at hk; exact Nat.succ.inj hk
      obtain ⟨m, hm, e1⟩ := numL_of k (e :: es) hk' (fun x hx => hd x (List.mem_append_left _ hx)) (fun z => nomatch z) (fun z => h0 z)
      refine ⟨10 * m + (c - 48), by omega, ?_⟩
      rw [numL_step (by omega), show (10 * m + (c - 48)) / 10 = m by omega, show (10 * m + (c - 48)) % 10 = c - 48 by omega, e1, show 48 + (c - 48) = c by omega]
def figL (w : Str) : List Nat := if (tl w).head? = some 45 then (tl w).tail else tl w
/-- a word that writes no number -/
def badW (w : Str) : Prop := figL w = [] ∨ (∃ c ∈ figL w, ¬ (48 ≤ c ∧ c ≤ 57)) ∨ ((figL w).head? = some 48 ∧ w ≠ Str.ofString "0")
theorem good_strI {w : Str} (h : ¬ badW w) : ∃ n : Int, w = strI n := by
  unfold badW at h
  have h1 : figL w ≠ [] := fun z => h (.inl z)
  have h2 : ∀ c ∈ figL w, 48 ≤ c ∧ c ≤ 57 := fun c hc => Classical.byContradiction fun z => h (.inr (.inl ⟨c, hc, z⟩))
  by_cases h0 : (figL w).head? = some 48
  · have h3 : w = Str.ofString "0" := Classical.byContradiction fun z => h (.inr (.inr ⟨h0, z⟩))
    exact ⟨0, by rw [h3]; decide +kernel⟩
  · obtain ⟨m, hm, e⟩ := numL_of _ (figL w) rfl h2 h1 h0
    by_cases hd : (tl w).head? = some 45
    · refine ⟨-(m : Int), ext_tl ?_⟩
      rw [tl_strI]
      unfold sgL
      rw [if_neg (by omega), show (- -(m : Int)).toNat = m by omega, e]
      unfold figL
      rw [if_pos hd]
      cases hw : tl w with
      | nil => rw [hw] at hd; cases hd
      | cons c cs => rw [hw] at hd; cases hd; rfl
    · refine ⟨(m : Int), ext_tl ?_⟩
      rw [tl_strI]
      unfold sgL
      rw [if_pos (by omega), Int.toNat_natCast, e]
      unfold figL
      rw [if_neg hd]
theorem strI_good (n : Int) : ¬ badW (strI n) := by
  have e := tl_strI n
  unfold sgL at e
  have key : ∀ m : Nat, figL (strI n) = numL m → (m = 0 → n = 0) → ¬ badW (strI n) := fun m ef h0 hb => by
    obtain ⟨c, cs, e2, h2⟩ := numL_head m
    rcases hb with z | ⟨d, hd, z⟩ | ⟨z, z2⟩
    · rw [ef] at z; exact numL_ne m z
    · rw [ef] at hd; exact z (numL_digits m d hd)
    · rw [ef, e2] at z
      have hc : c = 48 := Option.some.inj z
      have hm : m = 0 := by
        rcases Nat.eq_zero_or_pos m with g | g
        · exact g
        · exact absurd hc (h2 g)
      exact z2 (by rw [h0 hm]; decide +kernel)
  split at e
  · refine key n.toNat ?_ fun _ => by omega
    obtain ⟨c, cs, e2, _⟩ := numL_head n.toNat
    have hc := numL_digits n.toNat c (by rw [e2]; exact List.mem_cons_self)
    unfold figL
    rw [e, if_neg (by rw [e2]; intro z; have := Option.some.inj z; omega)]
  · refine key (-n).toNat ?_ fun _ => by omega
    unfold figL
    rw [e]
    rfl
/-! ### words -/
theorem spl_words : ∀ (L acc : List Nat), 32 ∉ acc → (∀ p ∈ spl [32] 0 acc L, 32 ∉ p) ∧ joinL [32] (spl [32] 0 acc L) = acc ++ L ∧ spl [32] 0 acc L ≠ []
  | [], acc, h => by
    rw [spl_nil]
    exact ⟨fun p hp => by rw [List.mem_singleton.mp hp]; exact h, by show acc = acc ++ []; rw [List.append_nil], fun z => nomatch z⟩
  | c :: L, acc, h => by
    by_cases hc : c = 32
    · subst hc
      have hh : TL.pre [32] (32 :: L) = true := by simp [TL.pre]
      rw [spl_hit hh]
      obtain ⟨h1, h2, h3⟩ := spl_words L [] (fun z => nomatch z)
      refine ⟨fun p hp => (List.mem_cons.mp hp).elim (fun z => by rw [z]; exact h) (h1 p), ?_, fun z => nomatch z⟩
      cases hs : spl [32] 0 [] L with
      | nil => exact absurd hs h3
      | cons q r =>
        rw [hs] at h2
        show acc ++ ([32] ++ joinL [32] (q :: r)) = _
        rw [h2]
        rfl
    · have hh : TL.pre [32] (c :: L) = false := pre_of_head [] L hc
      rw [spl_miss hh]
      obtain ⟨h1, h2, h3⟩ := spl_words L (acc ++ [c]) (fun z => (List.mem_append.mp z).elim h fun z => hc (List.mem_singleton.mp z).symm)
      exact ⟨h1, by rw [h2, List.append_assoc]; rfl, h3⟩
abbrev wordsT (t : Str) : List Str := Txt.split t (Str.ofString " ")
theorem words_tl' (t : Str) : (wordsT t).map tl = spl [32] 0 [] (tl t) := split_spl t (Str.ofString " ") (by decide +kernel) (kind_ok (by decide +kernel))
theorem words_ne (t : Str) : wordsT t ≠ [] := fun z => (spl_words (tl t) [] (fun z => nomatch z)).2.2 (by rw [← words_tl' t, z]; rfl)
theorem words_join (t : Str) : Txt.join (Str.ofString " ") (wordsT t) = t := by
  refine ext_tl ?_
  rw [join_eq, tl_join, words_tl', show tl (Str.ofString " ") = [32] by decide +kernel, (spl_words (tl t) [] (fun z => nomatch z)).2.1]
  rfl
theorem words_free {t w : Str} (h : w ∈ wordsT t) : 32 ∉ tl w := (spl_words (tl t) [] (fun z => nomatch z)).1 _ (by rw [← words_tl' t]; exact List.mem_map.mpr ⟨w, h, rfl⟩)
theorem words_of_row {t : Str} (h : ∀ w ∈ wordsT t, ¬ badW w) : ∃ r : List Int, r ≠ [] ∧ wordsT t = r.map strI ∧ t = shT r := by
  have key : ∀ ws : List Str, (∀ w ∈ ws, ¬ badW w) → ∃ r : List Int, ws = r.map strI := fun ws => by
    induction ws with
    | nil => exact fun _ => ⟨[], rfl⟩
    | cons w ws ih =>
      intro hw
      obtain ⟨n, e⟩ := good_strI (hw w List.mem_cons_self)
      obtain ⟨r, e2⟩ := ih fun v hv => hw v (List.mem_cons_of_mem _ hv)
      exact ⟨n :: r, by rw [e, e2]; rfl⟩
  obtain ⟨r, e⟩ := key (wordsT t) h
  refine ⟨r, fun z => words_ne t (by rw [e, z]; rfl), e, ?_⟩
  have := words_join t
  rw [e] at this
  exact this.symm
/-! ### how long words are -/
/-- no stretch without a blank is longer -/
def BF (k : Nat) (l : List Nat) : Prop := ∀ s, s <:+: l → 32 ∉ s → s.length ≤ k
theorem infix_app {s a b : List Nat} (h : s <:+: a ++ b) : ∃ s1 s2, s = s1 ++ s2 ∧ s1 <:+: a ∧ s2 <:+: b := by
  obtain ⟨p, q, e⟩ := h
  rcases List.append_eq_append_iff.mp e with ⟨x, h1, h2⟩ | ⟨x, h1, h2⟩
  · exact ⟨s, [], (List.append_nil s).symm, ⟨p, x, h1.symm⟩, List.nil_infix⟩
  · rcases List.append_eq_append_iff.mp h1 with ⟨y, h3, h4⟩ | ⟨y, h3, h4⟩
    · exact ⟨y, x, h4, ⟨p, [], by rw [List.append_nil]; exact h3.symm⟩, ⟨[], q, by rw [List.nil_append]; exact h2.symm⟩⟩
    · exact ⟨[], s, rfl, List.nil_infix, ⟨y, q, by rw [h2, h4]⟩⟩
theorem BF.app {a b : List Nat} {i j : Nat} (h1 : BF i a) (h2 : BF j b) : BF (i + j) (a ++ b) := fun s hs hf => by
  obtain ⟨s1, s2, e, k1, k2⟩ := infix_app hs
  subst e
  have := h1 s1 k1 fun z => hf (List.mem_append_left _ z)
  have := h2 s2 k2 fun z => hf (List.mem_append_right _ z)
  rw [List.length_append]
  omega
theorem BF.mono {l : List Nat} {i j : Nat} (h : BF i l) (hij : i ≤ j) : BF j l := fun s hs hf => Nat.le_trans (h s hs hf) hij
theorem BF.sub {a b : List Nat} {i : Nat} (h : BF i b) (hs : a <:+: b) : BF i a := fun s h1 hf => h s (h1.trans hs) hf
theorem BF.len (l : List Nat) : BF l.length l := fun s hs _ => hs.length_le
/-- what a blank stands amid -/
theorem infix_blank {s a b : List Nat} (h : s <:+: a ++ 32 :: b) (hf : 32 ∉ s) : s <:+: a ∨ s <:+: b := by
  obtain ⟨p, q, e⟩ := h
  rcases List.append_eq_append_iff.mp e with ⟨x, h1, h2⟩ | ⟨x, h1, h2⟩
  · exact .inl ⟨p, x, h1.symm⟩
  · cases x with
    | nil => exact .inl ⟨p, [], by rw [List.append_nil, h1, List.append_nil]⟩
    | cons c x =>
      rw [List.cons_append, List.cons.injEq] at h2
      obtain ⟨rfl, h2⟩ := h2
      rcases List.append_eq_append_iff.mp h1 with ⟨y, h3, h4⟩ | ⟨y, h3, h4⟩
      · exact absurd (by rw [h4]; simp) hf
      · cases y with
        | nil => exact absurd (by rw [List.nil_append] at h4; rw [← h4]; simp) hf
        | cons d y =>
          rw [List.cons_append, List.cons.injEq] at h4
          exact .inr ⟨y, q, by rw [h2, h4.2]⟩
theorem BF.join {k : Nat} : ∀ {ps : List (List Nat)}, (∀ p ∈ ps, p.length ≤ k) → BF k (joinL [32] ps)
  | [], _ => fun s hs _ => by have := hs.length_le; exact Nat.le_trans this (Nat.zero_le _)
  | [p], h => fun s hs _ => Nat.le_trans hs.length_le (h p List.mem_cons_self)
  | p :: q :: r, h => fun s hs hf => by
    rcases infix_blank (a := p) (b := joinL [32] (q :: r)) hs hf with z | z
    · exact Nat.le_trans z.length_le (h p List.mem_cons_self)
    · exact BF.join (ps := q :: r) (fun x hx => h x (List.mem_cons_of_mem _ hx)) s z hf
theorem mem_joinL : ∀ {ps : List (List Nat)} {p : List Nat}, p ∈ ps → p <:+: joinL [32] ps
  | [q], p, h => by rw [List.mem_singleton.mp h]; exact List.infix_refl _
  | q :: r :: m, p, h => by
    rcases List.mem_cons.mp h with z | z
    · rw [z]; exact (List.prefix_append q _).isInfix
    · have h1 := mem_joinL (ps := r :: m) z
      exact h1.trans ⟨q ++ [32], [], by rw [List.append_nil, List.append_assoc]; rfl⟩
theorem words_tlj (t : Str) : joinL [32] ((wordsT t).map tl) = tl t := by
  rw [words_tl', (spl_words (tl t) [] (fun z => nomatch z)).2.1]
  rfl
theorem bf_words {t : Str} {k : Nat} (h : BF k (tl t)) {w : Str} (hw : w ∈ wordsT t) : w.length ≤ k := by
  rw [len_tl]
  exact h (tl w) (by rw [← words_tlj t]; exact mem_joinL (List.mem_map.mpr ⟨w, hw, rfl⟩)) (words_free hw)
theorem words_bf {t : Str} {k : Nat} (h : ∀ w ∈ wordsT t, w.length ≤ k) : BF k (tl t) := by
  rw [← words_tlj t]
  refine BF.join fun p hp => ?_
  obtain ⟨w, hw, rfl⟩ := List.mem_map.mp hp
  rw [← len_tl]
  exact h w hw
end Lw

namespace Lw
open PySem PySem.Spec PyProof.Rows L2 L3 PySem.NumText TL
theorem dig_mem (c : Nat) : c ∈ (Str.ofString "0123456789").cps.toList ↔ 48 ≤ c ∧ c ≤ 57 := by
  have e9 : (Str.ofString "0123456789").cps.toList = [48, 49, 50, 51, 52, 53, 54, 55, 56, 57] := by decide +kernel
  rw [e9]
  simp
  omega
theorem str_one {c d : Nat} (h : (⟨#[c]⟩ : Str) = ⟨#[d]⟩) : c = d := by
  have z := congrArg (fun x : Str => x.cps.toList) h
  exact (List.cons.inj (show [c] = [d] from z)).1
/-- signs that may stand in a text -/
def okT (t : Str) : Prop := ∀ c ∈ tl t, c < 1114112
theorem figL_sub {w : Str} {c : Nat} (h : c ∈ figL w) : c ∈ tl w := by
  unfold figL at h
  split at h
  · exact List.mem_of_mem_tail h
  · exact h
theorem strOk_one {c : Nat} (h : c < 1114112) : PyData.strOk ⟨#[c]⟩ = true := by
  simp [PyData.strOk, h]
theorem strOk_of {t : Str} (h : okT t) : PyData.strOk t = true := by
  unfold PyData.strOk
  rw [Array.all_eq_true_iff_forall_mem]
  exact fun c hc => decide_eq_true (h c (Array.mem_toList_iff.mpr hc))
/-- what follows once the figures stand -/
theorem fig_tail {w fig : Str} {N G : Prop} {es : Es} (hok : okT w) (hfr : ownFree es [2] = true) (ef : tl fig = figL w) (hfl : fig.length ≤ 640) (hN : badW w → N) (hG : ¬ badW w → G) :
    eqC (Dv.str fig) (Dv.str (Str.ofString "")) ∧ ∀ (k : Bool), (k = true ↔ fig = Str.ofString "") → if k = true then N else ∃ ds, itemsOf (Dv.str fig) = some ds ∧ ds.length ≤ 100000 ∧ ownFree es [2] = true ∧
      ∃ Iv : Nat → List Dv → Prop, Iv 0 [] ∧ (∀ (i : Nat) (d : Dv) (acc : List Dv), ds[i]? = some d → Iv i acc → ∃ c, d = Dv.str { cps := #[c] } ∧ if ¬c ∈ (Str.ofString "0123456789").cps.toList then Iv (i + 1) (acc ++ [d]) else Iv (i + 1) acc) ∧
      ∀ (acc : List Dv), Iv ds.length acc → eqC (Dv.lst acc) (Dv.lst []) ∧ ∀ (k : Bool), (k = true ↔ acc = []) → if k = false then N else ∃ z, ixD (Dv.str fig) (Dv.int 0) = some z ∧ fig.length ≤ 100000 ∧ eqC z (Dv.str (Str.ofString "0")) ∧
      ∀ (k : Bool), (k = true ↔ z = Dv.str (Str.ofString "0")) → if k = true then eqC (Dv.str w) (Dv.str (Str.ofString "0")) ∧ ∀ (k : Bool), (k = true ↔ w = Str.ofString "0") → if k = false then N else G else G := by
  have hlen : fig.length = (figL w).length := by rw [len_tl, ef]
  refine ⟨.inl rfl, eq_ifP (fun e => hN (.inl ?_)) fun e => ?_⟩
  · rw [← ef, e]; decide +kernel
  obtain ⟨c, cs, ec⟩ : ∃ c cs, figL w = c :: cs := by
    cases hw : figL w with
    | nil => exact absurd (ext_tl (by rw [ef, hw]; decide +kernel)) e
    | cons c cs => exact ⟨c, cs, rfl⟩
  refine ⟨_, rfl, by rw [List.length_map]; show (tl fig).length ≤ _; rw [ef, ← hlen]; omega, hfr, iv_fm (figL w) (fun c => .str ⟨#[c]⟩) (fun c => decide (¬ (48 ≤ c ∧ c ≤ 57))) (fun c => .str ⟨#[c]⟩) (by rw [← ef]) (by rw [List.length_map]; show (tl fig).length = _; rw [ef]) (fun i x acc J hx k1 k2 => ?_) ?_⟩
  · refine ⟨x, rfl, ite2 (fun h => k1 (decide_eq_true fun z => h ((dig_mem x).mpr z))) fun h => k2 (decide_eq_false fun z => h fun y => z ((dig_mem x).mp y))⟩
  · have hpl : pl 1 (.lst (((figL w).filter fun c => decide (¬ (48 ≤ c ∧ c ≤ 57))).map fun c => Dv.str ⟨#[c]⟩)) = true := by
      refine List.all_eq_true.mpr fun d hd => ?_
      obtain ⟨c, hc, rfl⟩ := List.mem_map.mp hd
      exact strOk_one (hok c (figL_sub (List.mem_filter.mp hc).1))
    refine ⟨.inr ⟨1, by decide, hpl, rfl⟩, fun k hk => ?_⟩
    cases k with
    | false =>
      rw [if_pos rfl]
      refine hN (.inr (.inl ?_))
      have hne : (figL w).filter (fun c => decide (¬ (48 ≤ c ∧ c ≤ 57))) ≠ [] := fun z => Bool.false_ne_true (hk.mpr (by rw [z]; rfl))
      obtain ⟨x, hx⟩ := List.exists_mem_of_ne_nil _ hne
      obtain ⟨h1, h2⟩ := List.mem_filter.mp hx
      exact ⟨x, h1, of_decide_eq_true h2⟩
    | true =>
      rw [if_neg (by decide)]
      have hall : ∀ x ∈ figL w, 48 ≤ x ∧ x ≤ 57 := fun x hx => Classical.byContradiction fun z => by
        have h0 := List.map_eq_nil_iff.mp (hk.mp rfl)
        exact List.filter_eq_nil_iff.mp h0 x hx (decide_eq_true z)
      have hnb : ∀ hb : badW w, c = 48 ∧ w ≠ Str.ofString "0" := fun hb => by
        rcases hb with z | ⟨d, hd, z⟩ | ⟨z, z2⟩
        · rw [ec] at z; cases z
        · exact absurd (hall d hd) z
        · rw [ec] at z; exact ⟨Option.some.inj z, z2⟩
      refine ⟨.str ⟨#[c]⟩, ?_, by omega, .inl rfl, eq_ifP (fun z => ?_) fun z => hG fun hb => z ?_⟩
      · show (L2.atI fig.cps.toList ((0 : Nat) : Int)).map _ = _
        rw [atI_nat (j := 0) (v := c) (by rw [show fig.cps.toList = tl fig from rfl, ef, ec]; rfl)]
        rfl
      · have hc : c = 48 := str_one (Dv.str.inj z)
        refine ⟨.inl rfl, fun k hk => ?_⟩
        cases k with
        | false =>
          rw [if_pos rfl]
          exact hN (.inr (.inr ⟨by rw [ec, hc]; rfl, fun z => Bool.false_ne_true (hk.mpr z)⟩))
        | true =>
          rw [if_neg (by decide)]
          exact hG fun hb => (hnb hb).2 (hk.mp rfl)
      · rw [(hnb hb).1]; rfl
/-- the two ways to the figures -/
theorem fig_ways {w : Str} (hl : w.length ≤ 640) {A B : Prop} (h1 : tl (cutS w (some 1) none) = figL w → (cutS w (some 1) none).length ≤ 640 → A) (h2 : tl w = figL w → B) :
    ∀ (k : Bool), (k = true ↔ cutS w none (some 1) = Str.ofString "-") → if k = true then A else B := by
  cases hw : tl w with
  | nil =>
    have e : w = Str.ofString "" := ext_tl (by rw [hw]; decide +kernel)
    refine ok_ifF (fun z => ?_) (h2 ?_)
    · rw [e] at z
      exact absurd z (by decide +kernel)
    · unfold figL
      rw [hw]
      rfl
  | cons c cs =>
    rw [cut_to1 hw]
    by_cases hc : c = 45
    · subst hc
      refine ok_ifT (by decide +kernel) (h1 ?_ ?_)
      · rw [cut_from1 hw]; unfold figL; rw [hw]; rfl
      · have e1 : w.length = cs.length + 1 := by rw [len_tl, hw]; rfl
        rw [len_tl, cut_from1 hw]
        omega
    · refine ok_ifF (fun z => hc ?_) (h2 ?_)
      · exact str_one (d := 45) (z.trans (by decide +kernel))
      · unfold figL
        rw [hw]
        exact (if_neg (show ¬ (c :: cs).head? = some 45 from fun z => hc (Option.some.inj z))).symm
end Lw

namespace Lw
open PySem PySem.Spec PyProof.Rows L2 L3 PySem.NumText TL
theorem spl_len : ∀ (L acc : List Nat), (spl [32] 0 acc L).length ≤ L.length + 1
  | [], acc => by rw [spl_nil]; exact Nat.le_refl _
  | c :: L, acc => by
    by_cases hc : c = 32
    · subst hc
      have e : spl [32] 0 acc (32 :: L) = acc :: spl [32] 0 [] L := spl_hit (by simp [TL.pre])
      rw [e, List.length_cons, List.length_cons]
      have := spl_len L []
      omega
    · rw [spl_miss (pre_of_head [] L hc), List.length_cons]
      have := spl_len L (acc ++ [c])
      omega
theorem words_len (t : Str) : (wordsT t).length ≤ t.length + 1 := by
  have := spl_len (tl t) []
  rw [← words_tl', List.length_map, ← len_tl] at this
  exact this
theorem words_ok {t w : Str} (h : okT t) (hw : w ∈ wordsT t) : okT w := fun c hc => h c (by
  have h1 : tl w <:+: tl t := by rw [← words_tlj t]; exact mem_joinL (List.mem_map.mpr ⟨w, hw, rfl⟩)
  exact h1.subset hc)
/-- a text as it is asked -/
structure tOk (t : Str) : Prop where
  wd : ∀ w ∈ wordsT t, w.length ≤ 640
  sg : okT t
  ln : t.length ≤ 50000
def optI : Option Int → Dv
  | none => .non
  | some n => .int n
def dueT : Option (List Int) → Dv
  | none => .tup [.non, .str "text"]
  | some r => .tup [rowD r, .str ""]
end Lw

namespace Lw
open PySem PySem.Spec PyProof.Rows L2 L3 PySem.NumText TL
theorem numL_lt_pow : ∀ (k m : Nat), (numL m).length ≤ k → m < 10 ^ k
  | 0, m, h => absurd (List.length_eq_zero_iff.mp (Nat.le_zero.mp h)) (numL_ne m)
  | k + 1, m, h => by
    by_cases h1 : m < 10
    · have : 1 ≤ 10 ^ k := Nat.one_le_pow _ _ (by decide)
      rw [Nat.pow_succ]
      omega
    · rw [numL_step (by omega), List.length_append] at h
      have := numL_lt_pow k (m / 10) (Nat.le_of_succ_le_succ h)
      rw [Nat.pow_succ]
      omega
/-- how many figures -/
def dlW (w : Str) : Int := (w.length : Int) - if cutS w none (some 1) = Str.ofString "-" then 1 else 0
theorem dl_small {n : Int} (h : dlW (strI n) ≤ 12) : -(10 : Int) ^ 14 < n ∧ n < (10 : Int) ^ 14 := by
  have e := tl_strI n
  have e14 : (10 : Int) ^ 14 = 100000000000000 := by decide
  unfold dlW at h
  unfold sgL at e
  split at e
  · obtain ⟨c, cs, e2, _⟩ := numL_head n.toNat
    have hc := numL_digits n.toNat c (by rw [e2]; exact List.mem_cons_self)
    rw [cut_to1 (e.trans e2), if_neg (fun z => by have := str_one (d := 45) (z.trans (by decide +kernel)); omega), len_tl, e] at h
    have := numL_lt_pow 12 n.toNat (by omega)
    rw [e14]
    have e12 : 10 ^ 12 = 1000000000000 := by decide
    omega
  · rw [cut_to1 e, if_pos (by decide +kernel), len_tl, e, List.length_cons] at h
    have := numL_lt_pow 12 (-n).toNat (by omega)
    rw [e14]
    have e12 : 10 ^ 12 = 1000000000000 := by decide
    omega
end Lw

namespace Lw
open PySem PySem.Spec PyProof.Rows L2 L3 PySem.NumText TL
theorem cutS_to (t : Str) (j : Nat) : tl (cutS t none (some (j : Int))) = (tl t).take j := by
  have h : t.length = (tl t).length := len_tl t
  unfold cutS
  rw [HT.sIx_none, show HT.sIx t.length t.length (some (j : Int)) = min j t.length from HT.sIx_nat t.length t.length j]
  show List.take (min j t.length - 0) (List.drop 0 (tl t)) = _
  rw [List.drop_zero, Nat.sub_zero, h]
  by_cases z : j ≤ (tl t).length
  · rw [Nat.min_eq_left z]
  · rw [Nat.min_eq_right (by omega), List.take_length, List.take_of_length_le (by omega)]
theorem cutS_from (t : Str) (j : Nat) : tl (cutS t (some (j : Int)) none) = (tl t).drop j := by
  have h : t.length = (tl t).length := len_tl t
  unfold cutS
  rw [HT.sIx_none, show HT.sIx t.length 0 (some (j : Int)) = min j t.length from HT.sIx_nat t.length 0 j]
  show List.take (t.length - min j t.length) (List.drop (min j t.length) (tl t)) = _
  rw [h]
  by_cases z : j ≤ (tl t).length
  · rw [Nat.min_eq_left z, List.take_of_length_le (by rw [List.length_drop]; exact Nat.le_refl _)]
  · rw [Nat.min_eq_right (by omega), List.drop_length, List.drop_of_length_le (by omega), List.take_nil]
theorem okT_app {a b : Str} (h1 : okT a) (h2 : okT b) : okT (a ++ b) := fun c hc => by
  rw [tl_append] at hc
  exact (List.mem_append.mp hc).elim (h1 c) (h2 c)
theorem okT_to {t : Str} (h : okT t) (j : Nat) : okT (cutS t none (some (j : Int))) := fun c hc => h c (by rw [cutS_to] at hc; exact List.mem_of_mem_take hc)
theorem okT_from {t : Str} (h : okT t) (j : Nat) : okT (cutS t (some (j : Int)) none) := fun c hc => h c (by rw [cutS_from] at hc; exact List.mem_of_mem_drop hc)
theorem bf_to {t : Str} {k : Nat} (h : BF k (tl t)) (j : Nat) : BF k (tl (cutS t none (some (j : Int)))) := h.sub (by rw [cutS_to]; exact (List.take_prefix j _).isInfix)
theorem bf_from {t : Str} {k : Nat} (h : BF k (tl t)) (j : Nat) : BF k (tl (cutS t (some (j : Int)) none)) := h.sub (by rw [cutS_from]; exact (List.drop_suffix j _).isInfix)
theorem okT_one {c : Nat} (h : c < 128) : okT ⟨#[c]⟩ := fun d hd => by
  have : d = c := List.mem_singleton.mp (show d ∈ [c] from hd)
  omega
theorem bf_one (c : Nat) : BF 1 (tl ⟨#[c]⟩) := BF.len [c]
/-- how long with a blank each -/
def wSum (ws : List Str) : Nat := (ws.map fun w => w.length + 1).sum
theorem wSum_eq : ∀ ws : List Str, (ws.map fun x => x.length).sum + ws.length * 1 = wSum ws
  | [] => rfl
  | w :: r => by
    have := wSum_eq r
    unfold wSum at this ⊢
    rw [List.map_cons, List.map_cons, List.sum_cons, List.sum_cons, List.length_cons]
    omega
theorem wSum_app (a b : List Str) : wSum (a ++ b) = wSum a + wSum b := by unfold wSum; rw [List.map_append, List.sum_append_nat]
theorem joinL_w : ∀ ws : List Str, (joinL [32] (ws.map tl)).length ≤ wSum ws ∧ (ws ≠ [] → (joinL [32] (ws.map tl)).length + 1 = wSum ws)
  | [] => ⟨Nat.le_refl _, fun h => absurd rfl h⟩
  | [w] => by
    have : (joinL [32] ([w].map tl)).length + 1 = wSum [w] := by
      show (tl w).length + 1 = w.length + 1 + 0
      rw [len_tl]
    exact ⟨by omega, fun _ => this⟩
  | w :: v :: r => by
    have ih := (joinL_w (v :: r)).2 (fun z => nomatch z)
    have : (joinL [32] ((w :: v :: r).map tl)).length + 1 = wSum (w :: v :: r) := by
      show (tl w ++ ([32] ++ joinL [32] ((v :: r).map tl))).length + 1 = (w.length + 1) + wSum (v :: r)
      rw [List.length_append, List.length_append, ← len_tl, ← ih]
      show w.length + (1 + _) + 1 = _
      omega
    exact ⟨by omega, fun _ => this⟩
theorem wSum_words (t : Str) : wSum (wordsT t) = t.length + 1 := by rw [← (joinL_w (wordsT t)).2 (words_ne t), words_tlj, ← len_tl]
theorem tl_joinB (ys : List Str) : tl (Txt.join (Str.ofString " ") ys) = joinL [32] (ys.map tl) := by rw [join_eq, tl_join, show tl (Str.ofString " ") = [32] by decide +kernel]
theorem join_len (ys : List Str) : (Txt.join (Str.ofString " ") ys).length ≤ wSum ys := by rw [len_tl, tl_joinB]; exact (joinL_w ys).1
theorem join_bf {ys : List Str} {k : Nat} (h : ∀ y ∈ ys, y.length ≤ k) : BF k (tl (Txt.join (Str.ofString " ") ys)) := by
  rw [tl_joinB]
  refine BF.join fun p hp => ?_
  obtain ⟨y, hy, rfl⟩ := List.mem_map.mp hp
  rw [← len_tl]
  exact h y hy
theorem mem_join {c : Nat} : ∀ {ps : List (List Nat)}, c ∈ joinL [32] ps → c = 32 ∨ ∃ p ∈ ps, c ∈ p
  | [p], h => .inr ⟨p, List.mem_singleton.mpr rfl, h⟩
  | p :: q :: r, h => by
    rcases List.mem_append.mp (show c ∈ p ++ ([32] ++ joinL [32] (q :: r)) from h) with z | z
    · exact .inr ⟨p, List.mem_cons_self, z⟩
    · rcases List.mem_append.mp z with z | z
      · exact .inl (List.mem_singleton.mp z)
      · rcases mem_join z with z | ⟨x, hx, z⟩
        · exact .inl z
        · exact .inr ⟨x, List.mem_cons_of_mem _ hx, z⟩
theorem join_ok {ys : List Str} (h : ∀ y ∈ ys, okT y) : okT (Txt.join (Str.ofString " ") ys) := fun c hc => by
  rw [tl_joinB] at hc
  rcases mem_join hc with z | ⟨p, hp, z⟩
  · omega
  · obtain ⟨y, hy, rfl⟩ := List.mem_map.mp hp
    exact h y hy c z
theorem okT_strI (n : Int) : okT (strI n) := fun c hc => by
  rw [tl_strI] at hc
  have := sgL_sign hc
  omega
theorem ixS {xs : List Str} {c : Int} (h1 : 0 ≤ c) (h2 : c < (xs.length : Int)) : ∃ x, x ∈ xs ∧ ixD (.lst (xs.map Dv.str)) (.int c) = some (.str x) := by
  obtain ⟨j, rfl⟩ : ∃ j : Nat, c = j := ⟨c.toNat, by omega⟩
  have hj : j < xs.length := by omega
  exact ⟨xs[j], List.getElem_mem hj, ix_nat (by rw [List.getElem?_map, List.getElem?_eq_getElem hj]; rfl)⟩
def oddL : List Str := ["0", "-0", "-1", "01", "-01", "+1", "", "-", "--1", "1_0", "1.0", "1e5", "x", "7", "1-", "00", "-00"]
theorem odd_ok : ∀ w ∈ oddL, w.length ≤ 7 ∧ okT w := by
  have h : oddL.all (fun w => decide (w.length ≤ 7) && w.cps.toList.all fun c => decide (c < 1114112)) = true := by decide +kernel
  intro w hw
  have := List.all_eq_true.mp h w hw
  rw [Bool.and_eq_true] at this
  exact ⟨of_decide_eq_true this.1, fun c hc => of_decide_eq_true (List.all_eq_true.mp this.2 c hc)⟩
end Lw

namespace Lw
open PySem PySem.Spec PyProof.Rows L2 L3 PySem.NumText TL
theorem wSum_sub : ∀ {A B : List Str}, A.Sublist B → wSum A ≤ wSum B
  | _, _, .slnil => Nat.le_refl _
  | _, _, .cons a h => by have := wSum_sub h; unfold wSum at this ⊢; rw [List.map_cons, List.sum_cons]; omega
  | _, _, .cons_cons a h => by have := wSum_sub h; unfold wSum at this ⊢; rw [List.map_cons, List.sum_cons, List.map_cons, List.sum_cons]; omega
theorem wSum_set (z : Str) : ∀ (ws : List Str) (i : Nat), wSum (ws.set i z) ≤ wSum ws + z.length + 1
  | [], _ => by show wSum [] ≤ _; omega
  | w :: r, 0 => by
    show wSum (z :: r) ≤ wSum (w :: r) + _ + _
    unfold wSum
    rw [List.map_cons, List.sum_cons, List.map_cons, List.sum_cons]
    omega
  | w :: r, i + 1 => by
    have := wSum_set z r i
    show wSum (w :: r.set i z) ≤ wSum (w :: r) + _ + _
    unfold wSum at this ⊢
    rw [List.map_cons, List.sum_cons, List.map_cons, List.sum_cons]
    omega
theorem str_erase (ws : List Str) (i : Nat) : (ws.map Dv.str).eraseIdx i = (ws.eraseIdx i).map Dv.str := by
  rw [List.eraseIdx_eq_take_drop_succ, List.eraseIdx_eq_take_drop_succ, List.map_append, List.map_take, List.map_drop]
end Lw

namespace Lw
open PySem PySem.Spec PyProof.Rows L2 L3 PySem.NumText TL
theorem wSum_le {k : Nat} : ∀ {ws : List Str}, (∀ w ∈ ws, w.length ≤ k) → wSum ws ≤ ws.length * (k + 1)
  | [], _ => Nat.zero_le _
  | w :: r, h => by
    have ih := wSum_le (ws := r) fun v hv => h v (List.mem_cons_of_mem _ hv)
    have := h w List.mem_cons_self
    show w.length + 1 + wSum r ≤ _
    rw [List.length_cons, Nat.succ_mul]
    omega
theorem joinL_nil : ∀ cs : List Nat, joinL [] (cs.map fun c => [c]) = cs
  | [] => rfl
  | [c] => rfl
  | c :: d :: r => by
    have ih := joinL_nil (d :: r)
    show [c] ++ ([] ++ joinL [] ((d :: r).map fun c => [c])) = _
    rw [ih]
    rfl
theorem tl_join1 (cs : List Nat) : tl (Txt.join (Str.ofString "") (cs.map fun c => ⟨#[c]⟩)) = cs := by
  rw [join_eq, tl_join, show tl (Str.ofString "") = [] by decide +kernel, List.map_map]
  exact joinL_nil cs
theorem sum_ones : ∀ cs : List Nat, ((cs.map fun c => (⟨#[c]⟩ : Str)).map (fun x => x.length)).sum = cs.length
  | [] => rfl
  | c :: r => by
    have ih := sum_ones r
    rw [List.map_cons, List.map_cons, List.sum_cons, ih, List.length_cons]
    show 1 + _ = _
    omega
end Lw

/-! L7g: == of lists of lists of truth values. -/
namespace L3
open PySem PySem.Spec PyProof.Rows L2
abbrev blsD (xs : List Bool) : Dv := .lst (xs.map .bl)
section
variable {X : Cx} {R : RS} {a b : Expr} {wa wb : WE} {pos : Pos}
theorem eqv_blss : ∀ xs ys : List (List Bool), PyData.eqvAll (toPyL (xs.map blsD)) (toPyL (ys.map blsD)) = decide (xs = ys)
  | [], [] => by simp [toPyL, PyData.eqvAll]
  | [], y :: ys => by simp [toPyL, PyData.eqvAll]
  | x :: xs, [] => by simp [toPyL, PyData.eqvAll]
  | x :: xs, y :: ys => by
    have ih := eqv_blss xs ys
    have e : PyData.eqv (toPy (blsD x)) (toPy (blsD y)) = decide (x = y) := by
      rw [← eqv_bls]
      simp only [blsD, toPy, PyData.eqv]
    simp only [List.map_cons, toPyL, PyData.eqvAll, ih, e, List.cons.injEq]
    by_cases h1 : x = y <;> by_cases h2 : xs = ys <;> simp [h1, h2]
theorem blss_lay (xs : List (List Bool)) : (toPy (.lst (xs.map blsD))).canLay0 = true := by
  simp only [toPy, PyData.canLay0]
  exact lay_all fun d hd => by
    obtain ⟨b, _, rfl⟩ := List.mem_map.mp hd
    exact bls_lay b
theorem blss_shaped (xs : List (List Bool)) : SeqAt.shaped (toPy (.lst (xs.map blsD))) = true := by
  unfold SeqAt.shaped
  rw [blss_lay, Bool.true_and]
  refine decide_eq_true ?_
  have h : PyData.depthAll (toPyL (xs.map blsD)) ≤ 1 := depth_all fun d hd => by
    obtain ⟨b, _, rfl⟩ := List.mem_map.mp hd
    have h2 : PyData.depthAll (toPyL (b.map .bl)) ≤ 0 := depth_all fun d hd => by
      obtain ⟨c, _, rfl⟩ := List.mem_map.mp hd
      simp [toPy, PyData.depth]
    simp only [blsD, toPy, PyData.depth]
    omega
  simp only [toPy, PyData.depth]
  omega
def rdEqBB : Dv → Dv → (Dv → Prop) → Prop := fun d e Q => ∃ xs ys : List (List Bool), d = .lst (xs.map blsD) ∧ e = .lst (ys.map blsD) ∧ Q (.bl (decide (xs = ys)))
theorem sem_eqBB (hu : X.A.units + 64 < cLine) : SemOp X R (compareOp .Eq) rdEqBB := by
  refine ⟨⟨_, op_eqD hu, fun C es σ H x y d e Q o rx ry ⟨xs, ys, e1, e2, q⟩ => ?_⟩, fun d e P P' f ⟨xs, ys, e1, e2, q⟩ => ⟨xs, ys, e1, e2, f _ q⟩⟩
  subst e1 e2
  refine ⟨_, _, rx.dp (blss_lay xs), ry.dp (blss_lay ys), blss_shaped xs, blss_shaped ys, ?_⟩
  have e : PyData.eqv (toPy (.lst (xs.map blsD))) (toPy (.lst (ys.map blsD))) = decide (xs = ys) := by
    rw [← eqv_blss]
    simp only [toPy, PyData.eqv]
  rw [e]
  exact q _ H o.here (.bl _)
theorem de_eqBB (hu : X.A.units + 64 < cLine) (ha : DB X R a wa) (hb : DB X R b wb) : DE X R (.Compare a [.Eq] [b] pos) (w2 rdEqBB wa wb) := de_cmp2 (sem_eqBB hu) ha hb (nomark _)
end
end L3

namespace Lw
open PySem PySem.Spec PyProof.Rows L2 L3
def topS (i : Nat) : Stmt := PySem.Challenge.pw_toldsums_k02_texts_of_no_row.main.body.getD i (.Pass ⟨0, 0, 0, 0⟩)
abbrev s_number_read : Stmt := topS 9
theorem sc_number_read : FnScope ["word", "figures", "sign"] ["word"] (defScope s_number_read) := ⟨rfl, rfl, rfl, by decide +kernel, rfl, by decide +kernel, by decide +kernel⟩
abbrev s_read_row : Stmt := topS 10
theorem sc_read_row : FnScope ["text", "word"] ["text"] (defScope s_read_row) := ⟨rfl, rfl, rfl, by decide +kernel, rfl, by decide +kernel, by decide +kernel⟩
abbrev s_law_deck : Stmt := topS 12
theorem sc_law_deck : FnScope ["script", "cells", "seed", "k", "mixed"] ["script"] (defScope s_law_deck) := ⟨rfl, rfl, rfl, by decide +kernel, rfl, by decide +kernel, by decide +kernel⟩
abbrev s_law_take : Stmt := topS 13
theorem sc_law_take : FnScope ["deck", "many", "at", "cell", "one"] ["deck", "many"] (defScope s_law_take) := ⟨rfl, rfl, rfl, by decide +kernel, rfl, by decide +kernel, by decide +kernel⟩
abbrev s_law_some_number : Stmt := topS 14
theorem sc_law_some_number : FnScope ["deck", "kind", "whole"] ["deck", "kind"] (defScope s_law_some_number) := ⟨rfl, rfl, rfl, by decide +kernel, rfl, by decide +kernel, by decide +kernel⟩
abbrev s_law_row : Stmt := topS 15
theorem sc_law_row : FnScope ["deck", "most", "many", "kind", "way", "some", "ahead", "k", "one", "other"] ["deck", "most"] (defScope s_law_row) := ⟨rfl, rfl, rfl, by decide +kernel, rfl, by decide +kernel, by decide +kernel⟩
abbrev s_law_flags : Stmt := topS 17
theorem sc_law_flags : FnScope ["thing", "found"] ["thing"] (defScope s_law_flags) := ⟨rfl, rfl, rfl, by decide +kernel, rfl, by decide +kernel, by decide +kernel⟩
abbrev s_law_same : Stmt := topS 18
theorem sc_law_same : FnScope ["found", "due", "one", "other"] ["found", "due"] (defScope s_law_same) := ⟨rfl, rfl, rfl, by decide +kernel, rfl, by decide +kernel, by decide +kernel⟩
abbrev s_law_number_in : Stmt := topS 19
theorem sc_law_number_in : FnScope ["word", "figures", "sign"] ["word"] (defScope s_law_number_in) := ⟨rfl, rfl, rfl, by decide +kernel, rfl, by decide +kernel, by decide +kernel⟩
abbrev s_law_due : Stmt := topS 20
theorem sc_law_due : FnScope ["text", "found", "word"] ["text"] (defScope s_law_due) := ⟨rfl, rfl, rfl, by decide +kernel, rfl, by decide +kernel, by decide +kernel⟩
abbrev s_law_told : Stmt := topS 21
theorem sc_law_told : FnScope ["text", "found", "caught", "e", "k"] ["text"] (defScope s_law_told) := ⟨rfl, rfl, rfl, by decide +kernel, rfl, by decide +kernel, by decide +kernel⟩
abbrev s_law_right : Stmt := topS 22
theorem sc_law_right : FnScope ["text", "words", "due", "great", "word"] ["text"] (defScope s_law_right) := ⟨rfl, rfl, rfl, by decide +kernel, rfl, by decide +kernel, by decide +kernel⟩
abbrev s_law_sign : Stmt := topS 23
theorem sc_law_sign : FnScope ["deck", "wide", "menu"] ["deck"] (defScope s_law_sign) := ⟨rfl, rfl, rfl, by decide +kernel, rfl, by decide +kernel, by decide +kernel⟩
abbrev s_law_spoilt : Stmt := topS 24
theorem sc_law_spoilt : FnScope ["deck", "text", "at", "way", "words", "one", "odd", "word"] ["deck", "text"] (defScope s_law_spoilt) := ⟨rfl, rfl, rfl, by decide +kernel, rfl, by decide +kernel, by decide +kernel⟩
abbrev s_law : Stmt := topS 25
theorem sc_law : FnScope ["script", "deck", "turn", "text", "again", "once", "free", "errors", "k", "one", "number", "j"] ["script"] (defScope s_law) := ⟨rfl, rfl, rfl, by decide +kernel, rfl, by decide +kernel, by decide +kernel⟩
theorem rd_ok : True ∧ True := by
  simp (config := { maxSteps := 3000000 }) only [wsNil, wsSeq, wsBrk, wsCont, wsNever, wsFrz, wsRet, wsRetN, wsDrop, wsSet, wsSetN, wsSetD, wsTup, wsTupW, wsAug, wsIf, wsIfF, wsIfT, wsApp, wsExt, wsItem, wsFor, wsWhile, wVar, wOwn, wC, w2, w2T, wT, wAnd, wOr, wNot, wAndV, wOrV, wNotV, wIf, waNil, waCons, wTup, wLst, wL, wNeg, rdBin, rdEq, rdNe, rdOrd, rdIsN, rdNotN, wChain, wChain3, wRevT, rdInD, rdNinD, wIx, woN, woS, wSlL, wSlT, wSlS, wCall, wCallF, wCallN, FSpec.W, wItems, wRng1, wRng2, wRngD, wZip, wEnum, wLc, wYes, wBi, rdLen, rd1I, rd2I, rdInt, rdStr, rdTuple, Tg.w, Tg.ix, startE, List.map_cons, List.map_nil, List.cons_append, List.nil_append, List.length_cons, List.length_nil, Nat.add_zero, Nat.zero_add, Nat.reduceAdd, Nat.reduceSub, List.replicate_succ, List.replicate_zero, List.replicate, List.append_nil, List.getElem?_cons_zero, List.getElem?_cons_succ, List.getElem?_nil, List.set_cons_zero, List.set_cons_succ, List.set_nil, wipeE, Option.some.injEq, Sl.v.injEq, Sl.own.injEq, Dv.int.injEq, Dv.bl.injEq, Dv.lst.injEq, Dv.tup.injEq, Dv.str.injEq, Dv.scr.injEq, List.cons.injEq, reduceCtorEq, and_true, true_and, and_false, false_and, exists_eq_left, exists_eq_left', exists_eq_right, exists_eq_right', exists_and_left, exists_and_right, exists_eq, exists_const, false_or, or_false, Bool.false_eq_true, if_true, if_false, ite_true, ite_false, eq_self_iff_true, tyN, tyI, tyB, tyS, tyT, tyL, is_NoneType_int, is_NoneType_bool, is_NoneType_str, is_NoneType_tuple, is_NoneType_list, is_int_int, is_int_bool, is_int_str, is_int_tuple, is_int_list, is_bool_int, is_bool_bool, is_bool_str, is_bool_tuple, is_bool_list, is_str_int, is_str_bool, is_str_str, is_str_tuple, is_str_list, is_tuple_int, is_tuple_bool, is_tuple_str, is_tuple_tuple, is_tuple_list, is_list_int, is_list_bool, is_list_str, is_list_tuple, is_list_list, Bool.or_false, Bool.or_true, Bool.true_or, Bool.false_or, ixT0, ixT1, ixT2, ixT3, ixL0, ixL1, ixL2, ixL3, iff_true, and_assoc, decide_eq_true_eq, Bool.not_eq_true', Bool.not_eq_false', decide_eq_false_iff_not, Bool.not_true, Bool.not_false, bAi, bAs, bAt, bAl, bSi, bMi, bMl, bDi, bRi, bPi, cAi, cAs, cAt, cAl, cSi, cMi, cMl, cDi, cRi, cPi, itL, itT, itR, seL, seT, seR, leL, leT, leR, leS, lcL, lcT, lcR, lcS, xcL, xcT, xcR, xcS, orL, orE, orG, orH, mapI, iff_true, true_iff, iff_false, false_iff, forall_eq, Bool.not_eq_true, Bool.true_eq_false, reduceIte, List.length_append, List.length_range, List.length_map, forall_const, true_imp_iff, Nat.zero_le, Nat.reduceLeDiff, Int.toNat_natCast, Prod.exists, setAll, List.map_eq_nil_iff, mapP, rdMax, rdMin, wSort, rdMinD, rdMaxD, rdSum, wIsi, wIsi2, wIndexI, wGet2, wDIx, wDIn, wsDPut,  exists_const, ge_iff_le, gt_iff_lt]
structure Txt (K : PySem.W.Frag) (mg : Str → Option Value) : Prop where
  f_number_read : Df K mg "number_read" s_number_read ["word"]
  f_read_row : Df K mg "read_row" s_read_row ["text"]
  f_law_deck : Df K mg "_law_deck" s_law_deck ["script"]
  f_law_take : Df K mg "_law_take" s_law_take ["deck", "many"]
  f_law_some_number : Df K mg "_law_some_number" s_law_some_number ["deck", "kind"]
  f_law_row : Df K mg "_law_row" s_law_row ["deck", "most"]
  f_law_flags : Df K mg "_law_flags" s_law_flags ["thing"]
  f_law_same : Df K mg "_law_same" s_law_same ["found", "due"]
  f_law_number_in : Df K mg "_law_number_in" s_law_number_in ["word"]
  f_law_due : Df K mg "_law_due" s_law_due ["text"]
  f_law_told : Df K mg "_law_told" s_law_told ["text"]
  f_law_right : Df K mg "_law_right" s_law_right ["text"]
  f_law_sign : Df K mg "_law_sign" s_law_sign ["deck"]
  f_law_spoilt : Df K mg "_law_spoilt" s_law_spoilt ["deck", "text"]
  z_ValueError : mg "ValueError" = none
  z_bool : mg "bool" = none
  z_int : mg "int" = none
  z_isinstance : mg "isinstance" = none
  z_len : mg "len" = none
  z_list : mg "list" = none
  z_max : mg "max" = none
  z_min : mg "min" = none
  z_range : mg "range" = none
  z_str : mg "str" = none
  z_sum : mg "sum" = none
  z_tuple : mg "tuple" = none
  z_zip : mg "zip" = none
  e_NoAsk : Ec K mg "NoAsk"
  e_NoPlace : Ec K mg "NoPlace"
  e_NoRest : Ec K mg "NoRest"
  e_NoStretch : Ec K mg "NoStretch"
  e_NoText : Ec K mg "NoText"
  e_SumError : Ec K mg "SumError"
  x_NoAsk_SumError : PySem.W.exmOne K (clsV mg "NoAsk") (clsV mg "SumError") = some true
  x_NoPlace_SumError : PySem.W.exmOne K (clsV mg "NoPlace") (clsV mg "SumError") = some true
  x_NoRest_SumError : PySem.W.exmOne K (clsV mg "NoRest") (clsV mg "SumError") = some true
  x_NoStretch_SumError : PySem.W.exmOne K (clsV mg "NoStretch") (clsV mg "SumError") = some true
  x_NoText_SumError : PySem.W.exmOne K (clsV mg "NoText") (clsV mg "SumError") = some true
  i_NoAsk_NoAsk : PySem.W.kitOne K (clsV mg "NoAsk") (clsV mg "NoAsk") = some true
  i_NoAsk_NoPlace : PySem.W.kitOne K (clsV mg "NoAsk") (clsV mg "NoPlace") = some false
  i_NoAsk_NoRest : PySem.W.kitOne K (clsV mg "NoAsk") (clsV mg "NoRest") = some false
  i_NoAsk_NoStretch : PySem.W.kitOne K (clsV mg "NoAsk") (clsV mg "NoStretch") = some false
  i_NoAsk_NoText : PySem.W.kitOne K (clsV mg "NoAsk") (clsV mg "NoText") = some false
  i_NoAsk_SumError : PySem.W.kitOne K (clsV mg "NoAsk") (clsV mg "SumError") = some true
  i_NoAsk_ValueError : PySem.W.kitOne K (clsV mg "NoAsk") (.type "ValueError") = some true
  i_NoPlace_NoAsk : PySem.W.kitOne K (clsV mg "NoPlace") (clsV mg "NoAsk") = some false
  i_NoPlace_NoPlace : PySem.W.kitOne K (clsV mg "NoPlace") (clsV mg "NoPlace") = some true
  i_NoPlace_NoRest : PySem.W.kitOne K (clsV mg "NoPlace") (clsV mg "NoRest") = some false
  i_NoPlace_NoStretch : PySem.W.kitOne K (clsV mg "NoPlace") (clsV mg "NoStretch") = some false
  i_NoPlace_NoText : PySem.W.kitOne K (clsV mg "NoPlace") (clsV mg "NoText") = some false
  i_NoPlace_SumError : PySem.W.kitOne K (clsV mg "NoPlace") (clsV mg "SumError") = some true
  i_NoPlace_ValueError : PySem.W.kitOne K (clsV mg "NoPlace") (.type "ValueError") = some true
  i_NoRest_NoAsk : PySem.W.kitOne K (clsV mg "NoRest") (clsV mg "NoAsk") = some false
  i_NoRest_NoPlace : PySem.W.kitOne K (clsV mg "NoRest") (clsV mg "NoPlace") = some false
  i_NoRest_NoRest : PySem.W.kitOne K (clsV mg "NoRest") (clsV mg "NoRest") = some true
  i_NoRest_NoStretch : PySem.W.kitOne K (clsV mg "NoRest") (clsV mg "NoStretch") = some false
  i_NoRest_NoText : PySem.W.kitOne K (clsV mg "NoRest") (clsV mg "NoText") = some false
  i_NoRest_SumError : PySem.W.kitOne K (clsV mg "NoRest") (clsV mg "SumError") = some true
  i_NoRest_ValueError : PySem.W.kitOne K (clsV mg "NoRest") (.type "ValueError") = some true
  i_NoStretch_NoAsk : PySem.W.kitOne K (clsV mg "NoStretch") (clsV mg "NoAsk") = some false
  i_NoStretch_NoPlace : PySem.W.kitOne K (clsV mg "NoStretch") (clsV mg "NoPlace") = some false
  i_NoStretch_NoRest : PySem.W.kitOne K (clsV mg "NoStretch") (clsV mg "NoRest") = some false
  i_NoStretch_NoStretch : PySem.W.kitOne K (clsV mg "NoStretch") (clsV mg "NoStretch") = some true
  i_NoStretch_NoText : PySem.W.kitOne K (clsV mg "NoStretch") (clsV mg "NoText") = some false
  i_NoStretch_SumError : PySem.W.kitOne K (clsV mg "NoStretch") (clsV mg "SumError") = some true
  i_NoStretch_ValueError : PySem.W.kitOne K (clsV mg "NoStretch") (.type "ValueError") = some true
  i_NoText_NoAsk : PySem.W.kitOne K (clsV mg "NoText") (clsV mg "NoAsk") = some false
  i_NoText_NoPlace : PySem.W.kitOne K (clsV mg "NoText") (clsV mg "NoPlace") = some false
  i_NoText_NoRest : PySem.W.kitOne K (clsV mg "NoText") (clsV mg "NoRest") = some false
  i_NoText_NoStretch : PySem.W.kitOne K (clsV mg "NoText") (clsV mg "NoStretch") = some false
  i_NoText_NoText : PySem.W.kitOne K (clsV mg "NoText") (clsV mg "NoText") = some true
  i_NoText_SumError : PySem.W.kitOne K (clsV mg "NoText") (clsV mg "SumError") = some true
  i_NoText_ValueError : PySem.W.kitOne K (clsV mg "NoText") (.type "ValueError") = some true
  i_NoneType_NoAsk : PySem.W.kitOne K (.type "NoneType") (clsV mg "NoAsk") = some false
  i_NoneType_NoPlace : PySem.W.kitOne K (.type "NoneType") (clsV mg "NoPlace") = some false
  i_NoneType_NoRest : PySem.W.kitOne K (.type "NoneType") (clsV mg "NoRest") = some false
  i_NoneType_NoStretch : PySem.W.kitOne K (.type "NoneType") (clsV mg "NoStretch") = some false
  i_NoneType_NoText : PySem.W.kitOne K (.type "NoneType") (clsV mg "NoText") = some false
  i_NoneType_SumError : PySem.W.kitOne K (.type "NoneType") (clsV mg "SumError") = some false
  i_NoneType_ValueError : PySem.W.kitOne K (.type "NoneType") (.type "ValueError") = some false
  k_FIGURES : ∃ t, mg "FIGURES" = some (.str "0123456789" t)
section
variable {P : Program} {w : World} {K : PySem.W.Frag} {mg : Str → Option Value} {base : Heap}
abbrev S_number_read : FSpec := .det Int (fun n => [.str (strI n)]) (fun n => (strI n).length ≤ 640) (fun n => .int n)
theorem ok_number_read (T : Txt K mg) : Cl P w K mg base 1 "number_read" (spP K S_number_read) :=
  fn_P T.f_number_read sc_number_read (fun _ => rfl) fun f cdv A outer s H E hr => ⟨_, (dss_cons (ds_set (i := 1) sc_number_read.nd (de_var 0))
      (dss_cons (ds_if (dt_eq hr.units (de_sliceS (de_var 0) do_none (do_some de_int)).bb de_str.bb) (dss_one (ds_set (i := 1) sc_number_read.nd (de_sliceS (de_var 0) (do_some de_int) do_none))) dss_nil)
      (dss_cons (ds_ifF (dw_or (dt_eq hr.units (de_var 1).bb de_str.bb) (dw_or1 (dt_ne hr.units (dn_lc rfl sc_number_read.nd (t := (.nm 2)) (di_seq (de_var 1)).bb (blkOk_by (own := [("sign", 2)]) (N := ["word", "figures", "sign"]) (sc := defScope s_number_read) (by decide +kernel)) rfl (fun _ _ _ _ _ => (pg_name (i := 2) sc_number_read.nd rfl (by first | exact Or.inl rfl | exact Or.inr rfl))) (fun _ _ _ _ _ => (dts_one (dt_ninS (de_var 2).bb (de_gstrE (by rfl) T.k_FIGURES).bb))) (fun _ _ _ _ _ => (de_var 2))).bb (dn_lst da_nil).bb))).tt dss_nil)
      (dss_cons (ds_ifF (dw_and (dt_eq hr.units (de_ix (de_var 1).bb de_int).bb de_str.bb) (dw_and1 (dt_ne hr.units (de_var 0).bb de_str.bb))).tt dss_nil)
      (dss_one (ds_ret (de_intT T.z_int (dab_cons (de_var 0).bb dab_nil)).bb)))))), fun (n : Int) Q hl q => by
    have hl : (strI n).length ≤ 640 := hl
    have q : Q (.int n) := q () trivial
    have hi := strI_int (n := n) (by omega)
    have e := tl_strI n
    have tail : ∀ (fig : Str) (m : Nat), fig.cps.toList = TL.numL m → fig.length ≤ 640 → (m = 0 → n = 0) →
      eqC (Dv.str fig) (Dv.str (Str.ofString "")) ∧ ∀ (k : Bool), (k = true ↔ fig = Str.ofString "") → if k = true then False else ∃ ds, itemsOf (Dv.str fig) = some ds ∧ ds.length ≤ 100000 ∧ ownFree [Sl.v (Dv.str (strI n)), Sl.v (Dv.str fig), Sl.no] [2] = true ∧
        ∃ Iv : Nat → List Dv → Prop, Iv 0 [] ∧ (∀ (i : Nat) (d : Dv) (acc : List Dv), ds[i]? = some d → Iv i acc → ∃ c, d = Dv.str { cps := #[c] } ∧ if ¬c ∈ (Str.ofString "0123456789").cps.toList then Iv (i + 1) (acc ++ [d]) else Iv (i + 1) acc) ∧
        ∀ (acc : List Dv), Iv ds.length acc → eqC (Dv.lst acc) (Dv.lst []) ∧ ∀ (k : Bool), (k = true ↔ acc = []) → k = true ∧ ∃ z, ixD (Dv.str fig) (Dv.int 0) = some z ∧ fig.length ≤ 100000 ∧ eqC z (Dv.str (Str.ofString "0")) ∧
        ∀ (k : Bool), (k = true ↔ z = Dv.str (Str.ofString "0")) → if k = true then eqC (Dv.str (strI n)) (Dv.str (Str.ofString "0")) ∧ ∀ (k : Bool), (k = true ↔ strI n = Str.ofString "0") → k = true ∧ ∃ x, intText? (strI n) = some x ∧ (strI n).length ≤ 640 ∧ Q (Dv.int x)
          else ∃ x, intText? (strI n) = some x ∧ (strI n).length ≤ 640 ∧ Q (Dv.int x) := by
      intro fig m ef hfl hm
      have hlen : fig.length = (TL.numL m).length := by rw [TL.len_tl]; exact congrArg List.length ef
      obtain ⟨c, cs, e2, h2⟩ := numL_head m
      have fin : ∃ x, intText? (strI n) = some x ∧ (strI n).length ≤ 640 ∧ Q (Dv.int x) := ⟨n, hi, hl, q⟩
      refine ⟨.inl rfl, fun k hk => ?_⟩
      have hkf : k = false := by
        cases k with
        | false => rfl
        | true =>
          have z := congrArg (fun x : Str => x.cps.toList) (hk.mp rfl)
          have z : fig.cps.toList = [] := z
          rw [ef] at z
          exact absurd z (TL.numL_ne m)
      subst hkf
      rw [if_neg (by decide)]
      refine ⟨_, rfl, by rw [List.length_map, ef]; omega, rfl, iv_fm (TL.numL m) (fun c => .str ⟨#[c]⟩) (fun _ => false) (fun c => .str ⟨#[c]⟩) (by rw [ef]) (by rw [List.length_map, ef]) (fun i x acc J hx _ k2 => ?_) ?_⟩
      · refine ⟨x, rfl, ?_⟩
        have hd := TL.numL_digits m x (List.mem_of_getElem? hx)
        have e9 : (Str.ofString "0123456789").cps.toList = [48, 49, 50, 51, 52, 53, 54, 55, 56, 57] := by decide +kernel
        rw [if_neg (by rw [e9]; simp; omega)]
        exact k2 rfl
      · rw [show (TL.numL m).filter (fun _ => false) = [] by simp]
        refine ⟨.inr ⟨1, by decide, rfl, rfl⟩, fun k hk => ⟨hk.mpr rfl, .str ⟨#[c]⟩, ?_, by omega, .inl rfl, fun k2 hk2 => ?_⟩⟩
        · show (L2.atI fig.cps.toList ((0 : Nat) : Int)).map _ = _
          rw [atI_nat (j := 0) (v := c) (by rw [ef, e2]; rfl)]
          rfl
        · cases k2 with
          | false => rw [if_neg (by decide)]; exact fin
          | true =>
            rw [if_pos rfl]
            have z := hk2.mp rfl
            rw [Dv.str.injEq] at z
            have z := congrArg (fun x : Str => x.cps.toList) z
            have z : [c] = [48] := z
            have hc := (List.cons.inj z).1
            have hn : n = 0 := hm (by
              rcases Nat.eq_zero_or_pos m with g | g
              · exact g
              · exact absurd hc (h2 g))
            refine ⟨.inl rfl, fun k3 hk3 => ⟨hk3.mpr (by rw [hn]; decide +kernel), fin⟩⟩
    unfold sgL at e
    (try simp (config := { maxSteps := 3000000 }) only [rdInI, rdNinI, wDInT, wsPopAt, wsIns, rdIsBl, rdNotBl, rdInS, rdNinS, rdRepS, rdIntT, wJoinT, wsTry, wxNil, wxSeq, wxIf, wxRaise, wxDrop, wxSet, wxRet, wxOr, wxCallX, wxLen, wIsc, wIscT, wsAugIt, rdEqB, cxK, cxM, cxKn, cxMn, tyV_n, tyV_e, wxTup, wLcX, rdEqBB, wsDeck, flatE, flat, flatL, Bool.and_true, Bool.true_and, Bool.and_self, wsNil, wsSeq, wsBrk, wsCont, wsNever, wsFrz, wsRet, wsRetN, wsDrop, wsSet, wsSetN, wsSetD, wsTup, wsTupW, wsAug, wsIf, wsIfF, wsIfT, wsApp, wsExt, wsItem, wsFor, wsWhile, wVar, wOwn, wC, w2, w2T, wT, wAnd, wOr, wNot, wAndV, wOrV, wNotV, wIf, waNil, waCons, wTup, wLst, wL, wNeg, rdBin, rdEq, rdNe, rdOrd, rdIsN, rdNotN, wChain, wChain3, wRevT, rdInD, rdNinD, wIx, woN, woS, wSlL, wSlT, wSlS, wCall, wCallF, wCallN, FSpec.W, wItems, wRng1, wRng2, wRngD, wZip, wEnum, wLc, wYes, wBi, rdLen, rd1I, rd2I, rdInt, rdStr, rdTuple, Tg.w, Tg.ix, startE, List.map_cons, List.map_nil, List.cons_append, List.nil_append, List.length_cons, List.length_nil, Nat.add_zero, Nat.zero_add, Nat.reduceAdd, Nat.reduceSub, List.replicate_succ, List.replicate_zero, List.replicate, List.append_nil, List.getElem?_cons_zero, List.getElem?_cons_succ, List.getElem?_nil, List.set_cons_zero, List.set_cons_succ, List.set_nil, wipeE, Option.some.injEq, Sl.v.injEq, Sl.own.injEq, Dv.int.injEq, Dv.bl.injEq, Dv.lst.injEq, Dv.tup.injEq, Dv.str.injEq, Dv.scr.injEq, List.cons.injEq, reduceCtorEq, and_true, true_and, and_false, false_and, exists_eq_left, exists_eq_left', exists_eq_right, exists_eq_right', exists_and_left, exists_and_right, exists_eq, exists_const, false_or, or_false, Bool.false_eq_true, if_true, if_false, ite_true, ite_false, eq_self_iff_true, tyN, tyI, tyB, tyS, tyT, tyL, is_NoneType_int, is_NoneType_bool, is_NoneType_str, is_NoneType_tuple, is_NoneType_list, is_int_int, is_int_bool, is_int_str, is_int_tuple, is_int_list, is_bool_int, is_bool_bool, is_bool_str, is_bool_tuple, is_bool_list, is_str_int, is_str_bool, is_str_str, is_str_tuple, is_str_list, is_tuple_int, is_tuple_bool, is_tuple_str, is_tuple_tuple, is_tuple_list, is_list_int, is_list_bool, is_list_str, is_list_tuple, is_list_list, Bool.or_false, Bool.or_true, Bool.true_or, Bool.false_or, ixT0, ixT1, ixT2, ixT3, ixL0, ixL1, ixL2, ixL3, iff_true, and_assoc, decide_eq_true_eq, Bool.not_eq_true', Bool.not_eq_false', decide_eq_false_iff_not, Bool.not_true, Bool.not_false, bAi, bAs, bAt, bAl, bSi, bMi, bMl, bDi, bRi, bPi, cAi, cAs, cAt, cAl, cSi, cMi, cMl, cDi, cRi, cPi, itL, itT, itR, seL, seT, seR, leL, leT, leR, leS, lcL, lcT, lcR, lcS, xcL, xcT, xcR, xcS, orL, orE, orG, orH, mapI, iff_true, true_iff, iff_false, false_iff, forall_eq, Bool.not_eq_true, Bool.true_eq_false, reduceIte, List.length_append, List.length_range, List.length_map, forall_const, true_imp_iff, Nat.zero_le, Nat.reduceLeDiff, Int.toNat_natCast, Prod.exists, setAll, List.map_eq_nil_iff, mapP, rdMax, rdMin, wSort, rdMinD, rdMaxD, rdSum, wIsi, wIsi2, wIndexI, wGet2, wDIx, wDIn, wsDPut,  exists_const, ge_iff_le, gt_iff_lt])
    refine ⟨by omega, .inl rfl, fun k hk => ?_⟩
    by_cases h0 : 0 ≤ n
    · rw [if_pos h0] at e
      obtain ⟨c, cs, e2, h2⟩ := numL_head n.toNat
      have hc := TL.numL_digits n.toNat c (by rw [e2]; exact List.mem_cons_self)
      rw [cut_to1 (e.trans e2)] at hk
      have hkf : k = false := by
        cases k with
        | false => rfl
        | true =>
          have z := congrArg (fun x : Str => x.cps.toList) (hk.mp rfl)
          have z : [c] = [45] := z
          have := (List.cons.inj z).1
          omega
      subst hkf
      rw [if_neg (by decide)]
      exact tail (strI n) n.toNat e hl fun _ => by omega
    · rw [if_neg h0] at e
      rw [cut_to1 e] at hk
      have hkt : k = true := hk.mpr rfl
      subst hkt
      rw [if_pos rfl]
      have ec := cut_from1 e
      refine ⟨by omega, tail (cutS (strI n) (some 1) none) (-n).toNat ec ?_ fun _ => by omega⟩
      have h1 : (strI n).length = (45 :: TL.numL (-n).toNat).length := by rw [TL.len_tl]; exact congrArg List.length e
      have h2 : (cutS (strI n) (some 1) none).length = (TL.numL (-n).toNat).length := by rw [TL.len_tl]; exact congrArg List.length ec
      rw [List.length_cons] at h1
      omega⟩

abbrev SX_number_read : XSpec := ⟨Str, fun w => [.str w], fun w => badW w ∧ w.length ≤ 640 ∧ okT w⟩
theorem okX_number_read (T : Txt K mg) : ClX P w K mg base 1 "number_read" SX_number_read (clsV mg "NoText") :=
  fn_X T.f_number_read sc_number_read (fun _ => rfl) fun f cdv A outer s H E hr => ⟨_, (dxs_cons (dx_of (ds_set (i := 1) sc_number_read.nd (de_var 0)))
      (dxs_cons (dx_if (dt_eq hr.units (de_sliceS (de_var 0) do_none (do_some de_int)).bb de_str.bb) (dxs_one (dx_of (ds_set (i := 1) sc_number_read.nd (de_sliceS (de_var 0) (do_some de_int) do_none)))) dxs_nil)
      (dxs_cons (dx_if (dw_or (dt_eq hr.units (de_var 1).bb de_str.bb) (dw_or1 (dt_ne hr.units (dn_lc rfl sc_number_read.nd (t := (.nm 2)) (di_seq (de_var 1)).bb (blkOk_by (own := [("sign", 2)]) (N := ["word", "figures", "sign"]) (sc := defScope s_number_read) (by decide +kernel)) rfl (fun _ _ _ _ _ => (pg_name (i := 2) sc_number_read.nd rfl (by first | exact Or.inl rfl | exact Or.inr rfl))) (fun _ _ _ _ _ => (dts_one (dt_ninS (de_var 2).bb (de_gstrE (by rfl) T.k_FIGURES).bb))) (fun _ _ _ _ _ => (de_var 2))).bb (dn_lst da_nil).bb))).tt (dxs_one (dx_raise rfl T.e_NoText (by rfl))) dxs_nil)
      (dxs_cons (dx_if (dw_and (dt_eq hr.units (de_ix (de_var 1).bb de_int).bb de_str.bb) (dw_and1 (dt_ne hr.units (de_var 0).bb de_str.bb))).tt (dxs_one (dx_raise rfl T.e_NoText (by rfl))) dxs_nil)
      (dxs_one (dx_of (ds_ret (de_intT T.z_int (dab_cons (de_var 0).bb dab_nil)).bb))))))), fun (w : Str) E hl q => by
    obtain ⟨hb, hl, ho⟩ : badW w ∧ w.length ≤ 640 ∧ okT w := hl
    (try simp (config := { maxSteps := 3000000 }) only [rdInI, rdNinI, wDInT, wsPopAt, wsIns, rdIsBl, rdNotBl, rdInS, rdNinS, rdRepS, rdIntT, wJoinT, wsTry, wxNil, wxSeq, wxIf, wxRaise, wxDrop, wxSet, wxRet, wxOr, wxCallX, wxLen, wIsc, wIscT, wsAugIt, rdEqB, cxK, cxM, cxKn, cxMn, tyV_n, tyV_e, wxTup, wLcX, rdEqBB, wsDeck, flatE, flat, flatL, Bool.and_true, Bool.true_and, Bool.and_self, wsNil, wsSeq, wsBrk, wsCont, wsNever, wsFrz, wsRet, wsRetN, wsDrop, wsSet, wsSetN, wsSetD, wsTup, wsTupW, wsAug, wsIf, wsIfF, wsIfT, wsApp, wsExt, wsItem, wsFor, wsWhile, wVar, wOwn, wC, w2, w2T, wT, wAnd, wOr, wNot, wAndV, wOrV, wNotV, wIf, waNil, waCons, wTup, wLst, wL, wNeg, rdBin, rdEq, rdNe, rdOrd, rdIsN, rdNotN, wChain, wChain3, wRevT, rdInD, rdNinD, wIx, woN, woS, wSlL, wSlT, wSlS, wCall, wCallF, wCallN, FSpec.W, wItems, wRng1, wRng2, wRngD, wZip, wEnum, wLc, wYes, wBi, rdLen, rd1I, rd2I, rdInt, rdStr, rdTuple, Tg.w, Tg.ix, startE, List.map_cons, List.map_nil, List.cons_append, List.nil_append, List.length_cons, List.length_nil, Nat.add_zero, Nat.zero_add, Nat.reduceAdd, Nat.reduceSub, List.replicate_succ, List.replicate_zero, List.replicate, List.append_nil, List.getElem?_cons_zero, List.getElem?_cons_succ, List.getElem?_nil, List.set_cons_zero, List.set_cons_succ, List.set_nil, wipeE, Option.some.injEq, Sl.v.injEq, Sl.own.injEq, Dv.int.injEq, Dv.bl.injEq, Dv.lst.injEq, Dv.tup.injEq, Dv.str.injEq, Dv.scr.injEq, List.cons.injEq, reduceCtorEq, and_true, true_and, and_false, false_and, exists_eq_left, exists_eq_left', exists_eq_right, exists_eq_right', exists_and_left, exists_and_right, exists_eq, exists_const, false_or, or_false, Bool.false_eq_true, if_true, if_false, ite_true, ite_false, eq_self_iff_true, tyN, tyI, tyB, tyS, tyT, tyL, is_NoneType_int, is_NoneType_bool, is_NoneType_str, is_NoneType_tuple, is_NoneType_list, is_int_int, is_int_bool, is_int_str, is_int_tuple, is_int_list, is_bool_int, is_bool_bool, is_bool_str, is_bool_tuple, is_bool_list, is_str_int, is_str_bool, is_str_str, is_str_tuple, is_str_list, is_tuple_int, is_tuple_bool, is_tuple_str, is_tuple_tuple, is_tuple_list, is_list_int, is_list_bool, is_list_str, is_list_tuple, is_list_list, Bool.or_false, Bool.or_true, Bool.true_or, Bool.false_or, ixT0, ixT1, ixT2, ixT3, ixL0, ixL1, ixL2, ixL3, iff_true, and_assoc, decide_eq_true_eq, Bool.not_eq_true', Bool.not_eq_false', decide_eq_false_iff_not, Bool.not_true, Bool.not_false, bAi, bAs, bAt, bAl, bSi, bMi, bMl, bDi, bRi, bPi, cAi, cAs, cAt, cAl, cSi, cMi, cMl, cDi, cRi, cPi, itL, itT, itR, seL, seT, seR, leL, leT, leR, leS, lcL, lcT, lcR, lcS, xcL, xcT, xcR, xcS, orL, orE, orG, orH, mapI, iff_true, true_iff, iff_false, false_iff, forall_eq, Bool.not_eq_true, Bool.true_eq_false, reduceIte, List.length_append, List.length_range, List.length_map, forall_const, true_imp_iff, Nat.zero_le, Nat.reduceLeDiff, Int.toNat_natCast, Prod.exists, setAll, List.map_eq_nil_iff, mapP, rdMax, rdMin, wSort, rdMinD, rdMaxD, rdSum, wIsi, wIsi2, wIndexI, wGet2, wDIx, wDIn, wsDPut,  exists_const, ge_iff_le, gt_iff_lt])
    exact ⟨by omega, .inl rfl, fig_ways hl (fun e1 e2 => ⟨by omega, fig_tail ho rfl e1 e2 (fun _ => q _) fun z => absurd hb z⟩) fun e1 => fig_tail ho rfl e1 hl (fun _ => q _) fun z => absurd hb z⟩⟩

abbrev S_read_row : FSpec := .det (List Int) (fun r => [.str (shT r)]) (fun r => r.length ≤ 1000 ∧ ∀ n ∈ r, -(10 : Int) ^ 14 < n ∧ n < (10 : Int) ^ 14) (fun r => rowD r)
theorem ok_read_row (T : Txt K mg) : Cl P w K mg base 2 "read_row" (spP K S_read_row) :=
  fn_P T.f_read_row sc_read_row (fun _ => rfl) fun f cdv A outer s H E hr => ⟨_, (dss_cons (ds_if (dt_eq hr.units (de_var 0).bb de_str.bb) (dss_one (ds_ret (de_tup da_nil).bb)) dss_nil)
      (dss_one (ds_ret (de_tupleOf T.z_tuple (dab_cons (dn_lc rfl sc_read_row.nd (t := (.nm 1)) (di_seq (dn_split (de_var 0)).ee).bb (blkOk_by (own := [("word", 1)]) (N := ["text", "word"]) (sc := defScope s_read_row) (by decide +kernel)) rfl (fun _ _ _ _ _ => (pg_name (i := 1) sc_read_row.nd rfl (by first | exact Or.inl rfl | exact Or.inr rfl))) (fun _ _ _ _ _ => dts_nil) (fun _ _ _ _ _ => (de_call (ok_number_read T) hr (by rfl) (da_cons (de_var 1) da_nil)))).bb dab_nil)).bb))), fun (r : List Int) Q hl q => by
    have hl : r.length ≤ 1000 ∧ ∀ n ∈ r, -(10 : Int) ^ 14 < n ∧ n < (10 : Int) ^ 14 := hl
    have q : Q (rowD r) := q () trivial
    have hs := sh_len (k := 14) (by decide) hl.2
    (try simp (config := { maxSteps := 3000000 }) only [rdInI, rdNinI, wDInT, wsPopAt, wsIns, rdIsBl, rdNotBl, rdInS, rdNinS, rdRepS, rdIntT, wJoinT, wsTry, wxNil, wxSeq, wxIf, wxRaise, wxDrop, wxSet, wxRet, wxOr, wxCallX, wxLen, wIsc, wIscT, wsAugIt, rdEqB, cxK, cxM, cxKn, cxMn, tyV_n, tyV_e, wxTup, wLcX, rdEqBB, wsDeck, flatE, flat, flatL, Bool.and_true, Bool.true_and, Bool.and_self, wsNil, wsSeq, wsBrk, wsCont, wsNever, wsFrz, wsRet, wsRetN, wsDrop, wsSet, wsSetN, wsSetD, wsTup, wsTupW, wsAug, wsIf, wsIfF, wsIfT, wsApp, wsExt, wsItem, wsFor, wsWhile, wVar, wOwn, wC, w2, w2T, wT, wAnd, wOr, wNot, wAndV, wOrV, wNotV, wIf, waNil, waCons, wTup, wLst, wL, wNeg, rdBin, rdEq, rdNe, rdOrd, rdIsN, rdNotN, wChain, wChain3, wRevT, rdInD, rdNinD, wIx, woN, woS, wSlL, wSlT, wSlS, wCall, wCallF, wCallN, FSpec.W, wItems, wRng1, wRng2, wRngD, wZip, wEnum, wLc, wYes, wBi, rdLen, rd1I, rd2I, rdInt, rdStr, rdTuple, Tg.w, Tg.ix, startE, List.map_cons, List.map_nil, List.cons_append, List.nil_append, List.length_cons, List.length_nil, Nat.add_zero, Nat.zero_add, Nat.reduceAdd, Nat.reduceSub, List.replicate_succ, List.replicate_zero, List.replicate, List.append_nil, List.getElem?_cons_zero, List.getElem?_cons_succ, List.getElem?_nil, List.set_cons_zero, List.set_cons_succ, List.set_nil, wipeE, Option.some.injEq, Sl.v.injEq, Sl.own.injEq, Dv.int.injEq, Dv.bl.injEq, Dv.lst.injEq, Dv.tup.injEq, Dv.str.injEq, Dv.scr.injEq, List.cons.injEq, reduceCtorEq, and_true, true_and, and_false, false_and, exists_eq_left, exists_eq_left', exists_eq_right, exists_eq_right', exists_and_left, exists_and_right, exists_eq, exists_const, false_or, or_false, Bool.false_eq_true, if_true, if_false, ite_true, ite_false, eq_self_iff_true, tyN, tyI, tyB, tyS, tyT, tyL, is_NoneType_int, is_NoneType_bool, is_NoneType_str, is_NoneType_tuple, is_NoneType_list, is_int_int, is_int_bool, is_int_str, is_int_tuple, is_int_list, is_bool_int, is_bool_bool, is_bool_str, is_bool_tuple, is_bool_list, is_str_int, is_str_bool, is_str_str, is_str_tuple, is_str_list, is_tuple_int, is_tuple_bool, is_tuple_str, is_tuple_tuple, is_tuple_list, is_list_int, is_list_bool, is_list_str, is_list_tuple, is_list_list, Bool.or_false, Bool.or_true, Bool.true_or, Bool.false_or, ixT0, ixT1, ixT2, ixT3, ixL0, ixL1, ixL2, ixL3, iff_true, and_assoc, decide_eq_true_eq, Bool.not_eq_true', Bool.not_eq_false', decide_eq_false_iff_not, Bool.not_true, Bool.not_false, bAi, bAs, bAt, bAl, bSi, bMi, bMl, bDi, bRi, bPi, cAi, cAs, cAt, cAl, cSi, cMi, cMl, cDi, cRi, cPi, itL, itT, itR, seL, seT, seR, leL, leT, leR, leS, lcL, lcT, lcR, lcS, xcL, xcT, xcR, xcS, orL, orE, orG, orH, mapI, iff_true, true_iff, iff_false, false_iff, forall_eq, Bool.not_eq_true, Bool.true_eq_false, reduceIte, List.length_append, List.length_range, List.length_map, forall_const, true_imp_iff, Nat.zero_le, Nat.reduceLeDiff, Int.toNat_natCast, Prod.exists, setAll, List.map_eq_nil_iff, mapP, rdMax, rdMin, wSort, rdMinD, rdMaxD, rdSum, wIsi, wIsi2, wIndexI, wGet2, wDIx, wDIn, wsDPut,  exists_const, ge_iff_le, gt_iff_lt])
    refine ⟨.inl rfl, fun k hk => ?_⟩
    by_cases h0 : r = []
    · subst h0
      have hkt : k = true := hk.mpr (by decide +kernel)
      subst hkt
      rw [if_pos rfl]
      exact q
    · have hkf : k = false := by
        cases k with
        | false => rfl
        | true => exact absurd (hk.mp rfl) (sh_ne h0)
      subst hkf
      rw [if_neg (by decide), sh_split h0]
      refine ⟨by decide +kernel, by omega, by rw [List.length_map]; omega, rfl, iv_fm r (fun n => .str (strI n)) (fun _ => true) .int (by rw [List.map_map]; rfl) (by simp) (fun i n acc J hn k1 _ => ?_) ?_⟩
      · have := strI_len (by decide) (hl.2 n (List.mem_of_getElem? hn))
        exact ⟨n, rfl, by omega, k1 rfl⟩
      · rw [List.filter_eq_self.mpr fun _ _ => rfl]
        exact q⟩

abbrev SX_read_row : XSpec := ⟨Str, fun t => [.str t], fun t => (∃ w ∈ wordsT t, badW w) ∧ tOk t ∧ t ≠ Str.ofString ""⟩
theorem okX_read_row (T : Txt K mg) : ClX P w K mg base 2 "read_row" SX_read_row (clsV mg "NoText") :=
  fn_X T.f_read_row sc_read_row (fun _ => rfl) fun f cdv A outer s H E hr => ⟨_, (dxs_cons (dx_if (dt_eq hr.units (de_var 0).bb de_str.bb) (dxs_one (dx_of (ds_ret (de_tup da_nil).bb))) dxs_nil)
      (dxs_cons (dx_ret (dex_tuple T.z_tuple (dex_lc rfl sc_read_row.nd (t := (.nm 1)) (di_seq (dn_split (de_var 0)).ee).bb (blkOk_by (own := [("word", 1)]) (N := ["text", "word"]) (sc := defScope s_read_row) (by decide +kernel)) rfl (fun _ _ _ _ _ => (pg_name (i := 1) sc_read_row.nd rfl (by first | exact Or.inl rfl | exact Or.inr rfl))) (fun _ _ _ _ _ _ _ => (dec_or (dec_of (de_call (ok_number_read T) hr (by rfl) (da_cons (de_var 1) da_nil))) (dec_callX (okX_number_read T) hr (by rfl) (da_cons (de_var 1) da_nil)))))))
      (dxs_of dss_never))), fun (t : Str) E hl q => by
    obtain ⟨hb, ht, hn⟩ : (∃ w ∈ wordsT t, badW w) ∧ tOk t ∧ t ≠ Str.ofString "" := hl
    have hw : (Txt.split t (Str.ofString " ")).length ≤ t.length + 1 := words_len t
    have h5 := ht.ln
    (try simp (config := { maxSteps := 3000000 }) only [rdInI, rdNinI, wDInT, wsPopAt, wsIns, rdIsBl, rdNotBl, rdInS, rdNinS, rdRepS, rdIntT, wJoinT, wsTry, wxNil, wxSeq, wxIf, wxRaise, wxDrop, wxSet, wxRet, wxOr, wxCallX, wxLen, wIsc, wIscT, wsAugIt, rdEqB, cxK, cxM, cxKn, cxMn, tyV_n, tyV_e, wxTup, wLcX, rdEqBB, wsDeck, flatE, flat, flatL, Bool.and_true, Bool.true_and, Bool.and_self, wsNil, wsSeq, wsBrk, wsCont, wsNever, wsFrz, wsRet, wsRetN, wsDrop, wsSet, wsSetN, wsSetD, wsTup, wsTupW, wsAug, wsIf, wsIfF, wsIfT, wsApp, wsExt, wsItem, wsFor, wsWhile, wVar, wOwn, wC, w2, w2T, wT, wAnd, wOr, wNot, wAndV, wOrV, wNotV, wIf, waNil, waCons, wTup, wLst, wL, wNeg, rdBin, rdEq, rdNe, rdOrd, rdIsN, rdNotN, wChain, wChain3, wRevT, rdInD, rdNinD, wIx, woN, woS, wSlL, wSlT, wSlS, wCall, wCallF, wCallN, FSpec.W, wItems, wRng1, wRng2, wRngD, wZip, wEnum, wLc, wYes, wBi, rdLen, rd1I, rd2I, rdInt, rdStr, rdTuple, Tg.w, Tg.ix, startE, List.map_cons, List.map_nil, List.cons_append, List.nil_append, List.length_cons, List.length_nil, Nat.add_zero, Nat.zero_add, Nat.reduceAdd, Nat.reduceSub, List.replicate_succ, List.replicate_zero, List.replicate, List.append_nil, List.getElem?_cons_zero, List.getElem?_cons_succ, List.getElem?_nil, List.set_cons_zero, List.set_cons_succ, List.set_nil, wipeE, Option.some.injEq, Sl.v.injEq, Sl.own.injEq, Dv.int.injEq, Dv.bl.injEq, Dv.lst.injEq, Dv.tup.injEq, Dv.str.injEq, Dv.scr.injEq, List.cons.injEq, reduceCtorEq, and_true, true_and, and_false, false_and, exists_eq_left, exists_eq_left', exists_eq_right, exists_eq_right', exists_and_left, exists_and_right, exists_eq, exists_const, false_or, or_false, Bool.false_eq_true, if_true, if_false, ite_true, ite_false, eq_self_iff_true, tyN, tyI, tyB, tyS, tyT, tyL, is_NoneType_int, is_NoneType_bool, is_NoneType_str, is_NoneType_tuple, is_NoneType_list, is_int_int, is_int_bool, is_int_str, is_int_tuple, is_int_list, is_bool_int, is_bool_bool, is_bool_str, is_bool_tuple, is_bool_list, is_str_int, is_str_bool, is_str_str, is_str_tuple, is_str_list, is_tuple_int, is_tuple_bool, is_tuple_str, is_tuple_tuple, is_tuple_list, is_list_int, is_list_bool, is_list_str, is_list_tuple, is_list_list, Bool.or_false, Bool.or_true, Bool.true_or, Bool.false_or, ixT0, ixT1, ixT2, ixT3, ixL0, ixL1, ixL2, ixL3, iff_true, and_assoc, decide_eq_true_eq, Bool.not_eq_true', Bool.not_eq_false', decide_eq_false_iff_not, Bool.not_true, Bool.not_false, bAi, bAs, bAt, bAl, bSi, bMi, bMl, bDi, bRi, bPi, cAi, cAs, cAt, cAl, cSi, cMi, cMl, cDi, cRi, cPi, itL, itT, itR, seL, seT, seR, leL, leT, leR, leS, lcL, lcT, lcR, lcS, xcL, xcT, xcR, xcS, orL, orE, orG, orH, mapI, iff_true, true_iff, iff_false, false_iff, forall_eq, Bool.not_eq_true, Bool.true_eq_false, reduceIte, List.length_append, List.length_range, List.length_map, forall_const, true_imp_iff, Nat.zero_le, Nat.reduceLeDiff, Int.toNat_natCast, Prod.exists, setAll, List.map_eq_nil_iff, mapP, rdMax, rdMin, wSort, rdMinD, rdMaxD, rdSum, wIsi, wIsi2, wIndexI, wGet2, wDIx, wDIn, wsDPut,  exists_const, ge_iff_le, gt_iff_lt])
    refine ⟨.inl rfl, ok_ifF hn ⟨by decide +kernel, by omega, by omega, rfl, ?_⟩⟩
    refine ⟨fun i acc => ∀ w ∈ (wordsT t).take i, ¬ badW w, (fun w h => nomatch h), fun i d acc hd hI => ?_, fun acc hI => ?_⟩
    · rw [List.getElem?_map] at hd
      obtain ⟨w, hw, rfl⟩ := Option.map_eq_some_iff.mp hd
      have hm : w ∈ wordsT t := List.mem_of_getElem? hw
      by_cases hbw : badW w
      · exact .inr ⟨w, rfl, hbw, ht.wd w hm, words_ok ht.sg hm, q _⟩
      · obtain ⟨n, e⟩ := good_strI hbw
        refine .inl ⟨n, by rw [e], by rw [← e]; exact ht.wd w hm, fun v hv => ?_⟩
        rw [List.take_add_one, hw] at hv
        rcases List.mem_append.mp hv with z | z
        · exact hI v z
        · rw [List.mem_singleton.mp z]; exact hbw
    · obtain ⟨w, hw, hbw⟩ := hb
      exact hI w (by rw [List.take_length]; exact hw) hbw⟩

abbrev S_law_deck : FSpec := ⟨List Int, List Int × Int, fun a => [.scr a], fun a => a.length ≤ 63, fun _ b => 0 < b.1.length ∧ b.1.length ≤ 64, fun _ b => .lst [.lst (iD b.1), .int 0, .int b.2]⟩
theorem ok_law_deck (T : Txt K mg) : Cl P w K mg base 1 "_law_deck" (spP K S_law_deck) :=
  fn_P T.f_law_deck sc_law_deck (fun _ => rfl) fun f cdv A outer s H E hr => ⟨_, (dss_cons (ds_setN (i := 1) sc_law_deck.nd (dn_cat (dn_slice (de_var 0).bb do_none (do_some de_int)).bb (dn_lst (da_cons (de_len T.z_len (dab_cons (de_var 0).bb dab_nil)) da_nil)).bb))
      (dss_cons (ds_set (i := 2) sc_law_deck.nd (de_bin (de_bin (de_bin (de_bin (de_sum rfl T.z_sum (dab_cons (dn_slice (de_var 0).bb do_none (do_some de_int)).bb dab_nil)).bb de_int.bb).bb (de_bin de_int.bb (de_len T.z_len (dab_cons (de_var 0).bb dab_nil)).bb).bb).bb de_int.bb).bb de_int.bb))
      (dss_cons (ds_if (dt_eq hr.units (de_bin (de_sum rfl T.z_sum (dab_cons (dn_slice (de_var 0).bb do_none (do_some de_int)).bb dab_nil)).bb de_int.bb).bb de_int.bb) (dss_one (ds_for (.nm 3) [3, 4] PassesOwn.never rfl (di_range1 (by rfl) T.z_range (de_len T.z_len (dab_cons (db_own 1) dab_nil))) (pg_name (i := 3) sc_law_deck.nd rfl (by first | exact Or.inl rfl | exact Or.inr rfl)) (dss_cons (ds_set (i := 4) sc_law_deck.nd (de_bin (de_bin (de_bin (de_bin (de_bin (de_ix (db_own 1) (de_var 3)).bb de_int.bb).bb (de_bin de_int.bb (de_var 3).bb).bb).bb de_int.bb).bb de_int.bb).bb de_int.bb))
      (dss_cons (ds_set (i := 4) sc_law_deck.nd (de_bin (de_bin (de_bin (de_bin (de_bin (de_var 4).bb (de_var 4).bb).bb (de_bin de_int.bb (de_var 3).bb).bb).bb de_int.bb).bb de_int.bb).bb de_int.bb))
      (dss_one (ds_item 1 (de_var 3) (de_bin (de_bin (de_bin (de_var 4).bb (de_var 4).bb).bb de_int.bb).bb (de_bin (de_bin (de_var 4).bb de_int.bb).bb de_int.bb).bb))))))) dss_nil)
      (dss_one (ds_frz 1 (ds_ret (dn_lst (da_cons (de_var 1) (da_cons de_int (da_cons (de_var 2) da_nil)))).bb)))))), fun ns Q hl q => by
    have hl : ns.length ≤ 63 := hl
    have q : ∀ (xs : List Int) (s : Int), 0 < xs.length → xs.length ≤ 64 → Q (.lst [.lst (iD xs), .int 0, .int s]) := fun xs s h1 h2 => q (xs, s) ⟨h1, h2⟩
    (try simp (config := { maxSteps := 3000000 }) only [rdInI, rdNinI, wDInT, wsPopAt, wsIns, rdIsBl, rdNotBl, rdInS, rdNinS, rdRepS, rdIntT, wJoinT, wsTry, wxNil, wxSeq, wxIf, wxRaise, wxDrop, wxSet, wxRet, wxOr, wxCallX, wxLen, wIsc, wIscT, wsAugIt, rdEqB, cxK, cxM, cxKn, cxMn, tyV_n, tyV_e, wxTup, wLcX, rdEqBB, wsDeck, flatE, flat, flatL, Bool.and_true, Bool.true_and, Bool.and_self, wsNil, wsSeq, wsBrk, wsCont, wsNever, wsFrz, wsRet, wsRetN, wsDrop, wsSet, wsSetN, wsSetD, wsTup, wsTupW, wsAug, wsIf, wsIfF, wsIfT, wsApp, wsExt, wsItem, wsFor, wsWhile, wVar, wOwn, wC, w2, w2T, wT, wAnd, wOr, wNot, wAndV, wOrV, wNotV, wIf, waNil, waCons, wTup, wLst, wL, wNeg, rdBin, rdEq, rdNe, rdOrd, rdIsN, rdNotN, wChain, wChain3, wRevT, rdInD, rdNinD, wIx, woN, woS, wSlL, wSlT, wSlS, wCall, wCallF, wCallN, FSpec.W, wItems, wRng1, wRng2, wRngD, wZip, wEnum, wLc, wYes, wBi, rdLen, rd1I, rd2I, rdInt, rdStr, rdTuple, Tg.w, Tg.ix, startE, List.map_cons, List.map_nil, List.cons_append, List.nil_append, List.length_cons, List.length_nil, Nat.add_zero, Nat.zero_add, Nat.reduceAdd, Nat.reduceSub, List.replicate_succ, List.replicate_zero, List.replicate, List.append_nil, List.getElem?_cons_zero, List.getElem?_cons_succ, List.getElem?_nil, List.set_cons_zero, List.set_cons_succ, List.set_nil, wipeE, Option.some.injEq, Sl.v.injEq, Sl.own.injEq, Dv.int.injEq, Dv.bl.injEq, Dv.lst.injEq, Dv.tup.injEq, Dv.str.injEq, Dv.scr.injEq, List.cons.injEq, reduceCtorEq, and_true, true_and, and_false, false_and, exists_eq_left, exists_eq_left', exists_eq_right, exists_eq_right', exists_and_left, exists_and_right, exists_eq, exists_const, false_or, or_false, Bool.false_eq_true, if_true, if_false, ite_true, ite_false, eq_self_iff_true, tyN, tyI, tyB, tyS, tyT, tyL, is_NoneType_int, is_NoneType_bool, is_NoneType_str, is_NoneType_tuple, is_NoneType_list, is_int_int, is_int_bool, is_int_str, is_int_tuple, is_int_list, is_bool_int, is_bool_bool, is_bool_str, is_bool_tuple, is_bool_list, is_str_int, is_str_bool, is_str_str, is_str_tuple, is_str_list, is_tuple_int, is_tuple_bool, is_tuple_str, is_tuple_tuple, is_tuple_list, is_list_int, is_list_bool, is_list_str, is_list_tuple, is_list_list, Bool.or_false, Bool.or_true, Bool.true_or, Bool.false_or, ixT0, ixT1, ixT2, ixT3, ixL0, ixL1, ixL2, ixL3, iff_true, and_assoc, decide_eq_true_eq, Bool.not_eq_true', Bool.not_eq_false', decide_eq_false_iff_not, Bool.not_true, Bool.not_false, bAi, bAs, bAt, bAl, bSi, bMi, bMl, bDi, bRi, bPi, cAi, cAs, cAt, cAl, cSi, cMi, cMl, cDi, cRi, cPi, itL, itT, itR, seL, seT, seR, leL, leT, leR, leS, lcL, lcT, lcR, lcS, xcL, xcT, xcR, xcS, orL, orE, orG, orH, mapI, iff_true, true_iff, iff_false, false_iff, forall_eq, Bool.not_eq_true, Bool.true_eq_false, reduceIte, List.length_append, List.length_range, List.length_map, forall_const, true_imp_iff, Nat.zero_le, Nat.reduceLeDiff, Int.toNat_natCast, Prod.exists, setAll, List.map_eq_nil_iff, mapP, rdMax, rdMin, wSort, rdMinD, rdMaxD, rdSum, wIsi, wIsi2, wIndexI, wGet2, wDIx, wDIn, wsDPut,  exists_const, ge_iff_le, gt_iff_lt])
    have hc : (cutL ns none (some 63)).length ≤ 63 := Nat.le_trans (cutL_le ..) hl
    generalize cutL ns none (some 63) = xs at hc
    refine ⟨by omega, fun l => ⟨cmR (by decide), cmL (by decide), by decide, by decide, eq_ifI (fun _ => ?_) fun _ => ?_⟩⟩
    · refine ⟨by omega, by omega, ?_⟩
      generalize ((xs.sum * 48271 + 7 * (List.length ns : Int) + 5) % 2147483647) = sd
      refine iv_inv (List.range (xs.length + 1)) (fun j => .int ((j : Nat) : Int)) (fun s : List Int => [.v (.scr ns), .own l (.lst (iD s)), .v (.int sd), .no, .no]) (fun i s => s.length = xs.length + 1) (rngD_nat _) (by simp [rngD_length]) ⟨xs ++ [(List.length ns : Int)], by rw [iD_append]; rfl, by simp⟩ (fun i a s J ha hs h => ?_) fun s hs => ?_
      · obtain ⟨rfl, hi⟩ := range_get ha
        obtain ⟨c, _, ec⟩ := ix_ex (ns := s) (z := (a : Nat)) (by omega) (by omega)
        (try simp (config := { maxSteps := 3000000 }) only [rdInI, rdNinI, wDInT, wsPopAt, wsIns, rdIsBl, rdNotBl, rdInS, rdNinS, rdRepS, rdIntT, wJoinT, wsTry, wxNil, wxSeq, wxIf, wxRaise, wxDrop, wxSet, wxRet, wxOr, wxCallX, wxLen, wIsc, wIscT, wsAugIt, rdEqB, cxK, cxM, cxKn, cxMn, tyV_n, tyV_e, wxTup, wLcX, rdEqBB, wsDeck, flatE, flat, flatL, Bool.and_true, Bool.true_and, Bool.and_self, wsNil, wsSeq, wsBrk, wsCont, wsNever, wsFrz, wsRet, wsRetN, wsDrop, wsSet, wsSetN, wsSetD, wsTup, wsTupW, wsAug, wsIf, wsIfF, wsIfT, wsApp, wsExt, wsItem, wsFor, wsWhile, wVar, wOwn, wC, w2, w2T, wT, wAnd, wOr, wNot, wAndV, wOrV, wNotV, wIf, waNil, waCons, wTup, wLst, wL, wNeg, rdBin, rdEq, rdNe, rdOrd, rdIsN, rdNotN, wChain, wChain3, wRevT, rdInD, rdNinD, wIx, woN, woS, wSlL, wSlT, wSlS, wCall, wCallF, wCallN, FSpec.W, wItems, wRng1, wRng2, wRngD, wZip, wEnum, wLc, wYes, wBi, rdLen, rd1I, rd2I, rdInt, rdStr, rdTuple, Tg.w, Tg.ix, startE, List.map_cons, List.map_nil, List.cons_append, List.nil_append, List.length_cons, List.length_nil, Nat.add_zero, Nat.zero_add, Nat.reduceAdd, Nat.reduceSub, List.replicate_succ, List.replicate_zero, List.replicate, List.append_nil, List.getElem?_cons_zero, List.getElem?_cons_succ, List.getElem?_nil, List.set_cons_zero, List.set_cons_succ, List.set_nil, wipeE, Option.some.injEq, Sl.v.injEq, Sl.own.injEq, Dv.int.injEq, Dv.bl.injEq, Dv.lst.injEq, Dv.tup.injEq, Dv.str.injEq, Dv.scr.injEq, List.cons.injEq, reduceCtorEq, and_true, true_and, and_false, false_and, exists_eq_left, exists_eq_left', exists_eq_right, exists_eq_right', exists_and_left, exists_and_right, exists_eq, exists_const, false_or, or_false, Bool.false_eq_true, if_true, if_false, ite_true, ite_false, eq_self_iff_true, tyN, tyI, tyB, tyS, tyT, tyL, is_NoneType_int, is_NoneType_bool, is_NoneType_str, is_NoneType_tuple, is_NoneType_list, is_int_int, is_int_bool, is_int_str, is_int_tuple, is_int_list, is_bool_int, is_bool_bool, is_bool_str, is_bool_tuple, is_bool_list, is_str_int, is_str_bool, is_str_str, is_str_tuple, is_str_list, is_tuple_int, is_tuple_bool, is_tuple_str, is_tuple_tuple, is_tuple_list, is_list_int, is_list_bool, is_list_str, is_list_tuple, is_list_list, Bool.or_false, Bool.or_true, Bool.true_or, Bool.false_or, ixT0, ixT1, ixT2, ixT3, ixL0, ixL1, ixL2, ixL3, iff_true, and_assoc, decide_eq_true_eq, Bool.not_eq_true', Bool.not_eq_false', decide_eq_false_iff_not, Bool.not_true, Bool.not_false, bAi, bAs, bAt, bAl, bSi, bMi, bMl, bDi, bRi, bPi, cAi, cAs, cAt, cAl, cSi, cMi, cMl, cDi, cRi, cPi, itL, itT, itR, seL, seT, seR, leL, leT, leR, leS, lcL, lcT, lcR, lcS, xcL, xcT, xcR, xcS, orL, orE, orG, orH, mapI, iff_true, true_iff, iff_false, false_iff, forall_eq, Bool.not_eq_true, Bool.true_eq_false, reduceIte, List.length_append, List.length_range, List.length_map, forall_const, true_imp_iff, Nat.zero_le, Nat.reduceLeDiff, Int.toNat_natCast, Prod.exists, setAll, List.map_eq_nil_iff, mapP, rdMax, rdMin, wSort, rdMinD, rdMaxD, rdSum, wIsi, wIsi2, wIndexI, wGet2, wDIx, wDIn, wsDPut,  exists_const, ge_iff_le, gt_iff_lt])
        refine ⟨_, ec, ?_⟩
        (try simp (config := { maxSteps := 3000000 }) only [rdInI, rdNinI, wDInT, wsPopAt, wsIns, rdIsBl, rdNotBl, rdInS, rdNinS, rdRepS, rdIntT, wJoinT, wsTry, wxNil, wxSeq, wxIf, wxRaise, wxDrop, wxSet, wxRet, wxOr, wxCallX, wxLen, wIsc, wIscT, wsAugIt, rdEqB, cxK, cxM, cxKn, cxMn, tyV_n, tyV_e, wxTup, wLcX, rdEqBB, wsDeck, flatE, flat, flatL, Bool.and_true, Bool.true_and, Bool.and_self, wsNil, wsSeq, wsBrk, wsCont, wsNever, wsFrz, wsRet, wsRetN, wsDrop, wsSet, wsSetN, wsSetD, wsTup, wsTupW, wsAug, wsIf, wsIfF, wsIfT, wsApp, wsExt, wsItem, wsFor, wsWhile, wVar, wOwn, wC, w2, w2T, wT, wAnd, wOr, wNot, wAndV, wOrV, wNotV, wIf, waNil, waCons, wTup, wLst, wL, wNeg, rdBin, rdEq, rdNe, rdOrd, rdIsN, rdNotN, wChain, wChain3, wRevT, rdInD, rdNinD, wIx, woN, woS, wSlL, wSlT, wSlS, wCall, wCallF, wCallN, FSpec.W, wItems, wRng1, wRng2, wRngD, wZip, wEnum, wLc, wYes, wBi, rdLen, rd1I, rd2I, rdInt, rdStr, rdTuple, Tg.w, Tg.ix, startE, List.map_cons, List.map_nil, List.cons_append, List.nil_append, List.length_cons, List.length_nil, Nat.add_zero, Nat.zero_add, Nat.reduceAdd, Nat.reduceSub, List.replicate_succ, List.replicate_zero, List.replicate, List.append_nil, List.getElem?_cons_zero, List.getElem?_cons_succ, List.getElem?_nil, List.set_cons_zero, List.set_cons_succ, List.set_nil, wipeE, Option.some.injEq, Sl.v.injEq, Sl.own.injEq, Dv.int.injEq, Dv.bl.injEq, Dv.lst.injEq, Dv.tup.injEq, Dv.str.injEq, Dv.scr.injEq, List.cons.injEq, reduceCtorEq, and_true, true_and, and_false, false_and, exists_eq_left, exists_eq_left', exists_eq_right, exists_eq_right', exists_and_left, exists_and_right, exists_eq, exists_const, false_or, or_false, Bool.false_eq_true, if_true, if_false, ite_true, ite_false, eq_self_iff_true, tyN, tyI, tyB, tyS, tyT, tyL, is_NoneType_int, is_NoneType_bool, is_NoneType_str, is_NoneType_tuple, is_NoneType_list, is_int_int, is_int_bool, is_int_str, is_int_tuple, is_int_list, is_bool_int, is_bool_bool, is_bool_str, is_bool_tuple, is_bool_list, is_str_int, is_str_bool, is_str_str, is_str_tuple, is_str_list, is_tuple_int, is_tuple_bool, is_tuple_str, is_tuple_tuple, is_tuple_list, is_list_int, is_list_bool, is_list_str, is_list_tuple, is_list_list, Bool.or_false, Bool.or_true, Bool.true_or, Bool.false_or, ixT0, ixT1, ixT2, ixT3, ixL0, ixL1, ixL2, ixL3, iff_true, and_assoc, decide_eq_true_eq, Bool.not_eq_true', Bool.not_eq_false', decide_eq_false_iff_not, Bool.not_true, Bool.not_false, bAi, bAs, bAt, bAl, bSi, bMi, bMl, bDi, bRi, bPi, cAi, cAs, cAt, cAl, cSi, cMi, cMl, cDi, cRi, cPi, itL, itT, itR, seL, seT, seR, leL, leT, leR, leS, lcL, lcT, lcR, lcS, xcL, xcT, xcR, xcS, orL, orE, orG, orH, mapI, iff_true, true_iff, iff_false, false_iff, forall_eq, Bool.not_eq_true, Bool.true_eq_false, reduceIte, List.length_append, List.length_range, List.length_map, forall_const, true_imp_iff, Nat.zero_le, Nat.reduceLeDiff, Int.toNat_natCast, Prod.exists, setAll, List.map_eq_nil_iff, mapP, rdMax, rdMin, wSort, rdMinD, rdMaxD, rdSum, wIsi, wIsi2, wIndexI, wGet2, wDIx, wDIn, wsDPut,  exists_const, ge_iff_le, gt_iff_lt])
        have b1 : 0 ≤ (c % 2147483587 + 853 * (a : Int) + 11) * 69621 % 2147483629 ∧ (c % 2147483587 + 853 * (a : Int) + 11) * 69621 % 2147483629 < 2147483629 := by omega
        generalize (c % 2147483587 + 853 * (a : Int) + 11) * 69621 % 2147483629 = m1 at b1
        have b2 : 0 ≤ (m1 * m1 + 31 * (a : Int)) % 2147483563 * 16807 % 2147483549 ∧ (m1 * m1 + 31 * (a : Int)) % 2147483563 * 16807 % 2147483549 < 2147483549 := by omega
        generalize (m1 * m1 + 31 * (a : Int)) % 2147483563 * 16807 % 2147483549 = m2 at b2
        refine ⟨by decide, cmL (by decide), cmR (by decide), by decide, cmL (by omega), cmL (by decide), by decide, cmR (by decide), by decide, cmL (by omega), cmR (by decide), cmR (by decide), by decide, a, ixN_nat (by omega), ?_⟩
        have h' := h (s.set a (m2 * m2 * 2147483543 + m2 * 48271 % 2147483579)) (by simp [hs])
        rw [iD, List.map_set] at h'
        exact h'
      · (try simp (config := { maxSteps := 3000000 }) only [rdInI, rdNinI, wDInT, wsPopAt, wsIns, rdIsBl, rdNotBl, rdInS, rdNinS, rdRepS, rdIntT, wJoinT, wsTry, wxNil, wxSeq, wxIf, wxRaise, wxDrop, wxSet, wxRet, wxOr, wxCallX, wxLen, wIsc, wIscT, wsAugIt, rdEqB, cxK, cxM, cxKn, cxMn, tyV_n, tyV_e, wxTup, wLcX, rdEqBB, wsDeck, flatE, flat, flatL, Bool.and_true, Bool.true_and, Bool.and_self, wsNil, wsSeq, wsBrk, wsCont, wsNever, wsFrz, wsRet, wsRetN, wsDrop, wsSet, wsSetN, wsSetD, wsTup, wsTupW, wsAug, wsIf, wsIfF, wsIfT, wsApp, wsExt, wsItem, wsFor, wsWhile, wVar, wOwn, wC, w2, w2T, wT, wAnd, wOr, wNot, wAndV, wOrV, wNotV, wIf, waNil, waCons, wTup, wLst, wL, wNeg, rdBin, rdEq, rdNe, rdOrd, rdIsN, rdNotN, wChain, wChain3, wRevT, rdInD, rdNinD, wIx, woN, woS, wSlL, wSlT, wSlS, wCall, wCallF, wCallN, FSpec.W, wItems, wRng1, wRng2, wRngD, wZip, wEnum, wLc, wYes, wBi, rdLen, rd1I, rd2I, rdInt, rdStr, rdTuple, Tg.w, Tg.ix, startE, List.map_cons, List.map_nil, List.cons_append, List.nil_append, List.length_cons, List.length_nil, Nat.add_zero, Nat.zero_add, Nat.reduceAdd, Nat.reduceSub, List.replicate_succ, List.replicate_zero, List.replicate, List.append_nil, List.getElem?_cons_zero, List.getElem?_cons_succ, List.getElem?_nil, List.set_cons_zero, List.set_cons_succ, List.set_nil, wipeE, Option.some.injEq, Sl.v.injEq, Sl.own.injEq, Dv.int.injEq, Dv.bl.injEq, Dv.lst.injEq, Dv.tup.injEq, Dv.str.injEq, Dv.scr.injEq, List.cons.injEq, reduceCtorEq, and_true, true_and, and_false, false_and, exists_eq_left, exists_eq_left', exists_eq_right, exists_eq_right', exists_and_left, exists_and_right, exists_eq, exists_const, false_or, or_false, Bool.false_eq_true, if_true, if_false, ite_true, ite_false, eq_self_iff_true, tyN, tyI, tyB, tyS, tyT, tyL, is_NoneType_int, is_NoneType_bool, is_NoneType_str, is_NoneType_tuple, is_NoneType_list, is_int_int, is_int_bool, is_int_str, is_int_tuple, is_int_list, is_bool_int, is_bool_bool, is_bool_str, is_bool_tuple, is_bool_list, is_str_int, is_str_bool, is_str_str, is_str_tuple, is_str_list, is_tuple_int, is_tuple_bool, is_tuple_str, is_tuple_tuple, is_tuple_list, is_list_int, is_list_bool, is_list_str, is_list_tuple, is_list_list, Bool.or_false, Bool.or_true, Bool.true_or, Bool.false_or, ixT0, ixT1, ixT2, ixT3, ixL0, ixL1, ixL2, ixL3, iff_true, and_assoc, decide_eq_true_eq, Bool.not_eq_true', Bool.not_eq_false', decide_eq_false_iff_not, Bool.not_true, Bool.not_false, bAi, bAs, bAt, bAl, bSi, bMi, bMl, bDi, bRi, bPi, cAi, cAs, cAt, cAl, cSi, cMi, cMl, cDi, cRi, cPi, itL, itT, itR, seL, seT, seR, leL, leT, leR, leS, lcL, lcT, lcR, lcS, xcL, xcT, xcR, xcS, orL, orE, orG, orH, mapI, iff_true, true_iff, iff_false, false_iff, forall_eq, Bool.not_eq_true, Bool.true_eq_false, reduceIte, List.length_append, List.length_range, List.length_map, forall_const, true_imp_iff, Nat.zero_le, Nat.reduceLeDiff, Int.toNat_natCast, Prod.exists, setAll, List.map_eq_nil_iff, mapP, rdMax, rdMin, wSort, rdMinD, rdMaxD, rdSum, wIsi, wIsi2, wIndexI, wGet2, wDIx, wDIn, wsDPut,  exists_const, ge_iff_le, gt_iff_lt])
        exact q s sd (by omega) (by omega)
    · have h := q (xs ++ [(List.length ns : Int)]) ((xs.sum * 48271 + 7 * (List.length ns : Int) + 5) % 2147483647) (by simp) (by simp; omega)
      rw [iD_append] at h
      exact h⟩

abbrev S_law_take (i : Addr × Addr) : FSpec := ⟨Int, Int, fun a => [.ref i.1, .int a], fun a => 0 < a ∧ a < 2 ^ 64, fun a b => 0 ≤ b ∧ b < a, fun _ b => .int b⟩
theorem ok_law_take (T : Txt K mg) : Cl P w K mg base 1 "_law_take" (spI K RD S_law_take) := by
  obtain ⟨f, fd, F, hm, hb⟩ := T.f_law_take.ex
  refine ⟨f, fd, ["deck", "many"], F.ok sc_law_take (fun vs H Q E h => ?_) (fun cdv A outer s H vs Q E hr h => ?_), hm, F.kp, hb⟩
  · obtain ⟨i, Av, ds, r, _, _, _, a, e, _⟩ := h
    rw [r.length, e]
    rfl
  · obtain ⟨i, Av, ds, r, live, hF, z, a, e, pre, q⟩ := h
    subst e
    cases r with
    | cons r1 rr =>
      cases rr with
      | cons r2 rr =>
        cases rr
        cases r1
        cases r2
        obtain ⟨c, sd, xs, h1, h2, hp, hp2⟩ := z
        refine ⟨_, pss_cons (ps_set (i := 2) sc_law_take.nd rfl (.inl rfl) (pe_op op_mod (pe_ix ix_list (pv 0) pe_int (fun _ _ => rfl)) (pe_callB call_len_seq (by rfl) T.z_len PySem.boot_len (pa_cons (pe_ix ix_list (pv 0) pe_int (fun _ _ => rfl)) pa_nil))))
          (pss_cons (ps_asg (pe_op op_add (pe_ix ix_list (pv 0) pe_int (fun _ _ => rfl)) pe_int) (pg_sub (pv 0) pe_int set_list))
          (pss_cons (ps_set (i := 3) sc_law_take.nd rfl (.inl rfl) (pe_ix ix_list (pe_ix ix_list (pv 0) pe_int (fun _ _ => rfl)) (pv 2) (fun _ _ => rfl)))
          (pss_cons (ps_if (pw_or (pt_cmpR op_eq (pv 3) pe_int (nomark _)) (pw_or1 (pt_cmpR op_eq (pv 3) (pe_un un_neg pe_int) (nomark _)))).pt
            (pss_cons (ps_set (i := 4) sc_law_take.nd rfl (.inl rfl) (pe_op op_mod (pe_op op_mul (pe_op op_mod (pe_op op_add (pe_ix ix_list (pv 0) pe_int (fun _ _ => rfl)) (pe_op op_mul pe_int (pe_ix ix_list (pv 0) pe_int (fun _ _ => rfl)))) pe_int) pe_int) pe_int))
            (pss_cons (ps_set (i := 4) sc_law_take.nd rfl (.inl rfl) (pe_op op_mod (pe_op op_mul (pe_op op_mod (pe_op op_add (pe_op op_mul (pv 4) (pv 4)) (pe_op op_mul pe_int (pe_ix ix_list (pv 0) pe_int (fun _ _ => rfl)))) pe_int) pe_int) pe_int))
            (pss_one (ps_ret (pe_op op_mod (pe_op op_fdivW (pv 4) pe_int) (pv 1)))))) pss_nil)
          (pss_cons (ps_asg (pe_op op_fdivW (pv 3) (pv 1)) (pg_sub (pe_ix ix_list (pv 0) pe_int (fun _ _ => rfl)) (pv 2) set_list))
          (pss_one (ps_ret (pe_op op_mod (pv 3) (pv 1)))))))), ?_⟩
        have pre : 0 < a ∧ a < 2 ^ 64 := pre
        have q : ∀ b : Int, 0 ≤ b ∧ b < a → ∀ (v : V) (H' : Hp), Aft (RD i) H H' → Rep K Av H' v (.int b) → Q v H' := fun b h => q b h
        have hne := RD_ne h1 h2
        have m1 := Int.emod_nonneg c (show (xs.length : Int) ≠ 0 by omega)
        have m2 := Int.emod_lt_of_pos c (show 0 < (xs.length : Int) by omega)
        obtain ⟨j, hj⟩ : ∃ j : Nat, c % (xs.length : Int) = (j : Nat) := ⟨_, (Int.toNat_of_nonneg m1).symm⟩
        have hjl : j < xs.length := by omega
        have hat : atI (xs.map V.int) (c % ((xs.map V.int).length : Nat)) = some (.int xs[j]) := by
          rw [List.length_map, hj]
          exact atI_nat (by rw [List.getElem?_map, List.getElem?_eq_getElem hjl]; rfl)
        have hix : ixN (xs.map V.int).length (c % ((xs.map V.int).length : Nat)) = some j := by
          rw [List.length_map, hj]
          unfold ixN
          rw [if_pos (by omega)]
          simp [hjl]
        generalize xs[j] = cell at hat
        let H1 := upd H i.1 (.lst [.ref i.2, .int (c + 1), .int sd])
        have k1 : H1 i.1 = some (.lst [.ref i.2, .int (c + 1), .int sd]) := upd_same
        have k2 : H1 i.2 = some (.lst (xs.map V.int)) := by
          show upd H i.1 _ i.2 = _
          rw [upd_ne hne]; exact h2
        have e1 : Ext (RD i).F H H1 := Ext.mut h1 (.inl rfl) fun z => z
        refine ⟨.ref i.1, rfl, i.1, _, 1, .int c, rfl, rfl, .inl (.inl h1), rfl, .ref i.1, rfl, i.1, _, 0, .ref i.2, rfl, rfl, .inl (.inl h1), rfl, i.2, _, rfl, .inl (.inl (.inl h2)), c, _, rfl, rfl, by rw [List.length_map]; omega, ?_⟩
        refine ⟨.ref i.1, rfl, i.1, _, 1, .int c, rfl, rfl, .inl (.inl h1), rfl, c, 1, rfl, rfl, .ref i.1, rfl, i.1, _, 1, 1, rfl, rfl, h1, rfl, ?_⟩
        refine ⟨.ref i.1, rfl, i.1, _, 0, .ref i.2, rfl, rfl, .inl (.inl k1), rfl, _, rfl, i.2, _, _, .int cell, rfl, rfl, .inl (.inl k2), hat, ?_⟩
        refine ⟨.int cell, rfl, rfl, _, rfl, ite2 (fun e => iteT ?_) fun e => ?_⟩
        · refine ⟨.ref i.1, rfl, i.1, _, 2, .int sd, rfl, rfl, .inl (.inl k1), rfl, .ref i.1, rfl, i.1, _, 1, .int (c + 1), rfl, rfl, .inl (.inl k1), rfl, 7919, c + 1, rfl, rfl, .inl (by decide), _, _, rfl, rfl, _, 2147483587, rfl, rfl, (show (0 : Int) < 2147483587 by decide), _, 69621, rfl, rfl, .inr (by decide), _, 2147483629, rfl, rfl, (show (0 : Int) < 2147483629 by decide), ?_⟩
          refine ⟨_, rfl, _, rfl, _, _, rfl, rfl, .inl (by omega), .ref i.1, rfl, i.1, _, 1, .int (c + 1), rfl, rfl, .inl (.inl k1), rfl, 31, c + 1, rfl, rfl, .inl (by decide), _, _, rfl, rfl, _, 2147483563, rfl, rfl, (show (0 : Int) < 2147483563 by decide), _, 16807, rfl, rfl, .inr (by decide), _, 2147483549, rfl, rfl, (show (0 : Int) < 2147483549 by decide), ?_⟩
          refine ⟨_, rfl, _, 8, rfl, rfl, cdvI (by decide) (by decide), _, rfl, _, _, rfl, rfl, pre.1, ?_⟩
          exact q _ ⟨Int.emod_nonneg _ (by omega), Int.emod_lt_of_pos _ pre.1⟩ _ _ ⟨e1, ⟨c + 1, sd, xs, k1, k2, hp, hp2⟩, fun _ _ => trivial⟩ (.int _)
        · refine ⟨.int cell, rfl, 1, rfl, rfl, _, rfl, ite2 (fun e => ?_) (fun e => ?_)⟩
          · refine ⟨.ref i.1, rfl, i.1, _, 2, .int sd, rfl, rfl, .inl (.inl k1), rfl, .ref i.1, rfl, i.1, _, 1, .int (c + 1), rfl, rfl, .inl (.inl k1), rfl, 7919, c + 1, rfl, rfl, .inl (by decide), _, _, rfl, rfl, _, 2147483587, rfl, rfl, (show (0 : Int) < 2147483587 by decide), _, 69621, rfl, rfl, .inr (by decide), _, 2147483629, rfl, rfl, (show (0 : Int) < 2147483629 by decide), ?_⟩
            refine ⟨_, rfl, _, rfl, _, _, rfl, rfl, .inl (by omega), .ref i.1, rfl, i.1, _, 1, .int (c + 1), rfl, rfl, .inl (.inl k1), rfl, 31, c + 1, rfl, rfl, .inl (by decide), _, _, rfl, rfl, _, 2147483563, rfl, rfl, (show (0 : Int) < 2147483563 by decide), _, 16807, rfl, rfl, .inr (by decide), _, 2147483549, rfl, rfl, (show (0 : Int) < 2147483549 by decide), ?_⟩
            refine ⟨_, rfl, _, 8, rfl, rfl, cdvI (by decide) (by decide), _, rfl, _, _, rfl, rfl, pre.1, ?_⟩
            exact q _ ⟨Int.emod_nonneg _ (by omega), Int.emod_lt_of_pos _ pre.1⟩ _ _ ⟨e1, ⟨c + 1, sd, xs, k1, k2, hp, hp2⟩, fun _ _ => trivial⟩ (.int _)
          · refine ⟨_, rfl, _, rfl, _, _, rfl, rfl, cdvI pre.1 pre.2, .ref i.1, rfl, i.1, _, 0, .ref i.2, rfl, rfl, .inl (.inl k1), rfl, _, rfl, i.2, _, _, j, rfl, rfl, k2, hix, ?_⟩
            refine ⟨_, rfl, _, rfl, _, _, rfl, rfl, pre.1, ?_⟩
            refine q _ ⟨Int.emod_nonneg _ (by omega), Int.emod_lt_of_pos _ pre.1⟩ _ _ ⟨e1.trans (Ext.mut k2 (.inr rfl) fun z => z), ⟨c + 1, sd, xs.set j (cell / a), ?_, ?_, ?_, ?_⟩, fun _ _ => trivial⟩ (.int _)
            · rw [upd_ne hne.symm]; exact k1
            · rw [upd_same, List.map_set]
            · rw [List.length_set]; exact hp
            · rw [List.length_set]; exact hp2

abbrev S_law_some_number (i : Addr × Addr) : FSpec := ⟨Int, Int, fun a => [.ref i.1, .int a], fun _ => True, fun _ b => -1000000000000 < b ∧ b < 1000000000000, fun _ b => .int b⟩
theorem ok_law_some_number (T : Txt K mg) : Cl P w K mg base 2 "_law_some_number" (spI K RD S_law_some_number) :=
  fn_I (Rf := RD) (Sf := S_law_some_number) T.f_law_some_number sc_law_some_number (fun _ _ => rfl) fun i f cdv A outer s H E hr => ⟨_, (dss_cons (ds_if (dt_eq hr.units (de_var 1).bb de_int.bb) (dss_one (ds_ret (de_bin (de_callR (ok_law_take T) hr (by rfl) (da_cons (de_var 0) (da_cons de_int da_nil))).bb de_int.bb).bb)) dss_nil)
      (dss_cons (ds_if (dt_eq hr.units (de_var 1).bb de_int.bb) (dss_one (ds_ret (de_bin (de_bin (de_callR (ok_law_take T) hr (by rfl) (da_cons (de_var 0) (da_cons de_int da_nil))).bb (de_intB T.z_int (dab_cons (de_eq hr.units (de_callR (ok_law_take T) hr (by rfl) (da_cons (de_var 0) (da_cons de_int da_nil))).bb de_int.bb).bb dab_nil)).bb).bb (de_ix (dn_lst (da_cons de_int (da_cons (de_neg de_int) da_nil))).bb (de_callR (ok_law_take T) hr (by rfl) (da_cons (de_var 0) (da_cons de_int da_nil)))).bb).bb)) dss_nil)
      (dss_cons (ds_if (dt_eq hr.units (de_var 1).bb de_int.bb) (dss_one (ds_ret (de_bin (de_callR (ok_law_take T) hr (by rfl) (da_cons (de_var 0) (da_cons de_int da_nil))).bb de_int.bb).bb)) dss_nil)
      (dss_cons (ds_set (i := 2) sc_law_some_number.nd (de_bin (de_bin (de_callR (ok_law_take T) hr (by rfl) (da_cons (de_var 0) (da_cons (de_bin de_int.bb de_int.bb) da_nil))).bb (de_bin de_int.bb de_int.bb).bb).bb (de_callR (ok_law_take T) hr (by rfl) (da_cons (de_var 0) (da_cons (de_bin de_int.bb de_int.bb) da_nil))).bb))
      (dss_one (ds_ret (de_ix (dn_lst (da_cons (de_var 2) (da_cons (de_bin de_int.bb (de_var 2).bb) (da_cons (de_bin (de_bin de_int.bb de_int.bb).bb de_int.bb) (da_cons (de_bin de_int.bb (de_bin de_int.bb de_int.bb).bb) da_nil))))).bb (de_callR (ok_law_take T) hr (by rfl) (da_cons (de_var 0) (da_cons de_int da_nil)))).bb)))))), fun k Q _ q => by
    have q : ∀ b : Int, -1000000000000 < b ∧ b < 1000000000000 → Q (.int b) := fun b h => q b h
    (try simp (config := { maxSteps := 3000000 }) only [rdInI, rdNinI, wDInT, wsPopAt, wsIns, rdIsBl, rdNotBl, rdInS, rdNinS, rdRepS, rdIntT, wJoinT, wsTry, wxNil, wxSeq, wxIf, wxRaise, wxDrop, wxSet, wxRet, wxOr, wxCallX, wxLen, wIsc, wIscT, wsAugIt, rdEqB, cxK, cxM, cxKn, cxMn, tyV_n, tyV_e, wxTup, wLcX, rdEqBB, wsDeck, flatE, flat, flatL, Bool.and_true, Bool.true_and, Bool.and_self, wsNil, wsSeq, wsBrk, wsCont, wsNever, wsFrz, wsRet, wsRetN, wsDrop, wsSet, wsSetN, wsSetD, wsTup, wsTupW, wsAug, wsIf, wsIfF, wsIfT, wsApp, wsExt, wsItem, wsFor, wsWhile, wVar, wOwn, wC, w2, w2T, wT, wAnd, wOr, wNot, wAndV, wOrV, wNotV, wIf, waNil, waCons, wTup, wLst, wL, wNeg, rdBin, rdEq, rdNe, rdOrd, rdIsN, rdNotN, wChain, wChain3, wRevT, rdInD, rdNinD, wIx, woN, woS, wSlL, wSlT, wSlS, wCall, wCallF, wCallN, FSpec.W, wItems, wRng1, wRng2, wRngD, wZip, wEnum, wLc, wYes, wBi, rdLen, rd1I, rd2I, rdInt, rdStr, rdTuple, Tg.w, Tg.ix, startE, List.map_cons, List.map_nil, List.cons_append, List.nil_append, List.length_cons, List.length_nil, Nat.add_zero, Nat.zero_add, Nat.reduceAdd, Nat.reduceSub, List.replicate_succ, List.replicate_zero, List.replicate, List.append_nil, List.getElem?_cons_zero, List.getElem?_cons_succ, List.getElem?_nil, List.set_cons_zero, List.set_cons_succ, List.set_nil, wipeE, Option.some.injEq, Sl.v.injEq, Sl.own.injEq, Dv.int.injEq, Dv.bl.injEq, Dv.lst.injEq, Dv.tup.injEq, Dv.str.injEq, Dv.scr.injEq, List.cons.injEq, reduceCtorEq, and_true, true_and, and_false, false_and, exists_eq_left, exists_eq_left', exists_eq_right, exists_eq_right', exists_and_left, exists_and_right, exists_eq, exists_const, false_or, or_false, Bool.false_eq_true, if_true, if_false, ite_true, ite_false, eq_self_iff_true, tyN, tyI, tyB, tyS, tyT, tyL, is_NoneType_int, is_NoneType_bool, is_NoneType_str, is_NoneType_tuple, is_NoneType_list, is_int_int, is_int_bool, is_int_str, is_int_tuple, is_int_list, is_bool_int, is_bool_bool, is_bool_str, is_bool_tuple, is_bool_list, is_str_int, is_str_bool, is_str_str, is_str_tuple, is_str_list, is_tuple_int, is_tuple_bool, is_tuple_str, is_tuple_tuple, is_tuple_list, is_list_int, is_list_bool, is_list_str, is_list_tuple, is_list_list, Bool.or_false, Bool.or_true, Bool.true_or, Bool.false_or, ixT0, ixT1, ixT2, ixT3, ixL0, ixL1, ixL2, ixL3, iff_true, and_assoc, decide_eq_true_eq, Bool.not_eq_true', Bool.not_eq_false', decide_eq_false_iff_not, Bool.not_true, Bool.not_false, bAi, bAs, bAt, bAl, bSi, bMi, bMl, bDi, bRi, bPi, cAi, cAs, cAt, cAl, cSi, cMi, cMl, cDi, cRi, cPi, itL, itT, itR, seL, seT, seR, leL, leT, leR, leS, lcL, lcT, lcR, lcS, xcL, xcT, xcR, xcS, orL, orE, orG, orH, mapI, iff_true, true_iff, iff_false, false_iff, forall_eq, Bool.not_eq_true, Bool.true_eq_false, reduceIte, List.length_append, List.length_range, List.length_map, forall_const, true_imp_iff, Nat.zero_le, Nat.reduceLeDiff, Int.toNat_natCast, Prod.exists, setAll, List.map_eq_nil_iff, mapP, rdMax, rdMin, wSort, rdMinD, rdMaxD, rdSum, wIsi, wIsi2, wIndexI, wGet2, wDIx, wDIn, wsDPut,  exists_const, ge_iff_le, gt_iff_lt])
    have e6 : (10 : Int) ^ Int.toNat 6 = 1000000 := by decide
    have e12 : (10 : Int) ^ Int.toNat 12 = 1000000000000 := by decide
    rw [e6, e12]
    have p6 : CPow 10 6 := ⟨by decide, by decide, by decide⟩
    have p12 : CPow 10 12 := ⟨by decide, by decide, by decide⟩
    refine eq_ifI (fun _ => ⟨by decide, by decide, fun b hb => q _ (by omega)⟩) fun _ => eq_ifI (fun _ => ⟨by decide, by decide, fun b hb => ⟨by decide, by decide, fun b1 hb1 => ⟨.inl rfl, fun k hk => ⟨cmR (by split <;> decide), by decide, by decide, fun b2 hb2 => ?_⟩⟩⟩⟩) fun _ => eq_ifI (fun _ => ⟨by decide, by decide, fun b hb => q _ (by omega)⟩) fun _ =>
      ⟨p6, by decide, by decide, fun b hb => ⟨p6, cmR (by decide), p6, by decide, by decide, fun b1 hb1 => ⟨p12, p12, by decide, by decide, fun b2 hb2 => ?_⟩⟩⟩
    · obtain ⟨sg, hsg, esg⟩ := ix_ex (ns := [1, -1]) (z := b2) (by omega) (by simp; omega)
      have hsg : sg = 1 ∨ sg = -1 := by simpa using hsg
      refine ⟨_, esg, _, rfl, cmR (by omega), q _ ?_⟩
      rcases hsg with rfl | rfl <;> cases k <;> simp <;> omega
    · obtain ⟨y, hy, ey⟩ := ix_ex (ns := [b * 1000000 + b1, 0 - (b * 1000000 + b1), 1000000000000 - 1, 1 - 1000000000000]) (z := b2) (by omega) (by simp; omega)
      refine ⟨_, ey, q _ ?_⟩
      simp only [List.mem_cons, List.not_mem_nil, or_false] at hy
      omega⟩

abbrev S_law_row (i : Addr × Addr) : FSpec := ⟨Int, List Int, fun a => [.ref i.1, .int a], fun a => 0 ≤ a ∧ a ≤ 60, fun a b => (b.length : Int) ≤ a ∧ ∀ x ∈ b, -1000000000000 < x ∧ x < 1000000000000, fun _ b => rowD b⟩
theorem ok_law_row (T : Txt K mg) : Cl P w K mg base 3 "_law_row" (spI K RD S_law_row) :=
  fn_I (Rf := RD) (Sf := S_law_row) T.f_law_row sc_law_row (fun _ _ => rfl) fun i f cdv A outer s H E hr => ⟨_, (dss_cons (ds_set (i := 2) sc_law_row.nd (de_ix (dn_lst (da_cons (de_callR (ok_law_take T) hr (by rfl) (da_cons (de_var 0) (da_cons de_int da_nil))) (da_cons (de_callR (ok_law_take T) hr (by rfl) (da_cons (de_var 0) (da_cons de_int da_nil))) (da_cons (de_callR (ok_law_take T) hr (by rfl) (da_cons (de_var 0) (da_cons (de_bin (de_var 1).bb de_int.bb) da_nil))) (da_cons (de_var 1) da_nil))))).bb (de_callR (ok_law_take T) hr (by rfl) (da_cons (de_var 0) (da_cons de_int da_nil)))))
      (dss_cons (ds_set (i := 2) sc_law_row.nd (de_min2 rfl T.z_min (dab_cons (de_var 2).bb (dab_cons (de_var 1).bb dab_nil))))
      (dss_cons (ds_set (i := 3) sc_law_row.nd (de_callR (ok_law_take T) hr (by rfl) (da_cons (de_var 0) (da_cons de_int da_nil))))
      (dss_cons (ds_set (i := 4) sc_law_row.nd (de_callR (ok_law_take T) hr (by rfl) (da_cons (de_var 0) (da_cons de_int da_nil))))
      (dss_cons (ds_if (dt_eq hr.units (de_var 4).bb de_int.bb) (dss_cons (ds_set (i := 5) sc_law_row.nd (dn_lc rfl sc_law_row.nd (t := (.nm 7)) (di_range1 (by rfl) T.z_range (de_bin de_int.bb (de_callR (ok_law_take T) hr (by rfl) (da_cons (de_var 0) (da_cons de_int da_nil))).bb)).bb (blkOk_by (own := [("k", 7)]) (N := ["deck", "most", "many", "kind", "way", "some", "ahead", "k", "one", "other"]) (sc := defScope s_law_row) (by decide +kernel)) rfl (fun _ _ _ _ _ => (pg_name (i := 7) sc_law_row.nd rfl (by first | exact Or.inl rfl | exact Or.inr rfl))) (fun _ _ _ _ _ => dts_nil) (fun _ _ _ _ _ => (de_callR (ok_law_some_number T) hr (by rfl) (da_cons (de_var 0) (da_cons (de_var 3) da_nil))))).ee)
      (dss_one (ds_ret (de_tupleOf T.z_tuple (dab_cons (dn_lc rfl sc_law_row.nd (t := (.nm 7)) (di_range1 (by rfl) T.z_range (de_var 2)).bb (blkOk_by (own := [("k", 7)]) (N := ["deck", "most", "many", "kind", "way", "some", "ahead", "k", "one", "other"]) (sc := defScope s_law_row) (by decide +kernel)) rfl (fun _ _ _ _ _ => (pg_name (i := 7) sc_law_row.nd rfl (by first | exact Or.inl rfl | exact Or.inr rfl))) (fun _ _ _ _ _ => dts_nil) (fun _ _ _ _ _ => (de_ix (de_var 5).bb (de_bin (de_var 7).bb (de_len T.z_len (dab_cons (de_var 5).bb dab_nil)).bb)))).bb dab_nil)).bb))) dss_nil)
      (dss_cons (ds_if (dt_eq hr.units (de_var 4).bb de_int.bb) (dss_cons (ds_set (i := 5) sc_law_row.nd (dn_lc rfl sc_law_row.nd (t := (.nm 7)) (di_range1 (by rfl) T.z_range (de_bin de_int.bb (de_callR (ok_law_take T) hr (by rfl) (da_cons (de_var 0) (da_cons de_int da_nil))).bb)).bb (blkOk_by (own := [("k", 7)]) (N := ["deck", "most", "many", "kind", "way", "some", "ahead", "k", "one", "other"]) (sc := defScope s_law_row) (by decide +kernel)) rfl (fun _ _ _ _ _ => (pg_name (i := 7) sc_law_row.nd rfl (by first | exact Or.inl rfl | exact Or.inr rfl))) (fun _ _ _ _ _ => dts_nil) (fun _ _ _ _ _ => (de_bin (de_callR (ok_law_some_number T) hr (by rfl) (da_cons (de_var 0) (da_cons (de_var 3) da_nil))).bb de_int.bb))).ee)
      (dss_cons (ds_set (i := 6) sc_law_row.nd (dn_cat (dn_lst (da_cons de_int da_nil)).bb (dn_lc rfl sc_law_row.nd (t := (.nm 7)) (di_range1 (by rfl) T.z_range (de_var 2)).bb (blkOk_by (own := [("k", 7)]) (N := ["deck", "most", "many", "kind", "way", "some", "ahead", "k", "one", "other"]) (sc := defScope s_law_row) (by decide +kernel)) rfl (fun _ _ _ _ _ => (pg_name (i := 7) sc_law_row.nd rfl (by first | exact Or.inl rfl | exact Or.inr rfl))) (fun _ _ _ _ _ => dts_nil) (fun _ _ _ _ _ => (de_ix (de_var 5).bb (de_callR (ok_law_take T) hr (by rfl) (da_cons (de_var 0) (da_cons (de_len T.z_len (dab_cons (de_var 5).bb dab_nil)) da_nil)))))).bb).ee)
      (dss_one (ds_ret (de_tupleOf T.z_tuple (dab_cons (dn_lc rfl sc_law_row.nd (t := (.tp [8, 9])) (di_zip (by rfl) T.z_zip (de_var 6) (dn_slice (de_var 6).bb (do_some de_int) do_none).ee).bb (blkOk_by (own := [("one", 8), ("other", 9)]) (N := ["deck", "most", "many", "kind", "way", "some", "ahead", "k", "one", "other"]) (sc := defScope s_law_row) (by decide +kernel)) rfl (fun _ _ _ _ _ => (pg_tup rfl (pgs_cons (pg_name (i := 8) sc_law_row.nd rfl (by first | exact Or.inl rfl | exact Or.inr rfl)) (pgs_cons (pg_name (i := 9) sc_law_row.nd rfl (by first | exact Or.inl rfl | exact Or.inr rfl)) pgs_nil)))) (fun _ _ _ _ _ => dts_nil) (fun _ _ _ _ _ => (de_bin (de_var 9).bb (de_var 8).bb))).bb dab_nil)).bb)))) dss_nil)
      (dss_one (ds_ret (de_tupleOf T.z_tuple (dab_cons (dn_lc rfl sc_law_row.nd (t := (.nm 7)) (di_range1 (by rfl) T.z_range (de_var 2)).bb (blkOk_by (own := [("k", 7)]) (N := ["deck", "most", "many", "kind", "way", "some", "ahead", "k", "one", "other"]) (sc := defScope s_law_row) (by decide +kernel)) rfl (fun _ _ _ _ _ => (pg_name (i := 7) sc_law_row.nd rfl (by first | exact Or.inl rfl | exact Or.inr rfl))) (fun _ _ _ _ _ => dts_nil) (fun _ _ _ _ _ => (de_callR (ok_law_some_number T) hr (by rfl) (da_cons (de_var 0) (da_cons (de_var 3) da_nil))))).bb dab_nil)).bb)))))))), fun mo Q hl q => by
    have hl : 0 ≤ mo ∧ mo ≤ 60 := hl
    have q : ∀ b : List Int, ((b.length : Int) ≤ mo ∧ ∀ x ∈ b, -1000000000000 < x ∧ x < 1000000000000) → Q (rowD b) := fun b h => q b h
    (try simp (config := { maxSteps := 3000000 }) only [rdInI, rdNinI, wDInT, wsPopAt, wsIns, rdIsBl, rdNotBl, rdInS, rdNinS, rdRepS, rdIntT, wJoinT, wsTry, wxNil, wxSeq, wxIf, wxRaise, wxDrop, wxSet, wxRet, wxOr, wxCallX, wxLen, wIsc, wIscT, wsAugIt, rdEqB, cxK, cxM, cxKn, cxMn, tyV_n, tyV_e, wxTup, wLcX, rdEqBB, wsDeck, flatE, flat, flatL, Bool.and_true, Bool.true_and, Bool.and_self, wsNil, wsSeq, wsBrk, wsCont, wsNever, wsFrz, wsRet, wsRetN, wsDrop, wsSet, wsSetN, wsSetD, wsTup, wsTupW, wsAug, wsIf, wsIfF, wsIfT, wsApp, wsExt, wsItem, wsFor, wsWhile, wVar, wOwn, wC, w2, w2T, wT, wAnd, wOr, wNot, wAndV, wOrV, wNotV, wIf, waNil, waCons, wTup, wLst, wL, wNeg, rdBin, rdEq, rdNe, rdOrd, rdIsN, rdNotN, wChain, wChain3, wRevT, rdInD, rdNinD, wIx, woN, woS, wSlL, wSlT, wSlS, wCall, wCallF, wCallN, FSpec.W, wItems, wRng1, wRng2, wRngD, wZip, wEnum, wLc, wYes, wBi, rdLen, rd1I, rd2I, rdInt, rdStr, rdTuple, Tg.w, Tg.ix, startE, List.map_cons, List.map_nil, List.cons_append, List.nil_append, List.length_cons, List.length_nil, Nat.add_zero, Nat.zero_add, Nat.reduceAdd, Nat.reduceSub, List.replicate_succ, List.replicate_zero, List.replicate, List.append_nil, List.getElem?_cons_zero, List.getElem?_cons_succ, List.getElem?_nil, List.set_cons_zero, List.set_cons_succ, List.set_nil, wipeE, Option.some.injEq, Sl.v.injEq, Sl.own.injEq, Dv.int.injEq, Dv.bl.injEq, Dv.lst.injEq, Dv.tup.injEq, Dv.str.injEq, Dv.scr.injEq, List.cons.injEq, reduceCtorEq, and_true, true_and, and_false, false_and, exists_eq_left, exists_eq_left', exists_eq_right, exists_eq_right', exists_and_left, exists_and_right, exists_eq, exists_const, false_or, or_false, Bool.false_eq_true, if_true, if_false, ite_true, ite_false, eq_self_iff_true, tyN, tyI, tyB, tyS, tyT, tyL, is_NoneType_int, is_NoneType_bool, is_NoneType_str, is_NoneType_tuple, is_NoneType_list, is_int_int, is_int_bool, is_int_str, is_int_tuple, is_int_list, is_bool_int, is_bool_bool, is_bool_str, is_bool_tuple, is_bool_list, is_str_int, is_str_bool, is_str_str, is_str_tuple, is_str_list, is_tuple_int, is_tuple_bool, is_tuple_str, is_tuple_tuple, is_tuple_list, is_list_int, is_list_bool, is_list_str, is_list_tuple, is_list_list, Bool.or_false, Bool.or_true, Bool.true_or, Bool.false_or, ixT0, ixT1, ixT2, ixT3, ixL0, ixL1, ixL2, ixL3, iff_true, and_assoc, decide_eq_true_eq, Bool.not_eq_true', Bool.not_eq_false', decide_eq_false_iff_not, Bool.not_true, Bool.not_false, bAi, bAs, bAt, bAl, bSi, bMi, bMl, bDi, bRi, bPi, cAi, cAs, cAt, cAl, cSi, cMi, cMl, cDi, cRi, cPi, itL, itT, itR, seL, seT, seR, leL, leT, leR, leS, lcL, lcT, lcR, lcS, xcL, xcT, xcR, xcS, orL, orE, orG, orH, mapI, iff_true, true_iff, iff_false, false_iff, forall_eq, Bool.not_eq_true, Bool.true_eq_false, reduceIte, List.length_append, List.length_range, List.length_map, forall_const, true_imp_iff, Nat.zero_le, Nat.reduceLeDiff, Int.toNat_natCast, Prod.exists, setAll, List.map_eq_nil_iff, mapP, rdMax, rdMin, wSort, rdMinD, rdMaxD, rdSum, wIsi, wIsi2, wIndexI, wGet2, wDIx, wDIn, wsDPut,  exists_const, ge_iff_le, gt_iff_lt])
    refine ⟨by decide, by decide, fun b hb => ⟨by decide, by decide, fun b1 hb1 => ⟨by omega, by omega, fun b2 hb2 => ⟨by decide, by decide, fun b3 hb3 => ?_⟩⟩⟩⟩
    obtain ⟨n0, hn0, en0⟩ := ix_ex (ns := [b, b1, b2, mo]) (z := b3) (by omega) (by simp; omega)
    have hn0 : 0 ≤ n0 := by
      simp only [List.mem_cons, List.not_mem_nil, or_false] at hn0
      omega
    refine ⟨_, en0, n0, rfl, by decide, by decide, fun kd hkd => ⟨by decide, by decide, fun wy hwy => ?_⟩⟩
    obtain ⟨mn, hmn, hm0, hm1⟩ : ∃ mn : Int, (if mo < n0 then mo else n0) = mn ∧ 0 ≤ mn ∧ mn ≤ mo := ⟨_, rfl, (min_if hl.1 hn0).1, (min_if hl.1 hn0).2⟩
    rw [hmn]
    have sn := fun (z : Int) (h : -1000000000000 < z ∧ z < 1000000000000) => h
    refine eq_ifI (fun _ => ⟨by decide, by decide, fun b5 hb5 => ⟨by omega, by omega, by rw [rngD_length]; omega, rfl, ?_⟩⟩) fun _ => eq_ifI (fun _ => ⟨by decide, by decide, fun b5 hb5 => ⟨by omega, by omega, by rw [rngD_length]; omega, rfl, ?_⟩⟩) fun _ => ?_
    · refine iv_ints (List.range (1 + b5).toNat) (fun j => .int ((j : Nat) : Int)) (fun z => -1000000000000 < z ∧ z < 1000000000000) (rngD_zero rfl) (by simp [rngD_length]) (fun i a acc J ha h => ?_) fun ss hss hsb => ?_
      · (try simp (config := { maxSteps := 3000000 }) only [rdInI, rdNinI, wDInT, wsPopAt, wsIns, rdIsBl, rdNotBl, rdInS, rdNinS, rdRepS, rdIntT, wJoinT, wsTry, wxNil, wxSeq, wxIf, wxRaise, wxDrop, wxSet, wxRet, wxOr, wxCallX, wxLen, wIsc, wIscT, wsAugIt, rdEqB, cxK, cxM, cxKn, cxMn, tyV_n, tyV_e, wxTup, wLcX, rdEqBB, wsDeck, flatE, flat, flatL, Bool.and_true, Bool.true_and, Bool.and_self, wsNil, wsSeq, wsBrk, wsCont, wsNever, wsFrz, wsRet, wsRetN, wsDrop, wsSet, wsSetN, wsSetD, wsTup, wsTupW, wsAug, wsIf, wsIfF, wsIfT, wsApp, wsExt, wsItem, wsFor, wsWhile, wVar, wOwn, wC, w2, w2T, wT, wAnd, wOr, wNot, wAndV, wOrV, wNotV, wIf, waNil, waCons, wTup, wLst, wL, wNeg, rdBin, rdEq, rdNe, rdOrd, rdIsN, rdNotN, wChain, wChain3, wRevT, rdInD, rdNinD, wIx, woN, woS, wSlL, wSlT, wSlS, wCall, wCallF, wCallN, FSpec.W, wItems, wRng1, wRng2, wRngD, wZip, wEnum, wLc, wYes, wBi, rdLen, rd1I, rd2I, rdInt, rdStr, rdTuple, Tg.w, Tg.ix, startE, List.map_cons, List.map_nil, List.cons_append, List.nil_append, List.length_cons, List.length_nil, Nat.add_zero, Nat.zero_add, Nat.reduceAdd, Nat.reduceSub, List.replicate_succ, List.replicate_zero, List.replicate, List.append_nil, List.getElem?_cons_zero, List.getElem?_cons_succ, List.getElem?_nil, List.set_cons_zero, List.set_cons_succ, List.set_nil, wipeE, Option.some.injEq, Sl.v.injEq, Sl.own.injEq, Dv.int.injEq, Dv.bl.injEq, Dv.lst.injEq, Dv.tup.injEq, Dv.str.injEq, Dv.scr.injEq, List.cons.injEq, reduceCtorEq, and_true, true_and, and_false, false_and, exists_eq_left, exists_eq_left', exists_eq_right, exists_eq_right', exists_and_left, exists_and_right, exists_eq, exists_const, false_or, or_false, Bool.false_eq_true, if_true, if_false, ite_true, ite_false, eq_self_iff_true, tyN, tyI, tyB, tyS, tyT, tyL, is_NoneType_int, is_NoneType_bool, is_NoneType_str, is_NoneType_tuple, is_NoneType_list, is_int_int, is_int_bool, is_int_str, is_int_tuple, is_int_list, is_bool_int, is_bool_bool, is_bool_str, is_bool_tuple, is_bool_list, is_str_int, is_str_bool, is_str_str, is_str_tuple, is_str_list, is_tuple_int, is_tuple_bool, is_tuple_str, is_tuple_tuple, is_tuple_list, is_list_int, is_list_bool, is_list_str, is_list_tuple, is_list_list, Bool.or_false, Bool.or_true, Bool.true_or, Bool.false_or, ixT0, ixT1, ixT2, ixT3, ixL0, ixL1, ixL2, ixL3, iff_true, and_assoc, decide_eq_true_eq, Bool.not_eq_true', Bool.not_eq_false', decide_eq_false_iff_not, Bool.not_true, Bool.not_false, bAi, bAs, bAt, bAl, bSi, bMi, bMl, bDi, bRi, bPi, cAi, cAs, cAt, cAl, cSi, cMi, cMl, cDi, cRi, cPi, itL, itT, itR, seL, seT, seR, leL, leT, leR, leS, lcL, lcT, lcR, lcS, xcL, xcT, xcR, xcS, orL, orE, orG, orH, mapI, iff_true, true_iff, iff_false, false_iff, forall_eq, Bool.not_eq_true, Bool.true_eq_false, reduceIte, List.length_append, List.length_range, List.length_map, forall_const, true_imp_iff, Nat.zero_le, Nat.reduceLeDiff, Int.toNat_natCast, Prod.exists, setAll, List.map_eq_nil_iff, mapP, rdMax, rdMin, wSort, rdMinD, rdMaxD, rdSum, wIsi, wIsi2, wIndexI, wGet2, wDIx, wDIn, wsDPut,  exists_const, ge_iff_le, gt_iff_lt])
        exact ⟨⟨_, rfl⟩, h⟩
      · rw [List.length_range] at hss
        (try simp (config := { maxSteps := 3000000 }) only [rdInI, rdNinI, wDInT, wsPopAt, wsIns, rdIsBl, rdNotBl, rdInS, rdNinS, rdRepS, rdIntT, wJoinT, wsTry, wxNil, wxSeq, wxIf, wxRaise, wxDrop, wxSet, wxRet, wxOr, wxCallX, wxLen, wIsc, wIscT, wsAugIt, rdEqB, cxK, cxM, cxKn, cxMn, tyV_n, tyV_e, wxTup, wLcX, rdEqBB, wsDeck, flatE, flat, flatL, Bool.and_true, Bool.true_and, Bool.and_self, wsNil, wsSeq, wsBrk, wsCont, wsNever, wsFrz, wsRet, wsRetN, wsDrop, wsSet, wsSetN, wsSetD, wsTup, wsTupW, wsAug, wsIf, wsIfF, wsIfT, wsApp, wsExt, wsItem, wsFor, wsWhile, wVar, wOwn, wC, w2, w2T, wT, wAnd, wOr, wNot, wAndV, wOrV, wNotV, wIf, waNil, waCons, wTup, wLst, wL, wNeg, rdBin, rdEq, rdNe, rdOrd, rdIsN, rdNotN, wChain, wChain3, wRevT, rdInD, rdNinD, wIx, woN, woS, wSlL, wSlT, wSlS, wCall, wCallF, wCallN, FSpec.W, wItems, wRng1, wRng2, wRngD, wZip, wEnum, wLc, wYes, wBi, rdLen, rd1I, rd2I, rdInt, rdStr, rdTuple, Tg.w, Tg.ix, startE, List.map_cons, List.map_nil, List.cons_append, List.nil_append, List.length_cons, List.length_nil, Nat.add_zero, Nat.zero_add, Nat.reduceAdd, Nat.reduceSub, List.replicate_succ, List.replicate_zero, List.replicate, List.append_nil, List.getElem?_cons_zero, List.getElem?_cons_succ, List.getElem?_nil, List.set_cons_zero, List.set_cons_succ, List.set_nil, wipeE, Option.some.injEq, Sl.v.injEq, Sl.own.injEq, Dv.int.injEq, Dv.bl.injEq, Dv.lst.injEq, Dv.tup.injEq, Dv.str.injEq, Dv.scr.injEq, List.cons.injEq, reduceCtorEq, and_true, true_and, and_false, false_and, exists_eq_left, exists_eq_left', exists_eq_right, exists_eq_right', exists_and_left, exists_and_right, exists_eq, exists_const, false_or, or_false, Bool.false_eq_true, if_true, if_false, ite_true, ite_false, eq_self_iff_true, tyN, tyI, tyB, tyS, tyT, tyL, is_NoneType_int, is_NoneType_bool, is_NoneType_str, is_NoneType_tuple, is_NoneType_list, is_int_int, is_int_bool, is_int_str, is_int_tuple, is_int_list, is_bool_int, is_bool_bool, is_bool_str, is_bool_tuple, is_bool_list, is_str_int, is_str_bool, is_str_str, is_str_tuple, is_str_list, is_tuple_int, is_tuple_bool, is_tuple_str, is_tuple_tuple, is_tuple_list, is_list_int, is_list_bool, is_list_str, is_list_tuple, is_list_list, Bool.or_false, Bool.or_true, Bool.true_or, Bool.false_or, ixT0, ixT1, ixT2, ixT3, ixL0, ixL1, ixL2, ixL3, iff_true, and_assoc, decide_eq_true_eq, Bool.not_eq_true', Bool.not_eq_false', decide_eq_false_iff_not, Bool.not_true, Bool.not_false, bAi, bAs, bAt, bAl, bSi, bMi, bMl, bDi, bRi, bPi, cAi, cAs, cAt, cAl, cSi, cMi, cMl, cDi, cRi, cPi, itL, itT, itR, seL, seT, seR, leL, leT, leR, leS, lcL, lcT, lcR, lcS, xcL, xcT, xcR, xcS, orL, orE, orG, orH, mapI, iff_true, true_iff, iff_false, false_iff, forall_eq, Bool.not_eq_true, Bool.true_eq_false, reduceIte, List.length_append, List.length_range, List.length_map, forall_const, true_imp_iff, Nat.zero_le, Nat.reduceLeDiff, Int.toNat_natCast, Prod.exists, setAll, List.map_eq_nil_iff, mapP, rdMax, rdMin, wSort, rdMinD, rdMaxD, rdSum, wIsi, wIsi2, wIndexI, wGet2, wDIx, wDIn, wsDPut,  exists_const, ge_iff_le, gt_iff_lt])
        refine ⟨by omega, by omega, by rw [rngD_length]; omega, rfl, ?_⟩
        refine iv_ints (List.range mn.toNat) (fun j => .int ((j : Nat) : Int)) (fun z => -1000000000000 < z ∧ z < 1000000000000) (rngD_zero rfl) (by simp [rngD_length]) (fun i a acc J ha h => ?_) fun zs hzs hzb => ?_
        · (try simp (config := { maxSteps := 3000000 }) only [rdInI, rdNinI, wDInT, wsPopAt, wsIns, rdIsBl, rdNotBl, rdInS, rdNinS, rdRepS, rdIntT, wJoinT, wsTry, wxNil, wxSeq, wxIf, wxRaise, wxDrop, wxSet, wxRet, wxOr, wxCallX, wxLen, wIsc, wIscT, wsAugIt, rdEqB, cxK, cxM, cxKn, cxMn, tyV_n, tyV_e, wxTup, wLcX, rdEqBB, wsDeck, flatE, flat, flatL, Bool.and_true, Bool.true_and, Bool.and_self, wsNil, wsSeq, wsBrk, wsCont, wsNever, wsFrz, wsRet, wsRetN, wsDrop, wsSet, wsSetN, wsSetD, wsTup, wsTupW, wsAug, wsIf, wsIfF, wsIfT, wsApp, wsExt, wsItem, wsFor, wsWhile, wVar, wOwn, wC, w2, w2T, wT, wAnd, wOr, wNot, wAndV, wOrV, wNotV, wIf, waNil, waCons, wTup, wLst, wL, wNeg, rdBin, rdEq, rdNe, rdOrd, rdIsN, rdNotN, wChain, wChain3, wRevT, rdInD, rdNinD, wIx, woN, woS, wSlL, wSlT, wSlS, wCall, wCallF, wCallN, FSpec.W, wItems, wRng1, wRng2, wRngD, wZip, wEnum, wLc, wYes, wBi, rdLen, rd1I, rd2I, rdInt, rdStr, rdTuple, Tg.w, Tg.ix, startE, List.map_cons, List.map_nil, List.cons_append, List.nil_append, List.length_cons, List.length_nil, Nat.add_zero, Nat.zero_add, Nat.reduceAdd, Nat.reduceSub, List.replicate_succ, List.replicate_zero, List.replicate, List.append_nil, List.getElem?_cons_zero, List.getElem?_cons_succ, List.getElem?_nil, List.set_cons_zero, List.set_cons_succ, List.set_nil, wipeE, Option.some.injEq, Sl.v.injEq, Sl.own.injEq, Dv.int.injEq, Dv.bl.injEq, Dv.lst.injEq, Dv.tup.injEq, Dv.str.injEq, Dv.scr.injEq, List.cons.injEq, reduceCtorEq, and_true, true_and, and_false, false_and, exists_eq_left, exists_eq_left', exists_eq_right, exists_eq_right', exists_and_left, exists_and_right, exists_eq, exists_const, false_or, or_false, Bool.false_eq_true, if_true, if_false, ite_true, ite_false, eq_self_iff_true, tyN, tyI, tyB, tyS, tyT, tyL, is_NoneType_int, is_NoneType_bool, is_NoneType_str, is_NoneType_tuple, is_NoneType_list, is_int_int, is_int_bool, is_int_str, is_int_tuple, is_int_list, is_bool_int, is_bool_bool, is_bool_str, is_bool_tuple, is_bool_list, is_str_int, is_str_bool, is_str_str, is_str_tuple, is_str_list, is_tuple_int, is_tuple_bool, is_tuple_str, is_tuple_tuple, is_tuple_list, is_list_int, is_list_bool, is_list_str, is_list_tuple, is_list_list, Bool.or_false, Bool.or_true, Bool.true_or, Bool.false_or, ixT0, ixT1, ixT2, ixT3, ixL0, ixL1, ixL2, ixL3, iff_true, and_assoc, decide_eq_true_eq, Bool.not_eq_true', Bool.not_eq_false', decide_eq_false_iff_not, Bool.not_true, Bool.not_false, bAi, bAs, bAt, bAl, bSi, bMi, bMl, bDi, bRi, bPi, cAi, cAs, cAt, cAl, cSi, cMi, cMl, cDi, cRi, cPi, itL, itT, itR, seL, seT, seR, leL, leT, leR, leS, lcL, lcT, lcR, lcS, xcL, xcT, xcR, xcS, orL, orE, orG, orH, mapI, iff_true, true_iff, iff_false, false_iff, forall_eq, Bool.not_eq_true, Bool.true_eq_false, reduceIte, List.length_append, List.length_range, List.length_map, forall_const, true_imp_iff, Nat.zero_le, Nat.reduceLeDiff, Int.toNat_natCast, Prod.exists, setAll, List.map_eq_nil_iff, mapP, rdMax, rdMin, wSort, rdMinD, rdMaxD, rdSum, wIsi, wIsi2, wIndexI, wGet2, wDIx, wDIn, wsDPut,  exists_const, ge_iff_le, gt_iff_lt])
          have m1 := Int.emod_nonneg (a : Int) (show (ss.length : Int) ≠ 0 by omega)
          have m2 := Int.emod_lt_of_pos (a : Int) (show 0 < (ss.length : Int) by omega)
          obtain ⟨c, hc, ec⟩ := ix_ex (ns := ss) m1 m2
          exact ⟨by omega, _, ec, h c (hsb c hc)⟩
        · (try simp (config := { maxSteps := 3000000 }) only [rdInI, rdNinI, wDInT, wsPopAt, wsIns, rdIsBl, rdNotBl, rdInS, rdNinS, rdRepS, rdIntT, wJoinT, wsTry, wxNil, wxSeq, wxIf, wxRaise, wxDrop, wxSet, wxRet, wxOr, wxCallX, wxLen, wIsc, wIscT, wsAugIt, rdEqB, cxK, cxM, cxKn, cxMn, tyV_n, tyV_e, wxTup, wLcX, rdEqBB, wsDeck, flatE, flat, flatL, Bool.and_true, Bool.true_and, Bool.and_self, wsNil, wsSeq, wsBrk, wsCont, wsNever, wsFrz, wsRet, wsRetN, wsDrop, wsSet, wsSetN, wsSetD, wsTup, wsTupW, wsAug, wsIf, wsIfF, wsIfT, wsApp, wsExt, wsItem, wsFor, wsWhile, wVar, wOwn, wC, w2, w2T, wT, wAnd, wOr, wNot, wAndV, wOrV, wNotV, wIf, waNil, waCons, wTup, wLst, wL, wNeg, rdBin, rdEq, rdNe, rdOrd, rdIsN, rdNotN, wChain, wChain3, wRevT, rdInD, rdNinD, wIx, woN, woS, wSlL, wSlT, wSlS, wCall, wCallF, wCallN, FSpec.W, wItems, wRng1, wRng2, wRngD, wZip, wEnum, wLc, wYes, wBi, rdLen, rd1I, rd2I, rdInt, rdStr, rdTuple, Tg.w, Tg.ix, startE, List.map_cons, List.map_nil, List.cons_append, List.nil_append, List.length_cons, List.length_nil, Nat.add_zero, Nat.zero_add, Nat.reduceAdd, Nat.reduceSub, List.replicate_succ, List.replicate_zero, List.replicate, List.append_nil, List.getElem?_cons_zero, List.getElem?_cons_succ, List.getElem?_nil, List.set_cons_zero, List.set_cons_succ, List.set_nil, wipeE, Option.some.injEq, Sl.v.injEq, Sl.own.injEq, Dv.int.injEq, Dv.bl.injEq, Dv.lst.injEq, Dv.tup.injEq, Dv.str.injEq, Dv.scr.injEq, List.cons.injEq, reduceCtorEq, and_true, true_and, and_false, false_and, exists_eq_left, exists_eq_left', exists_eq_right, exists_eq_right', exists_and_left, exists_and_right, exists_eq, exists_const, false_or, or_false, Bool.false_eq_true, if_true, if_false, ite_true, ite_false, eq_self_iff_true, tyN, tyI, tyB, tyS, tyT, tyL, is_NoneType_int, is_NoneType_bool, is_NoneType_str, is_NoneType_tuple, is_NoneType_list, is_int_int, is_int_bool, is_int_str, is_int_tuple, is_int_list, is_bool_int, is_bool_bool, is_bool_str, is_bool_tuple, is_bool_list, is_str_int, is_str_bool, is_str_str, is_str_tuple, is_str_list, is_tuple_int, is_tuple_bool, is_tuple_str, is_tuple_tuple, is_tuple_list, is_list_int, is_list_bool, is_list_str, is_list_tuple, is_list_list, Bool.or_false, Bool.or_true, Bool.true_or, Bool.false_or, ixT0, ixT1, ixT2, ixT3, ixL0, ixL1, ixL2, ixL3, iff_true, and_assoc, decide_eq_true_eq, Bool.not_eq_true', Bool.not_eq_false', decide_eq_false_iff_not, Bool.not_true, Bool.not_false, bAi, bAs, bAt, bAl, bSi, bMi, bMl, bDi, bRi, bPi, cAi, cAs, cAt, cAl, cSi, cMi, cMl, cDi, cRi, cPi, itL, itT, itR, seL, seT, seR, leL, leT, leR, leS, lcL, lcT, lcR, lcS, xcL, xcT, xcR, xcS, orL, orE, orG, orH, mapI, iff_true, true_iff, iff_false, false_iff, forall_eq, Bool.not_eq_true, Bool.true_eq_false, reduceIte, List.length_append, List.length_range, List.length_map, forall_const, true_imp_iff, Nat.zero_le, Nat.reduceLeDiff, Int.toNat_natCast, Prod.exists, setAll, List.map_eq_nil_iff, mapP, rdMax, rdMin, wSort, rdMinD, rdMaxD, rdSum, wIsi, wIsi2, wIndexI, wGet2, wDIx, wDIn, wsDPut,  exists_const, ge_iff_le, gt_iff_lt])
          rw [List.length_range] at hzs
          exact q zs ⟨by omega, hzb⟩
    · refine iv_ints (List.range (1 + b5).toNat) (fun j => .int ((j : Nat) : Int)) (fun z => -500000000000 ≤ z ∧ z < 500000000000) (rngD_zero rfl) (by simp [rngD_length]) (fun i a acc J ha h => ?_) fun ss hss hsb => ?_
      · (try simp (config := { maxSteps := 3000000 }) only [rdInI, rdNinI, wDInT, wsPopAt, wsIns, rdIsBl, rdNotBl, rdInS, rdNinS, rdRepS, rdIntT, wJoinT, wsTry, wxNil, wxSeq, wxIf, wxRaise, wxDrop, wxSet, wxRet, wxOr, wxCallX, wxLen, wIsc, wIscT, wsAugIt, rdEqB, cxK, cxM, cxKn, cxMn, tyV_n, tyV_e, wxTup, wLcX, rdEqBB, wsDeck, flatE, flat, flatL, Bool.and_true, Bool.true_and, Bool.and_self, wsNil, wsSeq, wsBrk, wsCont, wsNever, wsFrz, wsRet, wsRetN, wsDrop, wsSet, wsSetN, wsSetD, wsTup, wsTupW, wsAug, wsIf, wsIfF, wsIfT, wsApp, wsExt, wsItem, wsFor, wsWhile, wVar, wOwn, wC, w2, w2T, wT, wAnd, wOr, wNot, wAndV, wOrV, wNotV, wIf, waNil, waCons, wTup, wLst, wL, wNeg, rdBin, rdEq, rdNe, rdOrd, rdIsN, rdNotN, wChain, wChain3, wRevT, rdInD, rdNinD, wIx, woN, woS, wSlL, wSlT, wSlS, wCall, wCallF, wCallN, FSpec.W, wItems, wRng1, wRng2, wRngD, wZip, wEnum, wLc, wYes, wBi, rdLen, rd1I, rd2I, rdInt, rdStr, rdTuple, Tg.w, Tg.ix, startE, List.map_cons, List.map_nil, List.cons_append, List.nil_append, List.length_cons, List.length_nil, Nat.add_zero, Nat.zero_add, Nat.reduceAdd, Nat.reduceSub, List.replicate_succ, List.replicate_zero, List.replicate, List.append_nil, List.getElem?_cons_zero, List.getElem?_cons_succ, List.getElem?_nil, List.set_cons_zero, List.set_cons_succ, List.set_nil, wipeE, Option.some.injEq, Sl.v.injEq, Sl.own.injEq, Dv.int.injEq, Dv.bl.injEq, Dv.lst.injEq, Dv.tup.injEq, Dv.str.injEq, Dv.scr.injEq, List.cons.injEq, reduceCtorEq, and_true, true_and, and_false, false_and, exists_eq_left, exists_eq_left', exists_eq_right, exists_eq_right', exists_and_left, exists_and_right, exists_eq, exists_const, false_or, or_false, Bool.false_eq_true, if_true, if_false, ite_true, ite_false, eq_self_iff_true, tyN, tyI, tyB, tyS, tyT, tyL, is_NoneType_int, is_NoneType_bool, is_NoneType_str, is_NoneType_tuple, is_NoneType_list, is_int_int, is_int_bool, is_int_str, is_int_tuple, is_int_list, is_bool_int, is_bool_bool, is_bool_str, is_bool_tuple, is_bool_list, is_str_int, is_str_bool, is_str_str, is_str_tuple, is_str_list, is_tuple_int, is_tuple_bool, is_tuple_str, is_tuple_tuple, is_tuple_list, is_list_int, is_list_bool, is_list_str, is_list_tuple, is_list_list, Bool.or_false, Bool.or_true, Bool.true_or, Bool.false_or, ixT0, ixT1, ixT2, ixT3, ixL0, ixL1, ixL2, ixL3, iff_true, and_assoc, decide_eq_true_eq, Bool.not_eq_true', Bool.not_eq_false', decide_eq_false_iff_not, Bool.not_true, Bool.not_false, bAi, bAs, bAt, bAl, bSi, bMi, bMl, bDi, bRi, bPi, cAi, cAs, cAt, cAl, cSi, cMi, cMl, cDi, cRi, cPi, itL, itT, itR, seL, seT, seR, leL, leT, leR, leS, lcL, lcT, lcR, lcS, xcL, xcT, xcR, xcS, orL, orE, orG, orH, mapI, iff_true, true_iff, iff_false, false_iff, forall_eq, Bool.not_eq_true, Bool.true_eq_false, reduceIte, List.length_append, List.length_range, List.length_map, forall_const, true_imp_iff, Nat.zero_le, Nat.reduceLeDiff, Int.toNat_natCast, Prod.exists, setAll, List.map_eq_nil_iff, mapP, rdMax, rdMin, wSort, rdMinD, rdMaxD, rdSum, wIsi, wIsi2, wIndexI, wGet2, wDIx, wDIn, wsDPut,  exists_const, ge_iff_le, gt_iff_lt])
        exact ⟨⟨_, rfl⟩, fun z hz => ⟨cdvI (by decide) (by decide), h _ (by omega)⟩⟩
      · rw [List.length_range] at hss
        (try simp (config := { maxSteps := 3000000 }) only [rdInI, rdNinI, wDInT, wsPopAt, wsIns, rdIsBl, rdNotBl, rdInS, rdNinS, rdRepS, rdIntT, wJoinT, wsTry, wxNil, wxSeq, wxIf, wxRaise, wxDrop, wxSet, wxRet, wxOr, wxCallX, wxLen, wIsc, wIscT, wsAugIt, rdEqB, cxK, cxM, cxKn, cxMn, tyV_n, tyV_e, wxTup, wLcX, rdEqBB, wsDeck, flatE, flat, flatL, Bool.and_true, Bool.true_and, Bool.and_self, wsNil, wsSeq, wsBrk, wsCont, wsNever, wsFrz, wsRet, wsRetN, wsDrop, wsSet, wsSetN, wsSetD, wsTup, wsTupW, wsAug, wsIf, wsIfF, wsIfT, wsApp, wsExt, wsItem, wsFor, wsWhile, wVar, wOwn, wC, w2, w2T, wT, wAnd, wOr, wNot, wAndV, wOrV, wNotV, wIf, waNil, waCons, wTup, wLst, wL, wNeg, rdBin, rdEq, rdNe, rdOrd, rdIsN, rdNotN, wChain, wChain3, wRevT, rdInD, rdNinD, wIx, woN, woS, wSlL, wSlT, wSlS, wCall, wCallF, wCallN, FSpec.W, wItems, wRng1, wRng2, wRngD, wZip, wEnum, wLc, wYes, wBi, rdLen, rd1I, rd2I, rdInt, rdStr, rdTuple, Tg.w, Tg.ix, startE, List.map_cons, List.map_nil, List.cons_append, List.nil_append, List.length_cons, List.length_nil, Nat.add_zero, Nat.zero_add, Nat.reduceAdd, Nat.reduceSub, List.replicate_succ, List.replicate_zero, List.replicate, List.append_nil, List.getElem?_cons_zero, List.getElem?_cons_succ, List.getElem?_nil, List.set_cons_zero, List.set_cons_succ, List.set_nil, wipeE, Option.some.injEq, Sl.v.injEq, Sl.own.injEq, Dv.int.injEq, Dv.bl.injEq, Dv.lst.injEq, Dv.tup.injEq, Dv.str.injEq, Dv.scr.injEq, List.cons.injEq, reduceCtorEq, and_true, true_and, and_false, false_and, exists_eq_left, exists_eq_left', exists_eq_right, exists_eq_right', exists_and_left, exists_and_right, exists_eq, exists_const, false_or, or_false, Bool.false_eq_true, if_true, if_false, ite_true, ite_false, eq_self_iff_true, tyN, tyI, tyB, tyS, tyT, tyL, is_NoneType_int, is_NoneType_bool, is_NoneType_str, is_NoneType_tuple, is_NoneType_list, is_int_int, is_int_bool, is_int_str, is_int_tuple, is_int_list, is_bool_int, is_bool_bool, is_bool_str, is_bool_tuple, is_bool_list, is_str_int, is_str_bool, is_str_str, is_str_tuple, is_str_list, is_tuple_int, is_tuple_bool, is_tuple_str, is_tuple_tuple, is_tuple_list, is_list_int, is_list_bool, is_list_str, is_list_tuple, is_list_list, Bool.or_false, Bool.or_true, Bool.true_or, Bool.false_or, ixT0, ixT1, ixT2, ixT3, ixL0, ixL1, ixL2, ixL3, iff_true, and_assoc, decide_eq_true_eq, Bool.not_eq_true', Bool.not_eq_false', decide_eq_false_iff_not, Bool.not_true, Bool.not_false, bAi, bAs, bAt, bAl, bSi, bMi, bMl, bDi, bRi, bPi, cAi, cAs, cAt, cAl, cSi, cMi, cMl, cDi, cRi, cPi, itL, itT, itR, seL, seT, seR, leL, leT, leR, leS, lcL, lcT, lcR, lcS, xcL, xcT, xcR, xcS, orL, orE, orG, orH, mapI, iff_true, true_iff, iff_false, false_iff, forall_eq, Bool.not_eq_true, Bool.true_eq_false, reduceIte, List.length_append, List.length_range, List.length_map, forall_const, true_imp_iff, Nat.zero_le, Nat.reduceLeDiff, Int.toNat_natCast, Prod.exists, setAll, List.map_eq_nil_iff, mapP, rdMax, rdMin, wSort, rdMinD, rdMaxD, rdSum, wIsi, wIsi2, wIndexI, wGet2, wDIx, wDIn, wsDPut,  exists_const, ge_iff_le, gt_iff_lt])
        refine ⟨by omega, by omega, by rw [rngD_length]; omega, rfl, ?_⟩
        refine iv_ints (List.range mn.toNat) (fun j => .int ((j : Nat) : Int)) (fun z => -500000000000 ≤ z ∧ z < 500000000000) (rngD_zero rfl) (by simp [rngD_length]) (fun i a acc J ha h => ?_) fun ah hah hab => ?_
        · (try simp (config := { maxSteps := 3000000 }) only [rdInI, rdNinI, wDInT, wsPopAt, wsIns, rdIsBl, rdNotBl, rdInS, rdNinS, rdRepS, rdIntT, wJoinT, wsTry, wxNil, wxSeq, wxIf, wxRaise, wxDrop, wxSet, wxRet, wxOr, wxCallX, wxLen, wIsc, wIscT, wsAugIt, rdEqB, cxK, cxM, cxKn, cxMn, tyV_n, tyV_e, wxTup, wLcX, rdEqBB, wsDeck, flatE, flat, flatL, Bool.and_true, Bool.true_and, Bool.and_self, wsNil, wsSeq, wsBrk, wsCont, wsNever, wsFrz, wsRet, wsRetN, wsDrop, wsSet, wsSetN, wsSetD, wsTup, wsTupW, wsAug, wsIf, wsIfF, wsIfT, wsApp, wsExt, wsItem, wsFor, wsWhile, wVar, wOwn, wC, w2, w2T, wT, wAnd, wOr, wNot, wAndV, wOrV, wNotV, wIf, waNil, waCons, wTup, wLst, wL, wNeg, rdBin, rdEq, rdNe, rdOrd, rdIsN, rdNotN, wChain, wChain3, wRevT, rdInD, rdNinD, wIx, woN, woS, wSlL, wSlT, wSlS, wCall, wCallF, wCallN, FSpec.W, wItems, wRng1, wRng2, wRngD, wZip, wEnum, wLc, wYes, wBi, rdLen, rd1I, rd2I, rdInt, rdStr, rdTuple, Tg.w, Tg.ix, startE, List.map_cons, List.map_nil, List.cons_append, List.nil_append, List.length_cons, List.length_nil, Nat.add_zero, Nat.zero_add, Nat.reduceAdd, Nat.reduceSub, List.replicate_succ, List.replicate_zero, List.replicate, List.append_nil, List.getElem?_cons_zero, List.getElem?_cons_succ, List.getElem?_nil, List.set_cons_zero, List.set_cons_succ, List.set_nil, wipeE, Option.some.injEq, Sl.v.injEq, Sl.own.injEq, Dv.int.injEq, Dv.bl.injEq, Dv.lst.injEq, Dv.tup.injEq, Dv.str.injEq, Dv.scr.injEq, List.cons.injEq, reduceCtorEq, and_true, true_and, and_false, false_and, exists_eq_left, exists_eq_left', exists_eq_right, exists_eq_right', exists_and_left, exists_and_right, exists_eq, exists_const, false_or, or_false, Bool.false_eq_true, if_true, if_false, ite_true, ite_false, eq_self_iff_true, tyN, tyI, tyB, tyS, tyT, tyL, is_NoneType_int, is_NoneType_bool, is_NoneType_str, is_NoneType_tuple, is_NoneType_list, is_int_int, is_int_bool, is_int_str, is_int_tuple, is_int_list, is_bool_int, is_bool_bool, is_bool_str, is_bool_tuple, is_bool_list, is_str_int, is_str_bool, is_str_str, is_str_tuple, is_str_list, is_tuple_int, is_tuple_bool, is_tuple_str, is_tuple_tuple, is_tuple_list, is_list_int, is_list_bool, is_list_str, is_list_tuple, is_list_list, Bool.or_false, Bool.or_true, Bool.true_or, Bool.false_or, ixT0, ixT1, ixT2, ixT3, ixL0, ixL1, ixL2, ixL3, iff_true, and_assoc, decide_eq_true_eq, Bool.not_eq_true', Bool.not_eq_false', decide_eq_false_iff_not, Bool.not_true, Bool.not_false, bAi, bAs, bAt, bAl, bSi, bMi, bMl, bDi, bRi, bPi, cAi, cAs, cAt, cAl, cSi, cMi, cMl, cDi, cRi, cPi, itL, itT, itR, seL, seT, seR, leL, leT, leR, leS, lcL, lcT, lcR, lcS, xcL, xcT, xcR, xcS, orL, orE, orG, orH, mapI, iff_true, true_iff, iff_false, false_iff, forall_eq, Bool.not_eq_true, Bool.true_eq_false, reduceIte, List.length_append, List.length_range, List.length_map, forall_const, true_imp_iff, Nat.zero_le, Nat.reduceLeDiff, Int.toNat_natCast, Prod.exists, setAll, List.map_eq_nil_iff, mapP, rdMax, rdMin, wSort, rdMinD, rdMaxD, rdSum, wIsi, wIsi2, wIndexI, wGet2, wDIx, wDIn, wsDPut,  exists_const, ge_iff_le, gt_iff_lt])
          refine ⟨by omega, by omega, fun b6 hb6 => ?_⟩
          obtain ⟨c, hc, ec⟩ := ix_ex (ns := ss) hb6.1 hb6.2
          exact ⟨_, ec, h c (hsb c hc)⟩
        · rw [List.length_range] at hah
          (try simp (config := { maxSteps := 3000000 }) only [rdInI, rdNinI, wDInT, wsPopAt, wsIns, rdIsBl, rdNotBl, rdInS, rdNinS, rdRepS, rdIntT, wJoinT, wsTry, wxNil, wxSeq, wxIf, wxRaise, wxDrop, wxSet, wxRet, wxOr, wxCallX, wxLen, wIsc, wIscT, wsAugIt, rdEqB, cxK, cxM, cxKn, cxMn, tyV_n, tyV_e, wxTup, wLcX, rdEqBB, wsDeck, flatE, flat, flatL, Bool.and_true, Bool.true_and, Bool.and_self, wsNil, wsSeq, wsBrk, wsCont, wsNever, wsFrz, wsRet, wsRetN, wsDrop, wsSet, wsSetN, wsSetD, wsTup, wsTupW, wsAug, wsIf, wsIfF, wsIfT, wsApp, wsExt, wsItem, wsFor, wsWhile, wVar, wOwn, wC, w2, w2T, wT, wAnd, wOr, wNot, wAndV, wOrV, wNotV, wIf, waNil, waCons, wTup, wLst, wL, wNeg, rdBin, rdEq, rdNe, rdOrd, rdIsN, rdNotN, wChain, wChain3, wRevT, rdInD, rdNinD, wIx, woN, woS, wSlL, wSlT, wSlS, wCall, wCallF, wCallN, FSpec.W, wItems, wRng1, wRng2, wRngD, wZip, wEnum, wLc, wYes, wBi, rdLen, rd1I, rd2I, rdInt, rdStr, rdTuple, Tg.w, Tg.ix, startE, List.map_cons, List.map_nil, List.cons_append, List.nil_append, List.length_cons, List.length_nil, Nat.add_zero, Nat.zero_add, Nat.reduceAdd, Nat.reduceSub, List.replicate_succ, List.replicate_zero, List.replicate, List.append_nil, List.getElem?_cons_zero, List.getElem?_cons_succ, List.getElem?_nil, List.set_cons_zero, List.set_cons_succ, List.set_nil, wipeE, Option.some.injEq, Sl.v.injEq, Sl.own.injEq, Dv.int.injEq, Dv.bl.injEq, Dv.lst.injEq, Dv.tup.injEq, Dv.str.injEq, Dv.scr.injEq, List.cons.injEq, reduceCtorEq, and_true, true_and, and_false, false_and, exists_eq_left, exists_eq_left', exists_eq_right, exists_eq_right', exists_and_left, exists_and_right, exists_eq, exists_const, false_or, or_false, Bool.false_eq_true, if_true, if_false, ite_true, ite_false, eq_self_iff_true, tyN, tyI, tyB, tyS, tyT, tyL, is_NoneType_int, is_NoneType_bool, is_NoneType_str, is_NoneType_tuple, is_NoneType_list, is_int_int, is_int_bool, is_int_str, is_int_tuple, is_int_list, is_bool_int, is_bool_bool, is_bool_str, is_bool_tuple, is_bool_list, is_str_int, is_str_bool, is_str_str, is_str_tuple, is_str_list, is_tuple_int, is_tuple_bool, is_tuple_str, is_tuple_tuple, is_tuple_list, is_list_int, is_list_bool, is_list_str, is_list_tuple, is_list_list, Bool.or_false, Bool.or_true, Bool.true_or, Bool.false_or, ixT0, ixT1, ixT2, ixT3, ixL0, ixL1, ixL2, ixL3, iff_true, and_assoc, decide_eq_true_eq, Bool.not_eq_true', Bool.not_eq_false', decide_eq_false_iff_not, Bool.not_true, Bool.not_false, bAi, bAs, bAt, bAl, bSi, bMi, bMl, bDi, bRi, bPi, cAi, cAs, cAt, cAl, cSi, cMi, cMl, cDi, cRi, cPi, itL, itT, itR, seL, seT, seR, leL, leT, leR, leS, lcL, lcT, lcR, lcS, xcL, xcT, xcR, xcS, orL, orE, orG, orH, mapI, iff_true, true_iff, iff_false, false_iff, forall_eq, Bool.not_eq_true, Bool.true_eq_false, reduceIte, List.length_append, List.length_range, List.length_map, forall_const, true_imp_iff, Nat.zero_le, Nat.reduceLeDiff, Int.toNat_natCast, Prod.exists, setAll, List.map_eq_nil_iff, mapP, rdMax, rdMin, wSort, rdMinD, rdMaxD, rdSum, wIsi, wIsi2, wIndexI, wGet2, wDIx, wDIn, wsDPut,  exists_const, ge_iff_le, gt_iff_lt])
          rw [cut1, show (Dv.int 0 :: iD ah) = iD (0 :: ah) from rfl, zipD_ints]
          refine ⟨by omega, by simp; omega, rfl, ?_⟩
          refine iv_ints ((0 :: ah).zip ah) (fun p => .tup [.int p.1, .int p.2]) (fun z => -1000000000000 < z ∧ z < 1000000000000) rfl (by simp) (fun i p acc J hp h => ?_) fun zs hzs hzb => ?_
          · (try simp (config := { maxSteps := 3000000 }) only [rdInI, rdNinI, wDInT, wsPopAt, wsIns, rdIsBl, rdNotBl, rdInS, rdNinS, rdRepS, rdIntT, wJoinT, wsTry, wxNil, wxSeq, wxIf, wxRaise, wxDrop, wxSet, wxRet, wxOr, wxCallX, wxLen, wIsc, wIscT, wsAugIt, rdEqB, cxK, cxM, cxKn, cxMn, tyV_n, tyV_e, wxTup, wLcX, rdEqBB, wsDeck, flatE, flat, flatL, Bool.and_true, Bool.true_and, Bool.and_self, wsNil, wsSeq, wsBrk, wsCont, wsNever, wsFrz, wsRet, wsRetN, wsDrop, wsSet, wsSetN, wsSetD, wsTup, wsTupW, wsAug, wsIf, wsIfF, wsIfT, wsApp, wsExt, wsItem, wsFor, wsWhile, wVar, wOwn, wC, w2, w2T, wT, wAnd, wOr, wNot, wAndV, wOrV, wNotV, wIf, waNil, waCons, wTup, wLst, wL, wNeg, rdBin, rdEq, rdNe, rdOrd, rdIsN, rdNotN, wChain, wChain3, wRevT, rdInD, rdNinD, wIx, woN, woS, wSlL, wSlT, wSlS, wCall, wCallF, wCallN, FSpec.W, wItems, wRng1, wRng2, wRngD, wZip, wEnum, wLc, wYes, wBi, rdLen, rd1I, rd2I, rdInt, rdStr, rdTuple, Tg.w, Tg.ix, startE, List.map_cons, List.map_nil, List.cons_append, List.nil_append, List.length_cons, List.length_nil, Nat.add_zero, Nat.zero_add, Nat.reduceAdd, Nat.reduceSub, List.replicate_succ, List.replicate_zero, List.replicate, List.append_nil, List.getElem?_cons_zero, List.getElem?_cons_succ, List.getElem?_nil, List.set_cons_zero, List.set_cons_succ, List.set_nil, wipeE, Option.some.injEq, Sl.v.injEq, Sl.own.injEq, Dv.int.injEq, Dv.bl.injEq, Dv.lst.injEq, Dv.tup.injEq, Dv.str.injEq, Dv.scr.injEq, List.cons.injEq, reduceCtorEq, and_true, true_and, and_false, false_and, exists_eq_left, exists_eq_left', exists_eq_right, exists_eq_right', exists_and_left, exists_and_right, exists_eq, exists_const, false_or, or_false, Bool.false_eq_true, if_true, if_false, ite_true, ite_false, eq_self_iff_true, tyN, tyI, tyB, tyS, tyT, tyL, is_NoneType_int, is_NoneType_bool, is_NoneType_str, is_NoneType_tuple, is_NoneType_list, is_int_int, is_int_bool, is_int_str, is_int_tuple, is_int_list, is_bool_int, is_bool_bool, is_bool_str, is_bool_tuple, is_bool_list, is_str_int, is_str_bool, is_str_str, is_str_tuple, is_str_list, is_tuple_int, is_tuple_bool, is_tuple_str, is_tuple_tuple, is_tuple_list, is_list_int, is_list_bool, is_list_str, is_list_tuple, is_list_list, Bool.or_false, Bool.or_true, Bool.true_or, Bool.false_or, ixT0, ixT1, ixT2, ixT3, ixL0, ixL1, ixL2, ixL3, iff_true, and_assoc, decide_eq_true_eq, Bool.not_eq_true', Bool.not_eq_false', decide_eq_false_iff_not, Bool.not_true, Bool.not_false, bAi, bAs, bAt, bAl, bSi, bMi, bMl, bDi, bRi, bPi, cAi, cAs, cAt, cAl, cSi, cMi, cMl, cDi, cRi, cPi, itL, itT, itR, seL, seT, seR, leL, leT, leR, leS, lcL, lcT, lcR, lcS, xcL, xcT, xcR, xcS, orL, orE, orG, orH, mapI, iff_true, true_iff, iff_false, false_iff, forall_eq, Bool.not_eq_true, Bool.true_eq_false, reduceIte, List.length_append, List.length_range, List.length_map, forall_const, true_imp_iff, Nat.zero_le, Nat.reduceLeDiff, Int.toNat_natCast, Prod.exists, setAll, List.map_eq_nil_iff, mapP, rdMax, rdMin, wSort, rdMinD, rdMaxD, rdSum, wIsi, wIsi2, wIndexI, wGet2, wDIx, wDIn, wsDPut,  exists_const, ge_iff_le, gt_iff_lt])
            have hm := List.of_mem_zip (List.mem_of_getElem? hp)
            have h2 := hab _ hm.2
            have h1 : -500000000000 ≤ p.1 ∧ p.1 < 500000000000 := (List.mem_cons.mp hm.1).elim (fun z => by rw [z]; omega) (hab _)
            exact h _ (by omega)
          · refine q zs ⟨?_, hzb⟩
            rw [hzs, List.length_zip, List.length_cons]
            omega
    · (try simp (config := { maxSteps := 3000000 }) only [rdInI, rdNinI, wDInT, wsPopAt, wsIns, rdIsBl, rdNotBl, rdInS, rdNinS, rdRepS, rdIntT, wJoinT, wsTry, wxNil, wxSeq, wxIf, wxRaise, wxDrop, wxSet, wxRet, wxOr, wxCallX, wxLen, wIsc, wIscT, wsAugIt, rdEqB, cxK, cxM, cxKn, cxMn, tyV_n, tyV_e, wxTup, wLcX, rdEqBB, wsDeck, flatE, flat, flatL, Bool.and_true, Bool.true_and, Bool.and_self, wsNil, wsSeq, wsBrk, wsCont, wsNever, wsFrz, wsRet, wsRetN, wsDrop, wsSet, wsSetN, wsSetD, wsTup, wsTupW, wsAug, wsIf, wsIfF, wsIfT, wsApp, wsExt, wsItem, wsFor, wsWhile, wVar, wOwn, wC, w2, w2T, wT, wAnd, wOr, wNot, wAndV, wOrV, wNotV, wIf, waNil, waCons, wTup, wLst, wL, wNeg, rdBin, rdEq, rdNe, rdOrd, rdIsN, rdNotN, wChain, wChain3, wRevT, rdInD, rdNinD, wIx, woN, woS, wSlL, wSlT, wSlS, wCall, wCallF, wCallN, FSpec.W, wItems, wRng1, wRng2, wRngD, wZip, wEnum, wLc, wYes, wBi, rdLen, rd1I, rd2I, rdInt, rdStr, rdTuple, Tg.w, Tg.ix, startE, List.map_cons, List.map_nil, List.cons_append, List.nil_append, List.length_cons, List.length_nil, Nat.add_zero, Nat.zero_add, Nat.reduceAdd, Nat.reduceSub, List.replicate_succ, List.replicate_zero, List.replicate, List.append_nil, List.getElem?_cons_zero, List.getElem?_cons_succ, List.getElem?_nil, List.set_cons_zero, List.set_cons_succ, List.set_nil, wipeE, Option.some.injEq, Sl.v.injEq, Sl.own.injEq, Dv.int.injEq, Dv.bl.injEq, Dv.lst.injEq, Dv.tup.injEq, Dv.str.injEq, Dv.scr.injEq, List.cons.injEq, reduceCtorEq, and_true, true_and, and_false, false_and, exists_eq_left, exists_eq_left', exists_eq_right, exists_eq_right', exists_and_left, exists_and_right, exists_eq, exists_const, false_or, or_false, Bool.false_eq_true, if_true, if_false, ite_true, ite_false, eq_self_iff_true, tyN, tyI, tyB, tyS, tyT, tyL, is_NoneType_int, is_NoneType_bool, is_NoneType_str, is_NoneType_tuple, is_NoneType_list, is_int_int, is_int_bool, is_int_str, is_int_tuple, is_int_list, is_bool_int, is_bool_bool, is_bool_str, is_bool_tuple, is_bool_list, is_str_int, is_str_bool, is_str_str, is_str_tuple, is_str_list, is_tuple_int, is_tuple_bool, is_tuple_str, is_tuple_tuple, is_tuple_list, is_list_int, is_list_bool, is_list_str, is_list_tuple, is_list_list, Bool.or_false, Bool.or_true, Bool.true_or, Bool.false_or, ixT0, ixT1, ixT2, ixT3, ixL0, ixL1, ixL2, ixL3, iff_true, and_assoc, decide_eq_true_eq, Bool.not_eq_true', Bool.not_eq_false', decide_eq_false_iff_not, Bool.not_true, Bool.not_false, bAi, bAs, bAt, bAl, bSi, bMi, bMl, bDi, bRi, bPi, cAi, cAs, cAt, cAl, cSi, cMi, cMl, cDi, cRi, cPi, itL, itT, itR, seL, seT, seR, leL, leT, leR, leS, lcL, lcT, lcR, lcS, xcL, xcT, xcR, xcS, orL, orE, orG, orH, mapI, iff_true, true_iff, iff_false, false_iff, forall_eq, Bool.not_eq_true, Bool.true_eq_false, reduceIte, List.length_append, List.length_range, List.length_map, forall_const, true_imp_iff, Nat.zero_le, Nat.reduceLeDiff, Int.toNat_natCast, Prod.exists, setAll, List.map_eq_nil_iff, mapP, rdMax, rdMin, wSort, rdMinD, rdMaxD, rdSum, wIsi, wIsi2, wIndexI, wGet2, wDIx, wDIn, wsDPut,  exists_const, ge_iff_le, gt_iff_lt])
      refine ⟨by omega, by omega, by rw [rngD_length]; omega, rfl, ?_⟩
      refine iv_ints (List.range mn.toNat) (fun j => .int ((j : Nat) : Int)) (fun z => -1000000000000 < z ∧ z < 1000000000000) (rngD_zero rfl) (by simp [rngD_length]) (fun i a acc J ha h => ?_) fun zs hzs hzb => ?_
      · (try simp (config := { maxSteps := 3000000 }) only [rdInI, rdNinI, wDInT, wsPopAt, wsIns, rdIsBl, rdNotBl, rdInS, rdNinS, rdRepS, rdIntT, wJoinT, wsTry, wxNil, wxSeq, wxIf, wxRaise, wxDrop, wxSet, wxRet, wxOr, wxCallX, wxLen, wIsc, wIscT, wsAugIt, rdEqB, cxK, cxM, cxKn, cxMn, tyV_n, tyV_e, wxTup, wLcX, rdEqBB, wsDeck, flatE, flat, flatL, Bool.and_true, Bool.true_and, Bool.and_self, wsNil, wsSeq, wsBrk, wsCont, wsNever, wsFrz, wsRet, wsRetN, wsDrop, wsSet, wsSetN, wsSetD, wsTup, wsTupW, wsAug, wsIf, wsIfF, wsIfT, wsApp, wsExt, wsItem, wsFor, wsWhile, wVar, wOwn, wC, w2, w2T, wT, wAnd, wOr, wNot, wAndV, wOrV, wNotV, wIf, waNil, waCons, wTup, wLst, wL, wNeg, rdBin, rdEq, rdNe, rdOrd, rdIsN, rdNotN, wChain, wChain3, wRevT, rdInD, rdNinD, wIx, woN, woS, wSlL, wSlT, wSlS, wCall, wCallF, wCallN, FSpec.W, wItems, wRng1, wRng2, wRngD, wZip, wEnum, wLc, wYes, wBi, rdLen, rd1I, rd2I, rdInt, rdStr, rdTuple, Tg.w, Tg.ix, startE, List.map_cons, List.map_nil, List.cons_append, List.nil_append, List.length_cons, List.length_nil, Nat.add_zero, Nat.zero_add, Nat.reduceAdd, Nat.reduceSub, List.replicate_succ, List.replicate_zero, List.replicate, List.append_nil, List.getElem?_cons_zero, List.getElem?_cons_succ, List.getElem?_nil, List.set_cons_zero, List.set_cons_succ, List.set_nil, wipeE, Option.some.injEq, Sl.v.injEq, Sl.own.injEq, Dv.int.injEq, Dv.bl.injEq, Dv.lst.injEq, Dv.tup.injEq, Dv.str.injEq, Dv.scr.injEq, List.cons.injEq, reduceCtorEq, and_true, true_and, and_false, false_and, exists_eq_left, exists_eq_left', exists_eq_right, exists_eq_right', exists_and_left, exists_and_right, exists_eq, exists_const, false_or, or_false, Bool.false_eq_true, if_true, if_false, ite_true, ite_false, eq_self_iff_true, tyN, tyI, tyB, tyS, tyT, tyL, is_NoneType_int, is_NoneType_bool, is_NoneType_str, is_NoneType_tuple, is_NoneType_list, is_int_int, is_int_bool, is_int_str, is_int_tuple, is_int_list, is_bool_int, is_bool_bool, is_bool_str, is_bool_tuple, is_bool_list, is_str_int, is_str_bool, is_str_str, is_str_tuple, is_str_list, is_tuple_int, is_tuple_bool, is_tuple_str, is_tuple_tuple, is_tuple_list, is_list_int, is_list_bool, is_list_str, is_list_tuple, is_list_list, Bool.or_false, Bool.or_true, Bool.true_or, Bool.false_or, ixT0, ixT1, ixT2, ixT3, ixL0, ixL1, ixL2, ixL3, iff_true, and_assoc, decide_eq_true_eq, Bool.not_eq_true', Bool.not_eq_false', decide_eq_false_iff_not, Bool.not_true, Bool.not_false, bAi, bAs, bAt, bAl, bSi, bMi, bMl, bDi, bRi, bPi, cAi, cAs, cAt, cAl, cSi, cMi, cMl, cDi, cRi, cPi, itL, itT, itR, seL, seT, seR, leL, leT, leR, leS, lcL, lcT, lcR, lcS, xcL, xcT, xcR, xcS, orL, orE, orG, orH, mapI, iff_true, true_iff, iff_false, false_iff, forall_eq, Bool.not_eq_true, Bool.true_eq_false, reduceIte, List.length_append, List.length_range, List.length_map, forall_const, true_imp_iff, Nat.zero_le, Nat.reduceLeDiff, Int.toNat_natCast, Prod.exists, setAll, List.map_eq_nil_iff, mapP, rdMax, rdMin, wSort, rdMinD, rdMaxD, rdSum, wIsi, wIsi2, wIndexI, wGet2, wDIx, wDIn, wsDPut,  exists_const, ge_iff_le, gt_iff_lt])
        exact ⟨⟨_, rfl⟩, h⟩
      · rw [List.length_range] at hzs
        exact q zs ⟨by omega, hzb⟩⟩

def clsN : Nat → Str
  | 0 => "NoText"
  | 1 => "NoStretch"
  | 2 => "NoRest"
  | 3 => "NoPlace"
  | _ => "NoAsk"
def flagsD (i : Nat) : Dv := .lst ((List.range 7).map fun j => .bl (decide (i = j)))
abbrev S_law_flags : FSpec := .det Nat (fun i => [.exc (clsV mg (clsN i))]) (fun i => i < 5) (fun i => flagsD i)
theorem ok_law_flags (T : Txt K mg) : Cl P w K mg base 1 "_law_flags" (spP K (S_law_flags (mg := mg))) :=
  fn_P T.f_law_flags sc_law_flags (fun _ => rfl) fun f cdv A outer s H E hr => ⟨_, (dss_cons (ds_set (i := 1) sc_law_flags.nd (dn_lst (da_cons (de_isc (K := K) T.z_isinstance (cn_own T.e_NoText) (de_var 0)) (da_cons (de_isc (K := K) T.z_isinstance (cn_own T.e_NoStretch) (de_var 0)) (da_cons (de_isc (K := K) T.z_isinstance (cn_own T.e_NoRest) (de_var 0)) da_nil)))).ee)
      (dss_cons (ds_set (i := 1) sc_law_flags.nd (dn_cat (de_var 1).bb (dn_lst (da_cons (de_isc (K := K) T.z_isinstance (cn_own T.e_NoPlace) (de_var 0)) (da_cons (de_isc (K := K) T.z_isinstance (cn_own T.e_NoAsk) (de_var 0)) da_nil))).bb).ee)
      (dss_one (ds_ret (dn_cat (de_var 1).bb (dn_lst (da_cons (de_not (de_isc (K := K) T.z_isinstance (cn_own T.e_SumError) (de_var 0))) (da_cons (de_not (de_isc (K := K) T.z_isinstance (cn_ty T.z_ValueError rfl) (de_var 0))) da_nil))).bb).bb)))), fun i Q hl q => by
    have q : Q (flagsD i) := q () trivial
    (try simp (config := { maxSteps := 3000000 }) only [rdInI, rdNinI, wDInT, wsPopAt, wsIns, rdIsBl, rdNotBl, rdInS, rdNinS, rdRepS, rdIntT, wJoinT, wsTry, wxNil, wxSeq, wxIf, wxRaise, wxDrop, wxSet, wxRet, wxOr, wxCallX, wxLen, wIsc, wIscT, wsAugIt, rdEqB, cxK, cxM, cxKn, cxMn, tyV_n, tyV_e, wxTup, wLcX, rdEqBB, wsDeck, flatE, flat, flatL, Bool.and_true, Bool.true_and, Bool.and_self, wsNil, wsSeq, wsBrk, wsCont, wsNever, wsFrz, wsRet, wsRetN, wsDrop, wsSet, wsSetN, wsSetD, wsTup, wsTupW, wsAug, wsIf, wsIfF, wsIfT, wsApp, wsExt, wsItem, wsFor, wsWhile, wVar, wOwn, wC, w2, w2T, wT, wAnd, wOr, wNot, wAndV, wOrV, wNotV, wIf, waNil, waCons, wTup, wLst, wL, wNeg, rdBin, rdEq, rdNe, rdOrd, rdIsN, rdNotN, wChain, wChain3, wRevT, rdInD, rdNinD, wIx, woN, woS, wSlL, wSlT, wSlS, wCall, wCallF, wCallN, FSpec.W, wItems, wRng1, wRng2, wRngD, wZip, wEnum, wLc, wYes, wBi, rdLen, rd1I, rd2I, rdInt, rdStr, rdTuple, Tg.w, Tg.ix, startE, List.map_cons, List.map_nil, List.cons_append, List.nil_append, List.length_cons, List.length_nil, Nat.add_zero, Nat.zero_add, Nat.reduceAdd, Nat.reduceSub, List.replicate_succ, List.replicate_zero, List.replicate, List.append_nil, List.getElem?_cons_zero, List.getElem?_cons_succ, List.getElem?_nil, List.set_cons_zero, List.set_cons_succ, List.set_nil, wipeE, Option.some.injEq, Sl.v.injEq, Sl.own.injEq, Dv.int.injEq, Dv.bl.injEq, Dv.lst.injEq, Dv.tup.injEq, Dv.str.injEq, Dv.scr.injEq, List.cons.injEq, reduceCtorEq, and_true, true_and, and_false, false_and, exists_eq_left, exists_eq_left', exists_eq_right, exists_eq_right', exists_and_left, exists_and_right, exists_eq, exists_const, false_or, or_false, Bool.false_eq_true, if_true, if_false, ite_true, ite_false, eq_self_iff_true, tyN, tyI, tyB, tyS, tyT, tyL, is_NoneType_int, is_NoneType_bool, is_NoneType_str, is_NoneType_tuple, is_NoneType_list, is_int_int, is_int_bool, is_int_str, is_int_tuple, is_int_list, is_bool_int, is_bool_bool, is_bool_str, is_bool_tuple, is_bool_list, is_str_int, is_str_bool, is_str_str, is_str_tuple, is_str_list, is_tuple_int, is_tuple_bool, is_tuple_str, is_tuple_tuple, is_tuple_list, is_list_int, is_list_bool, is_list_str, is_list_tuple, is_list_list, Bool.or_false, Bool.or_true, Bool.true_or, Bool.false_or, ixT0, ixT1, ixT2, ixT3, ixL0, ixL1, ixL2, ixL3, iff_true, and_assoc, decide_eq_true_eq, Bool.not_eq_true', Bool.not_eq_false', decide_eq_false_iff_not, Bool.not_true, Bool.not_false, bAi, bAs, bAt, bAl, bSi, bMi, bMl, bDi, bRi, bPi, cAi, cAs, cAt, cAl, cSi, cMi, cMl, cDi, cRi, cPi, itL, itT, itR, seL, seT, seR, leL, leT, leR, leS, lcL, lcT, lcR, lcS, xcL, xcT, xcR, xcS, orL, orE, orG, orH, mapI, iff_true, true_iff, iff_false, false_iff, forall_eq, Bool.not_eq_true, Bool.true_eq_false, reduceIte, List.length_append, List.length_range, List.length_map, forall_const, true_imp_iff, Nat.zero_le, Nat.reduceLeDiff, Int.toNat_natCast, Prod.exists, setAll, List.map_eq_nil_iff, mapP, rdMax, rdMin, wSort, rdMinD, rdMaxD, rdSum, wIsi, wIsi2, wIndexI, wGet2, wDIx, wDIn, wsDPut,  exists_const, ge_iff_le, gt_iff_lt])
    match i, hl, q with
    | 0, _, q =>
      simp only [clsN]
      simp only [T.x_NoAsk_SumError, T.x_NoPlace_SumError, T.x_NoRest_SumError, T.x_NoStretch_SumError, T.x_NoText_SumError, T.i_NoAsk_NoAsk, T.i_NoAsk_NoPlace, T.i_NoAsk_NoRest, T.i_NoAsk_NoStretch, T.i_NoAsk_NoText, T.i_NoAsk_SumError, T.i_NoAsk_ValueError, T.i_NoPlace_NoAsk, T.i_NoPlace_NoPlace, T.i_NoPlace_NoRest, T.i_NoPlace_NoStretch, T.i_NoPlace_NoText, T.i_NoPlace_SumError, T.i_NoPlace_ValueError, T.i_NoRest_NoAsk, T.i_NoRest_NoPlace, T.i_NoRest_NoRest, T.i_NoRest_NoStretch, T.i_NoRest_NoText, T.i_NoRest_SumError, T.i_NoRest_ValueError, T.i_NoStretch_NoAsk, T.i_NoStretch_NoPlace, T.i_NoStretch_NoRest, T.i_NoStretch_NoStretch, T.i_NoStretch_NoText, T.i_NoStretch_SumError, T.i_NoStretch_ValueError, T.i_NoText_NoAsk, T.i_NoText_NoPlace, T.i_NoText_NoRest, T.i_NoText_NoStretch, T.i_NoText_NoText, T.i_NoText_SumError, T.i_NoText_ValueError, T.i_NoneType_NoAsk, T.i_NoneType_NoPlace, T.i_NoneType_NoRest, T.i_NoneType_NoStretch, T.i_NoneType_NoText, T.i_NoneType_SumError, T.i_NoneType_ValueError, PySem.W.kitAny, Option.some.injEq, exists_eq_left, exists_eq_left', Bool.true_eq_false, Bool.false_eq_true, if_false, if_true, reduceIte, reduceCtorEq, Bool.not_true, Bool.not_false]
      have e := T.e_NoText.isc
      exact ⟨e, e, e, e, e, e, e, q⟩
    | 1, _, q =>
      simp only [clsN]
      simp only [T.x_NoAsk_SumError, T.x_NoPlace_SumError, T.x_NoRest_SumError, T.x_NoStretch_SumError, T.x_NoText_SumError, T.i_NoAsk_NoAsk, T.i_NoAsk_NoPlace, T.i_NoAsk_NoRest, T.i_NoAsk_NoStretch, T.i_NoAsk_NoText, T.i_NoAsk_SumError, T.i_NoAsk_ValueError, T.i_NoPlace_NoAsk, T.i_NoPlace_NoPlace, T.i_NoPlace_NoRest, T.i_NoPlace_NoStretch, T.i_NoPlace_NoText, T.i_NoPlace_SumError, T.i_NoPlace_ValueError, T.i_NoRest_NoAsk, T.i_NoRest_NoPlace, T.i_NoRest_NoRest, T.i_NoRest_NoStretch, T.i_NoRest_NoText, T.i_NoRest_SumError, T.i_NoRest_ValueError, T.i_NoStretch_NoAsk, T.i_NoStretch_NoPlace, T.i_NoStretch_NoRest, T.i_NoStretch_NoStretch, T.i_NoStretch_NoText, T.i_NoStretch_SumError, T.i_NoStretch_ValueError, T.i_NoText_NoAsk, T.i_NoText_NoPlace, T.i_NoText_NoRest, T.i_NoText_NoStretch, T.i_NoText_NoText, T.i_NoText_SumError, T.i_NoText_ValueError, T.i_NoneType_NoAsk, T.i_NoneType_NoPlace, T.i_NoneType_NoRest, T.i_NoneType_NoStretch, T.i_NoneType_NoText, T.i_NoneType_SumError, T.i_NoneType_ValueError, PySem.W.kitAny, Option.some.injEq, exists_eq_left, exists_eq_left', Bool.true_eq_false, Bool.false_eq_true, if_false, if_true, reduceIte, reduceCtorEq, Bool.not_true, Bool.not_false]
      have e := T.e_NoStretch.isc
      exact ⟨e, e, e, e, e, e, e, q⟩
    | 2, _, q =>
      simp only [clsN]
      simp only [T.x_NoAsk_SumError, T.x_NoPlace_SumError, T.x_NoRest_SumError, T.x_NoStretch_SumError, T.x_NoText_SumError, T.i_NoAsk_NoAsk, T.i_NoAsk_NoPlace, T.i_NoAsk_NoRest, T.i_NoAsk_NoStretch, T.i_NoAsk_NoText, T.i_NoAsk_SumError, T.i_NoAsk_ValueError, T.i_NoPlace_NoAsk, T.i_NoPlace_NoPlace, T.i_NoPlace_NoRest, T.i_NoPlace_NoStretch, T.i_NoPlace_NoText, T.i_NoPlace_SumError, T.i_NoPlace_ValueError, T.i_NoRest_NoAsk, T.i_NoRest_NoPlace, T.i_NoRest_NoRest, T.i_NoRest_NoStretch, T.i_NoRest_NoText, T.i_NoRest_SumError, T.i_NoRest_ValueError, T.i_NoStretch_NoAsk, T.i_NoStretch_NoPlace, T.i_NoStretch_NoRest, T.i_NoStretch_NoStretch, T.i_NoStretch_NoText, T.i_NoStretch_SumError, T.i_NoStretch_ValueError, T.i_NoText_NoAsk, T.i_NoText_NoPlace, T.i_NoText_NoRest, T.i_NoText_NoStretch, T.i_NoText_NoText, T.i_NoText_SumError, T.i_NoText_ValueError, T.i_NoneType_NoAsk, T.i_NoneType_NoPlace, T.i_NoneType_NoRest, T.i_NoneType_NoStretch, T.i_NoneType_NoText, T.i_NoneType_SumError, T.i_NoneType_ValueError, PySem.W.kitAny, Option.some.injEq, exists_eq_left, exists_eq_left', Bool.true_eq_false, Bool.false_eq_true, if_false, if_true, reduceIte, reduceCtorEq, Bool.not_true, Bool.not_false]
      have e := T.e_NoRest.isc
      exact ⟨e, e, e, e, e, e, e, q⟩
    | 3, _, q =>
      simp only [clsN]
      simp only [T.x_NoAsk_SumError, T.x_NoPlace_SumError, T.x_NoRest_SumError, T.x_NoStretch_SumError, T.x_NoText_SumError, T.i_NoAsk_NoAsk, T.i_NoAsk_NoPlace, T.i_NoAsk_NoRest, T.i_NoAsk_NoStretch, T.i_NoAsk_NoText, T.i_NoAsk_SumError, T.i_NoAsk_ValueError, T.i_NoPlace_NoAsk, T.i_NoPlace_NoPlace, T.i_NoPlace_NoRest, T.i_NoPlace_NoStretch, T.i_NoPlace_NoText, T.i_NoPlace_SumError, T.i_NoPlace_ValueError, T.i_NoRest_NoAsk, T.i_NoRest_NoPlace, T.i_NoRest_NoRest, T.i_NoRest_NoStretch, T.i_NoRest_NoText, T.i_NoRest_SumError, T.i_NoRest_ValueError, T.i_NoStretch_NoAsk, T.i_NoStretch_NoPlace, T.i_NoStretch_NoRest, T.i_NoStretch_NoStretch, T.i_NoStretch_NoText, T.i_NoStretch_SumError, T.i_NoStretch_ValueError, T.i_NoText_NoAsk, T.i_NoText_NoPlace, T.i_NoText_NoRest, T.i_NoText_NoStretch, T.i_NoText_NoText, T.i_NoText_SumError, T.i_NoText_ValueError, T.i_NoneType_NoAsk, T.i_NoneType_NoPlace, T.i_NoneType_NoRest, T.i_NoneType_NoStretch, T.i_NoneType_NoText, T.i_NoneType_SumError, T.i_NoneType_ValueError, PySem.W.kitAny, Option.some.injEq, exists_eq_left, exists_eq_left', Bool.true_eq_false, Bool.false_eq_true, if_false, if_true, reduceIte, reduceCtorEq, Bool.not_true, Bool.not_false]
      have e := T.e_NoPlace.isc
      exact ⟨e, e, e, e, e, e, e, q⟩
    | 4, _, q =>
      simp only [clsN]
      simp only [T.x_NoAsk_SumError, T.x_NoPlace_SumError, T.x_NoRest_SumError, T.x_NoStretch_SumError, T.x_NoText_SumError, T.i_NoAsk_NoAsk, T.i_NoAsk_NoPlace, T.i_NoAsk_NoRest, T.i_NoAsk_NoStretch, T.i_NoAsk_NoText, T.i_NoAsk_SumError, T.i_NoAsk_ValueError, T.i_NoPlace_NoAsk, T.i_NoPlace_NoPlace, T.i_NoPlace_NoRest, T.i_NoPlace_NoStretch, T.i_NoPlace_NoText, T.i_NoPlace_SumError, T.i_NoPlace_ValueError, T.i_NoRest_NoAsk, T.i_NoRest_NoPlace, T.i_NoRest_NoRest, T.i_NoRest_NoStretch, T.i_NoRest_NoText, T.i_NoRest_SumError, T.i_NoRest_ValueError, T.i_NoStretch_NoAsk, T.i_NoStretch_NoPlace, T.i_NoStretch_NoRest, T.i_NoStretch_NoStretch, T.i_NoStretch_NoText, T.i_NoStretch_SumError, T.i_NoStretch_ValueError, T.i_NoText_NoAsk, T.i_NoText_NoPlace, T.i_NoText_NoRest, T.i_NoText_NoStretch, T.i_NoText_NoText, T.i_NoText_SumError, T.i_NoText_ValueError, T.i_NoneType_NoAsk, T.i_NoneType_NoPlace, T.i_NoneType_NoRest, T.i_NoneType_NoStretch, T.i_NoneType_NoText, T.i_NoneType_SumError, T.i_NoneType_ValueError, PySem.W.kitAny, Option.some.injEq, exists_eq_left, exists_eq_left', Bool.true_eq_false, Bool.false_eq_true, if_false, if_true, reduceIte, reduceCtorEq, Bool.not_true, Bool.not_false]
      have e := T.e_NoAsk.isc
      exact ⟨e, e, e, e, e, e, e, q⟩⟩

/-- what the law compares: whole numbers, None, texts, tuples and lists of such, less than n deep -/
def akin : Nat → Dv → Bool
  | _, .non => true
  | _, .int _ => true
  | _, .str _ => true
  | n + 1, .tup ds => decide (ds.length ≤ 100000) && ds.all (akin n)
  | n + 1, .lst ds => decide (ds.length ≤ 100000) && ds.all (akin n)
  | _, _ => false
theorem zipD_self : ∀ ds : List Dv, zipD ds ds = ds.map fun d => .tup [d, d]
  | [] => rfl
  | d :: r => by
    have ih := zipD_self r
    unfold zipD at ih ⊢
    rw [List.zip_cons_cons, List.map_cons, List.map_cons, ih]
abbrev S_law_same (n : Nat) : FSpec := .det Dv (fun d => [d, d]) (fun d => ∃ m, m < n ∧ akin m d = true) (fun _ => .bl true)
theorem ok_law_same (T : Txt K mg) : ∀ n : Nat, Cl P w K mg base (n + 1) "_law_same" (spP K (S_law_same n))
  | 0 => fn_P T.f_law_same sc_law_same (fun _ => rfl) fun f cdv A outer s H E hr => ⟨_, dss_never, fun d Q ⟨m, h, _⟩ q => absurd h (Nat.not_lt_zero m)⟩
  | n + 1 => by
    have c := ok_law_same T n
    exact fn_P T.f_law_same sc_law_same (fun _ => rfl) fun f cdv A outer s H E hr => ⟨_, (dss_cons (ds_if (dt_val (de_isi2 (T := "tuple") (U := "list") T.z_isinstance T.z_tuple boot_tuple (by decide) T.z_list boot_list (by decide) (de_var 1).bb)) (dss_cons (ds_if (dw_or (dt_ne hr.units (de_isi (T := "tuple") T.z_isinstance T.z_tuple boot_tuple (by decide) (de_var 0).bb).bb (de_isi (T := "tuple") T.z_isinstance T.z_tuple boot_tuple (by decide) (de_var 1).bb).bb) (dw_or1 (dt_ne hr.units (de_isi (T := "list") T.z_isinstance T.z_list boot_list (by decide) (de_var 0).bb).bb (de_isi (T := "list") T.z_isinstance T.z_list boot_list (by decide) (de_var 1).bb).bb))).tt (dss_one (ds_ret de_bl.bb)) dss_nil)
      (dss_cons (ds_if (dt_ne hr.units (de_len T.z_len (dab_cons (de_var 0).bb dab_nil)).bb (de_len T.z_len (dab_cons (de_var 1).bb dab_nil)).bb) (dss_one (ds_ret de_bl.bb)) dss_nil)
      (dss_one (ds_ret (de_eq hr.units (dn_lc rfl sc_law_same.nd (t := (.tp [2, 3])) (di_zip (by rfl) T.z_zip (de_var 0) (de_var 1)).bb (blkOk_by (own := [("one", 2), ("other", 3)]) (N := ["found", "due", "one", "other"]) (sc := defScope s_law_same) (by decide +kernel)) rfl (fun _ _ _ _ _ => (pg_tup rfl (pgs_cons (pg_name (i := 2) sc_law_same.nd rfl (by first | exact Or.inl rfl | exact Or.inr rfl)) (pgs_cons (pg_name (i := 3) sc_law_same.nd rfl (by first | exact Or.inl rfl | exact Or.inr rfl)) pgs_nil)))) (fun _ _ _ _ _ => (dts_one (dt_not (dt_val (de_call c hr (by rfl) (da_cons (de_var 2) (da_cons (de_var 3) da_nil)) (hk := Nat.le_refl _)))))) (fun _ _ _ _ _ => de_int)).bb (dn_lst da_nil).bb).bb)))) dss_nil)
      (dss_cons (ds_if (dw_or (dt_isN (de_var 1).bb de_non.bb) (dw_or1 (dt_val (de_isi (T := "str") T.z_isinstance T.z_str boot_str (by decide) (de_var 1).bb)))).tt (dss_one (ds_ret (de_and (de_eq hr.units (de_var 0).bb (de_var 1).bb) (de_one (de_eq hr.units (de_isi (T := "str") T.z_isinstance T.z_str boot_str (by decide) (de_var 0).bb).bb (de_isi (T := "str") T.z_isinstance T.z_str boot_str (by decide) (de_var 1).bb).bb))).bb)) dss_nil)
      (dss_one (ds_ret (de_and (de_isi (T := "int") T.z_isinstance T.z_int boot_int (by decide) (de_var 0).bb) (de_and (de_not (de_isi (T := "bool") T.z_isinstance T.z_bool boot_bool (by decide) (de_var 0).bb)) (de_one (de_eq hr.units (de_var 0).bb (de_var 1).bb)))).bb)))), fun d Q hl q => by
      have q' : Q (.bl true) := q () trivial
      obtain ⟨m, hm, hd⟩ := hl
      cases d with
      | non =>
        (try simp (config := { maxSteps := 3000000 }) only [rdInI, rdNinI, wDInT, wsPopAt, wsIns, rdIsBl, rdNotBl, rdInS, rdNinS, rdRepS, rdIntT, wJoinT, wsTry, wxNil, wxSeq, wxIf, wxRaise, wxDrop, wxSet, wxRet, wxOr, wxCallX, wxLen, wIsc, wIscT, wsAugIt, rdEqB, cxK, cxM, cxKn, cxMn, tyV_n, tyV_e, wxTup, wLcX, rdEqBB, wsDeck, flatE, flat, flatL, Bool.and_true, Bool.true_and, Bool.and_self, wsNil, wsSeq, wsBrk, wsCont, wsNever, wsFrz, wsRet, wsRetN, wsDrop, wsSet, wsSetN, wsSetD, wsTup, wsTupW, wsAug, wsIf, wsIfF, wsIfT, wsApp, wsExt, wsItem, wsFor, wsWhile, wVar, wOwn, wC, w2, w2T, wT, wAnd, wOr, wNot, wAndV, wOrV, wNotV, wIf, waNil, waCons, wTup, wLst, wL, wNeg, rdBin, rdEq, rdNe, rdOrd, rdIsN, rdNotN, wChain, wChain3, wRevT, rdInD, rdNinD, wIx, woN, woS, wSlL, wSlT, wSlS, wCall, wCallF, wCallN, FSpec.W, wItems, wRng1, wRng2, wRngD, wZip, wEnum, wLc, wYes, wBi, rdLen, rd1I, rd2I, rdInt, rdStr, rdTuple, Tg.w, Tg.ix, startE, List.map_cons, List.map_nil, List.cons_append, List.nil_append, List.length_cons, List.length_nil, Nat.add_zero, Nat.zero_add, Nat.reduceAdd, Nat.reduceSub, List.replicate_succ, List.replicate_zero, List.replicate, List.append_nil, List.getElem?_cons_zero, List.getElem?_cons_succ, List.getElem?_nil, List.set_cons_zero, List.set_cons_succ, List.set_nil, wipeE, Option.some.injEq, Sl.v.injEq, Sl.own.injEq, Dv.int.injEq, Dv.bl.injEq, Dv.lst.injEq, Dv.tup.injEq, Dv.str.injEq, Dv.scr.injEq, List.cons.injEq, reduceCtorEq, and_true, true_and, and_false, false_and, exists_eq_left, exists_eq_left', exists_eq_right, exists_eq_right', exists_and_left, exists_and_right, exists_eq, exists_const, false_or, or_false, Bool.false_eq_true, if_true, if_false, ite_true, ite_false, eq_self_iff_true, tyN, tyI, tyB, tyS, tyT, tyL, is_NoneType_int, is_NoneType_bool, is_NoneType_str, is_NoneType_tuple, is_NoneType_list, is_int_int, is_int_bool, is_int_str, is_int_tuple, is_int_list, is_bool_int, is_bool_bool, is_bool_str, is_bool_tuple, is_bool_list, is_str_int, is_str_bool, is_str_str, is_str_tuple, is_str_list, is_tuple_int, is_tuple_bool, is_tuple_str, is_tuple_tuple, is_tuple_list, is_list_int, is_list_bool, is_list_str, is_list_tuple, is_list_list, Bool.or_false, Bool.or_true, Bool.true_or, Bool.false_or, ixT0, ixT1, ixT2, ixT3, ixL0, ixL1, ixL2, ixL3, iff_true, and_assoc, decide_eq_true_eq, Bool.not_eq_true', Bool.not_eq_false', decide_eq_false_iff_not, Bool.not_true, Bool.not_false, bAi, bAs, bAt, bAl, bSi, bMi, bMl, bDi, bRi, bPi, cAi, cAs, cAt, cAl, cSi, cMi, cMl, cDi, cRi, cPi, itL, itT, itR, seL, seT, seR, leL, leT, leR, leS, lcL, lcT, lcR, lcS, xcL, xcT, xcR, xcS, orL, orE, orG, orH, mapI, iff_true, true_iff, iff_false, false_iff, forall_eq, Bool.not_eq_true, Bool.true_eq_false, reduceIte, List.length_append, List.length_range, List.length_map, forall_const, true_imp_iff, Nat.zero_le, Nat.reduceLeDiff, Int.toNat_natCast, Prod.exists, setAll, List.map_eq_nil_iff, mapP, rdMax, rdMin, wSort, rdMinD, rdMaxD, rdSum, wIsi, wIsi2, wIndexI, wGet2, wDIx, wDIn, wsDPut,  exists_const, ge_iff_le, gt_iff_lt])
        exact ⟨.inl rfl, .inl rfl, q'⟩
      | int i =>
        (try simp (config := { maxSteps := 3000000 }) only [rdInI, rdNinI, wDInT, wsPopAt, wsIns, rdIsBl, rdNotBl, rdInS, rdNinS, rdRepS, rdIntT, wJoinT, wsTry, wxNil, wxSeq, wxIf, wxRaise, wxDrop, wxSet, wxRet, wxOr, wxCallX, wxLen, wIsc, wIscT, wsAugIt, rdEqB, cxK, cxM, cxKn, cxMn, tyV_n, tyV_e, wxTup, wLcX, rdEqBB, wsDeck, flatE, flat, flatL, Bool.and_true, Bool.true_and, Bool.and_self, wsNil, wsSeq, wsBrk, wsCont, wsNever, wsFrz, wsRet, wsRetN, wsDrop, wsSet, wsSetN, wsSetD, wsTup, wsTupW, wsAug, wsIf, wsIfF, wsIfT, wsApp, wsExt, wsItem, wsFor, wsWhile, wVar, wOwn, wC, w2, w2T, wT, wAnd, wOr, wNot, wAndV, wOrV, wNotV, wIf, waNil, waCons, wTup, wLst, wL, wNeg, rdBin, rdEq, rdNe, rdOrd, rdIsN, rdNotN, wChain, wChain3, wRevT, rdInD, rdNinD, wIx, woN, woS, wSlL, wSlT, wSlS, wCall, wCallF, wCallN, FSpec.W, wItems, wRng1, wRng2, wRngD, wZip, wEnum, wLc, wYes, wBi, rdLen, rd1I, rd2I, rdInt, rdStr, rdTuple, Tg.w, Tg.ix, startE, List.map_cons, List.map_nil, List.cons_append, List.nil_append, List.length_cons, List.length_nil, Nat.add_zero, Nat.zero_add, Nat.reduceAdd, Nat.reduceSub, List.replicate_succ, List.replicate_zero, List.replicate, List.append_nil, List.getElem?_cons_zero, List.getElem?_cons_succ, List.getElem?_nil, List.set_cons_zero, List.set_cons_succ, List.set_nil, wipeE, Option.some.injEq, Sl.v.injEq, Sl.own.injEq, Dv.int.injEq, Dv.bl.injEq, Dv.lst.injEq, Dv.tup.injEq, Dv.str.injEq, Dv.scr.injEq, List.cons.injEq, reduceCtorEq, and_true, true_and, and_false, false_and, exists_eq_left, exists_eq_left', exists_eq_right, exists_eq_right', exists_and_left, exists_and_right, exists_eq, exists_const, false_or, or_false, Bool.false_eq_true, if_true, if_false, ite_true, ite_false, eq_self_iff_true, tyN, tyI, tyB, tyS, tyT, tyL, is_NoneType_int, is_NoneType_bool, is_NoneType_str, is_NoneType_tuple, is_NoneType_list, is_int_int, is_int_bool, is_int_str, is_int_tuple, is_int_list, is_bool_int, is_bool_bool, is_bool_str, is_bool_tuple, is_bool_list, is_str_int, is_str_bool, is_str_str, is_str_tuple, is_str_list, is_tuple_int, is_tuple_bool, is_tuple_str, is_tuple_tuple, is_tuple_list, is_list_int, is_list_bool, is_list_str, is_list_tuple, is_list_list, Bool.or_false, Bool.or_true, Bool.true_or, Bool.false_or, ixT0, ixT1, ixT2, ixT3, ixL0, ixL1, ixL2, ixL3, iff_true, and_assoc, decide_eq_true_eq, Bool.not_eq_true', Bool.not_eq_false', decide_eq_false_iff_not, Bool.not_true, Bool.not_false, bAi, bAs, bAt, bAl, bSi, bMi, bMl, bDi, bRi, bPi, cAi, cAs, cAt, cAl, cSi, cMi, cMl, cDi, cRi, cPi, itL, itT, itR, seL, seT, seR, leL, leT, leR, leS, lcL, lcT, lcR, lcS, xcL, xcT, xcR, xcS, orL, orE, orG, orH, mapI, iff_true, true_iff, iff_false, false_iff, forall_eq, Bool.not_eq_true, Bool.true_eq_false, reduceIte, List.length_append, List.length_range, List.length_map, forall_const, true_imp_iff, Nat.zero_le, Nat.reduceLeDiff, Int.toNat_natCast, Prod.exists, setAll, List.map_eq_nil_iff, mapP, rdMax, rdMin, wSort, rdMinD, rdMaxD, rdSum, wIsi, wIsi2, wIndexI, wGet2, wDIx, wDIn, wsDPut,  exists_const, ge_iff_le, gt_iff_lt])
        exact ⟨.inl rfl, q'⟩
      | str x =>
        (try simp (config := { maxSteps := 3000000 }) only [rdInI, rdNinI, wDInT, wsPopAt, wsIns, rdIsBl, rdNotBl, rdInS, rdNinS, rdRepS, rdIntT, wJoinT, wsTry, wxNil, wxSeq, wxIf, wxRaise, wxDrop, wxSet, wxRet, wxOr, wxCallX, wxLen, wIsc, wIscT, wsAugIt, rdEqB, cxK, cxM, cxKn, cxMn, tyV_n, tyV_e, wxTup, wLcX, rdEqBB, wsDeck, flatE, flat, flatL, Bool.and_true, Bool.true_and, Bool.and_self, wsNil, wsSeq, wsBrk, wsCont, wsNever, wsFrz, wsRet, wsRetN, wsDrop, wsSet, wsSetN, wsSetD, wsTup, wsTupW, wsAug, wsIf, wsIfF, wsIfT, wsApp, wsExt, wsItem, wsFor, wsWhile, wVar, wOwn, wC, w2, w2T, wT, wAnd, wOr, wNot, wAndV, wOrV, wNotV, wIf, waNil, waCons, wTup, wLst, wL, wNeg, rdBin, rdEq, rdNe, rdOrd, rdIsN, rdNotN, wChain, wChain3, wRevT, rdInD, rdNinD, wIx, woN, woS, wSlL, wSlT, wSlS, wCall, wCallF, wCallN, FSpec.W, wItems, wRng1, wRng2, wRngD, wZip, wEnum, wLc, wYes, wBi, rdLen, rd1I, rd2I, rdInt, rdStr, rdTuple, Tg.w, Tg.ix, startE, List.map_cons, List.map_nil, List.cons_append, List.nil_append, List.length_cons, List.length_nil, Nat.add_zero, Nat.zero_add, Nat.reduceAdd, Nat.reduceSub, List.replicate_succ, List.replicate_zero, List.replicate, List.append_nil, List.getElem?_cons_zero, List.getElem?_cons_succ, List.getElem?_nil, List.set_cons_zero, List.set_cons_succ, List.set_nil, wipeE, Option.some.injEq, Sl.v.injEq, Sl.own.injEq, Dv.int.injEq, Dv.bl.injEq, Dv.lst.injEq, Dv.tup.injEq, Dv.str.injEq, Dv.scr.injEq, List.cons.injEq, reduceCtorEq, and_true, true_and, and_false, false_and, exists_eq_left, exists_eq_left', exists_eq_right, exists_eq_right', exists_and_left, exists_and_right, exists_eq, exists_const, false_or, or_false, Bool.false_eq_true, if_true, if_false, ite_true, ite_false, eq_self_iff_true, tyN, tyI, tyB, tyS, tyT, tyL, is_NoneType_int, is_NoneType_bool, is_NoneType_str, is_NoneType_tuple, is_NoneType_list, is_int_int, is_int_bool, is_int_str, is_int_tuple, is_int_list, is_bool_int, is_bool_bool, is_bool_str, is_bool_tuple, is_bool_list, is_str_int, is_str_bool, is_str_str, is_str_tuple, is_str_list, is_tuple_int, is_tuple_bool, is_tuple_str, is_tuple_tuple, is_tuple_list, is_list_int, is_list_bool, is_list_str, is_list_tuple, is_list_list, Bool.or_false, Bool.or_true, Bool.true_or, Bool.false_or, ixT0, ixT1, ixT2, ixT3, ixL0, ixL1, ixL2, ixL3, iff_true, and_assoc, decide_eq_true_eq, Bool.not_eq_true', Bool.not_eq_false', decide_eq_false_iff_not, Bool.not_true, Bool.not_false, bAi, bAs, bAt, bAl, bSi, bMi, bMl, bDi, bRi, bPi, cAi, cAs, cAt, cAl, cSi, cMi, cMl, cDi, cRi, cPi, itL, itT, itR, seL, seT, seR, leL, leT, leR, leS, lcL, lcT, lcR, lcS, xcL, xcT, xcR, xcS, orL, orE, orG, orH, mapI, iff_true, true_iff, iff_false, false_iff, forall_eq, Bool.not_eq_true, Bool.true_eq_false, reduceIte, List.length_append, List.length_range, List.length_map, forall_const, true_imp_iff, Nat.zero_le, Nat.reduceLeDiff, Int.toNat_natCast, Prod.exists, setAll, List.map_eq_nil_iff, mapP, rdMax, rdMin, wSort, rdMinD, rdMaxD, rdSum, wIsi, wIsi2, wIndexI, wGet2, wDIx, wDIn, wsDPut,  exists_const, ge_iff_le, gt_iff_lt])
        exact ⟨.inl rfl, .inl rfl, q'⟩
      | tup ds =>
        cases m with
        | zero => cases hd
        | succ m =>
        have hd : ds.length ≤ 100000 ∧ ∀ d ∈ ds, akin m d = true := by simpa [akin] using hd
        (try simp (config := { maxSteps := 3000000 }) only [rdInI, rdNinI, wDInT, wsPopAt, wsIns, rdIsBl, rdNotBl, rdInS, rdNinS, rdRepS, rdIntT, wJoinT, wsTry, wxNil, wxSeq, wxIf, wxRaise, wxDrop, wxSet, wxRet, wxOr, wxCallX, wxLen, wIsc, wIscT, wsAugIt, rdEqB, cxK, cxM, cxKn, cxMn, tyV_n, tyV_e, wxTup, wLcX, rdEqBB, wsDeck, flatE, flat, flatL, Bool.and_true, Bool.true_and, Bool.and_self, wsNil, wsSeq, wsBrk, wsCont, wsNever, wsFrz, wsRet, wsRetN, wsDrop, wsSet, wsSetN, wsSetD, wsTup, wsTupW, wsAug, wsIf, wsIfF, wsIfT, wsApp, wsExt, wsItem, wsFor, wsWhile, wVar, wOwn, wC, w2, w2T, wT, wAnd, wOr, wNot, wAndV, wOrV, wNotV, wIf, waNil, waCons, wTup, wLst, wL, wNeg, rdBin, rdEq, rdNe, rdOrd, rdIsN, rdNotN, wChain, wChain3, wRevT, rdInD, rdNinD, wIx, woN, woS, wSlL, wSlT, wSlS, wCall, wCallF, wCallN, FSpec.W, wItems, wRng1, wRng2, wRngD, wZip, wEnum, wLc, wYes, wBi, rdLen, rd1I, rd2I, rdInt, rdStr, rdTuple, Tg.w, Tg.ix, startE, List.map_cons, List.map_nil, List.cons_append, List.nil_append, List.length_cons, List.length_nil, Nat.add_zero, Nat.zero_add, Nat.reduceAdd, Nat.reduceSub, List.replicate_succ, List.replicate_zero, List.replicate, List.append_nil, List.getElem?_cons_zero, List.getElem?_cons_succ, List.getElem?_nil, List.set_cons_zero, List.set_cons_succ, List.set_nil, wipeE, Option.some.injEq, Sl.v.injEq, Sl.own.injEq, Dv.int.injEq, Dv.bl.injEq, Dv.lst.injEq, Dv.tup.injEq, Dv.str.injEq, Dv.scr.injEq, List.cons.injEq, reduceCtorEq, and_true, true_and, and_false, false_and, exists_eq_left, exists_eq_left', exists_eq_right, exists_eq_right', exists_and_left, exists_and_right, exists_eq, exists_const, false_or, or_false, Bool.false_eq_true, if_true, if_false, ite_true, ite_false, eq_self_iff_true, tyN, tyI, tyB, tyS, tyT, tyL, is_NoneType_int, is_NoneType_bool, is_NoneType_str, is_NoneType_tuple, is_NoneType_list, is_int_int, is_int_bool, is_int_str, is_int_tuple, is_int_list, is_bool_int, is_bool_bool, is_bool_str, is_bool_tuple, is_bool_list, is_str_int, is_str_bool, is_str_str, is_str_tuple, is_str_list, is_tuple_int, is_tuple_bool, is_tuple_str, is_tuple_tuple, is_tuple_list, is_list_int, is_list_bool, is_list_str, is_list_tuple, is_list_list, Bool.or_false, Bool.or_true, Bool.true_or, Bool.false_or, ixT0, ixT1, ixT2, ixT3, ixL0, ixL1, ixL2, ixL3, iff_true, and_assoc, decide_eq_true_eq, Bool.not_eq_true', Bool.not_eq_false', decide_eq_false_iff_not, Bool.not_true, Bool.not_false, bAi, bAs, bAt, bAl, bSi, bMi, bMl, bDi, bRi, bPi, cAi, cAs, cAt, cAl, cSi, cMi, cMl, cDi, cRi, cPi, itL, itT, itR, seL, seT, seR, leL, leT, leR, leS, lcL, lcT, lcR, lcS, xcL, xcT, xcR, xcS, orL, orE, orG, orH, mapI, iff_true, true_iff, iff_false, false_iff, forall_eq, Bool.not_eq_true, Bool.true_eq_false, reduceIte, List.length_append, List.length_range, List.length_map, forall_const, true_imp_iff, Nat.zero_le, Nat.reduceLeDiff, Int.toNat_natCast, Prod.exists, setAll, List.map_eq_nil_iff, mapP, rdMax, rdMin, wSort, rdMinD, rdMaxD, rdSum, wIsi, wIsi2, wIndexI, wGet2, wDIx, wDIn, wsDPut,  exists_const, ge_iff_le, gt_iff_lt])
        have hz := zipD_self ds
        refine ⟨.inl rfl, .inl rfl, .inl rfl, by rw [hz, List.length_map]; omega, rfl, iv_fm ds (fun d => .tup [d, d]) (fun _ => false) (fun d => d) hz (by rw [hz, List.length_map]) (fun i d acc J hd' h1 h2 => ?_) ?_⟩
        · (try simp (config := { maxSteps := 3000000 }) only [rdInI, rdNinI, wDInT, wsPopAt, wsIns, rdIsBl, rdNotBl, rdInS, rdNinS, rdRepS, rdIntT, wJoinT, wsTry, wxNil, wxSeq, wxIf, wxRaise, wxDrop, wxSet, wxRet, wxOr, wxCallX, wxLen, wIsc, wIscT, wsAugIt, rdEqB, cxK, cxM, cxKn, cxMn, tyV_n, tyV_e, wxTup, wLcX, rdEqBB, wsDeck, flatE, flat, flatL, Bool.and_true, Bool.true_and, Bool.and_self, wsNil, wsSeq, wsBrk, wsCont, wsNever, wsFrz, wsRet, wsRetN, wsDrop, wsSet, wsSetN, wsSetD, wsTup, wsTupW, wsAug, wsIf, wsIfF, wsIfT, wsApp, wsExt, wsItem, wsFor, wsWhile, wVar, wOwn, wC, w2, w2T, wT, wAnd, wOr, wNot, wAndV, wOrV, wNotV, wIf, waNil, waCons, wTup, wLst, wL, wNeg, rdBin, rdEq, rdNe, rdOrd, rdIsN, rdNotN, wChain, wChain3, wRevT, rdInD, rdNinD, wIx, woN, woS, wSlL, wSlT, wSlS, wCall, wCallF, wCallN, FSpec.W, wItems, wRng1, wRng2, wRngD, wZip, wEnum, wLc, wYes, wBi, rdLen, rd1I, rd2I, rdInt, rdStr, rdTuple, Tg.w, Tg.ix, startE, List.map_cons, List.map_nil, List.cons_append, List.nil_append, List.length_cons, List.length_nil, Nat.add_zero, Nat.zero_add, Nat.reduceAdd, Nat.reduceSub, List.replicate_succ, List.replicate_zero, List.replicate, List.append_nil, List.getElem?_cons_zero, List.getElem?_cons_succ, List.getElem?_nil, List.set_cons_zero, List.set_cons_succ, List.set_nil, wipeE, Option.some.injEq, Sl.v.injEq, Sl.own.injEq, Dv.int.injEq, Dv.bl.injEq, Dv.lst.injEq, Dv.tup.injEq, Dv.str.injEq, Dv.scr.injEq, List.cons.injEq, reduceCtorEq, and_true, true_and, and_false, false_and, exists_eq_left, exists_eq_left', exists_eq_right, exists_eq_right', exists_and_left, exists_and_right, exists_eq, exists_const, false_or, or_false, Bool.false_eq_true, if_true, if_false, ite_true, ite_false, eq_self_iff_true, tyN, tyI, tyB, tyS, tyT, tyL, is_NoneType_int, is_NoneType_bool, is_NoneType_str, is_NoneType_tuple, is_NoneType_list, is_int_int, is_int_bool, is_int_str, is_int_tuple, is_int_list, is_bool_int, is_bool_bool, is_bool_str, is_bool_tuple, is_bool_list, is_str_int, is_str_bool, is_str_str, is_str_tuple, is_str_list, is_tuple_int, is_tuple_bool, is_tuple_str, is_tuple_tuple, is_tuple_list, is_list_int, is_list_bool, is_list_str, is_list_tuple, is_list_list, Bool.or_false, Bool.or_true, Bool.true_or, Bool.false_or, ixT0, ixT1, ixT2, ixT3, ixL0, ixL1, ixL2, ixL3, iff_true, and_assoc, decide_eq_true_eq, Bool.not_eq_true', Bool.not_eq_false', decide_eq_false_iff_not, Bool.not_true, Bool.not_false, bAi, bAs, bAt, bAl, bSi, bMi, bMl, bDi, bRi, bPi, cAi, cAs, cAt, cAl, cSi, cMi, cMl, cDi, cRi, cPi, itL, itT, itR, seL, seT, seR, leL, leT, leR, leS, lcL, lcT, lcR, lcS, xcL, xcT, xcR, xcS, orL, orE, orG, orH, mapI, iff_true, true_iff, iff_false, false_iff, forall_eq, Bool.not_eq_true, Bool.true_eq_false, reduceIte, List.length_append, List.length_range, List.length_map, forall_const, true_imp_iff, Nat.zero_le, Nat.reduceLeDiff, Int.toNat_natCast, Prod.exists, setAll, List.map_eq_nil_iff, mapP, rdMax, rdMin, wSort, rdMinD, rdMaxD, rdSum, wIsi, wIsi2, wIndexI, wGet2, wDIx, wDIn, wsDPut,  exists_const, ge_iff_le, gt_iff_lt])
          exact ⟨⟨m, by omega, hd.2 d (List.mem_of_getElem? hd')⟩, h2 rfl⟩
        · have e0 : ds.filter (fun _ => false) = [] := List.filter_eq_nil_iff.mpr fun _ _ => Bool.false_ne_true
          rw [e0]
          (try simp (config := { maxSteps := 3000000 }) only [rdInI, rdNinI, wDInT, wsPopAt, wsIns, rdIsBl, rdNotBl, rdInS, rdNinS, rdRepS, rdIntT, wJoinT, wsTry, wxNil, wxSeq, wxIf, wxRaise, wxDrop, wxSet, wxRet, wxOr, wxCallX, wxLen, wIsc, wIscT, wsAugIt, rdEqB, cxK, cxM, cxKn, cxMn, tyV_n, tyV_e, wxTup, wLcX, rdEqBB, wsDeck, flatE, flat, flatL, Bool.and_true, Bool.true_and, Bool.and_self, wsNil, wsSeq, wsBrk, wsCont, wsNever, wsFrz, wsRet, wsRetN, wsDrop, wsSet, wsSetN, wsSetD, wsTup, wsTupW, wsAug, wsIf, wsIfF, wsIfT, wsApp, wsExt, wsItem, wsFor, wsWhile, wVar, wOwn, wC, w2, w2T, wT, wAnd, wOr, wNot, wAndV, wOrV, wNotV, wIf, waNil, waCons, wTup, wLst, wL, wNeg, rdBin, rdEq, rdNe, rdOrd, rdIsN, rdNotN, wChain, wChain3, wRevT, rdInD, rdNinD, wIx, woN, woS, wSlL, wSlT, wSlS, wCall, wCallF, wCallN, FSpec.W, wItems, wRng1, wRng2, wRngD, wZip, wEnum, wLc, wYes, wBi, rdLen, rd1I, rd2I, rdInt, rdStr, rdTuple, Tg.w, Tg.ix, startE, List.map_cons, List.map_nil, List.cons_append, List.nil_append, List.length_cons, List.length_nil, Nat.add_zero, Nat.zero_add, Nat.reduceAdd, Nat.reduceSub, List.replicate_succ, List.replicate_zero, List.replicate, List.append_nil, List.getElem?_cons_zero, List.getElem?_cons_succ, List.getElem?_nil, List.set_cons_zero, List.set_cons_succ, List.set_nil, wipeE, Option.some.injEq, Sl.v.injEq, Sl.own.injEq, Dv.int.injEq, Dv.bl.injEq, Dv.lst.injEq, Dv.tup.injEq, Dv.str.injEq, Dv.scr.injEq, List.cons.injEq, reduceCtorEq, and_true, true_and, and_false, false_and, exists_eq_left, exists_eq_left', exists_eq_right, exists_eq_right', exists_and_left, exists_and_right, exists_eq, exists_const, false_or, or_false, Bool.false_eq_true, if_true, if_false, ite_true, ite_false, eq_self_iff_true, tyN, tyI, tyB, tyS, tyT, tyL, is_NoneType_int, is_NoneType_bool, is_NoneType_str, is_NoneType_tuple, is_NoneType_list, is_int_int, is_int_bool, is_int_str, is_int_tuple, is_int_list, is_bool_int, is_bool_bool, is_bool_str, is_bool_tuple, is_bool_list, is_str_int, is_str_bool, is_str_str, is_str_tuple, is_str_list, is_tuple_int, is_tuple_bool, is_tuple_str, is_tuple_tuple, is_tuple_list, is_list_int, is_list_bool, is_list_str, is_list_tuple, is_list_list, Bool.or_false, Bool.or_true, Bool.true_or, Bool.false_or, ixT0, ixT1, ixT2, ixT3, ixL0, ixL1, ixL2, ixL3, iff_true, and_assoc, decide_eq_true_eq, Bool.not_eq_true', Bool.not_eq_false', decide_eq_false_iff_not, Bool.not_true, Bool.not_false, bAi, bAs, bAt, bAl, bSi, bMi, bMl, bDi, bRi, bPi, cAi, cAs, cAt, cAl, cSi, cMi, cMl, cDi, cRi, cPi, itL, itT, itR, seL, seT, seR, leL, leT, leR, leS, lcL, lcT, lcR, lcS, xcL, xcT, xcR, xcS, orL, orE, orG, orH, mapI, iff_true, true_iff, iff_false, false_iff, forall_eq, Bool.not_eq_true, Bool.true_eq_false, reduceIte, List.length_append, List.length_range, List.length_map, forall_const, true_imp_iff, Nat.zero_le, Nat.reduceLeDiff, Int.toNat_natCast, Prod.exists, setAll, List.map_eq_nil_iff, mapP, rdMax, rdMin, wSort, rdMinD, rdMaxD, rdSum, wIsi, wIsi2, wIndexI, wGet2, wDIx, wDIn, wsDPut,  exists_const, ge_iff_le, gt_iff_lt])
          exact ⟨.inr ⟨1, by decide, rfl, rfl⟩, q'⟩
      | lst ds =>
        cases m with
        | zero => cases hd
        | succ m =>
        have hd : ds.length ≤ 100000 ∧ ∀ d ∈ ds, akin m d = true := by simpa [akin] using hd
        (try simp (config := { maxSteps := 3000000 }) only [rdInI, rdNinI, wDInT, wsPopAt, wsIns, rdIsBl, rdNotBl, rdInS, rdNinS, rdRepS, rdIntT, wJoinT, wsTry, wxNil, wxSeq, wxIf, wxRaise, wxDrop, wxSet, wxRet, wxOr, wxCallX, wxLen, wIsc, wIscT, wsAugIt, rdEqB, cxK, cxM, cxKn, cxMn, tyV_n, tyV_e, wxTup, wLcX, rdEqBB, wsDeck, flatE, flat, flatL, Bool.and_true, Bool.true_and, Bool.and_self, wsNil, wsSeq, wsBrk, wsCont, wsNever, wsFrz, wsRet, wsRetN, wsDrop, wsSet, wsSetN, wsSetD, wsTup, wsTupW, wsAug, wsIf, wsIfF, wsIfT, wsApp, wsExt, wsItem, wsFor, wsWhile, wVar, wOwn, wC, w2, w2T, wT, wAnd, wOr, wNot, wAndV, wOrV, wNotV, wIf, waNil, waCons, wTup, wLst, wL, wNeg, rdBin, rdEq, rdNe, rdOrd, rdIsN, rdNotN, wChain, wChain3, wRevT, rdInD, rdNinD, wIx, woN, woS, wSlL, wSlT, wSlS, wCall, wCallF, wCallN, FSpec.W, wItems, wRng1, wRng2, wRngD, wZip, wEnum, wLc, wYes, wBi, rdLen, rd1I, rd2I, rdInt, rdStr, rdTuple, Tg.w, Tg.ix, startE, List.map_cons, List.map_nil, List.cons_append, List.nil_append, List.length_cons, List.length_nil, Nat.add_zero, Nat.zero_add, Nat.reduceAdd, Nat.reduceSub, List.replicate_succ, List.replicate_zero, List.replicate, List.append_nil, List.getElem?_cons_zero, List.getElem?_cons_succ, List.getElem?_nil, List.set_cons_zero, List.set_cons_succ, List.set_nil, wipeE, Option.some.injEq, Sl.v.injEq, Sl.own.injEq, Dv.int.injEq, Dv.bl.injEq, Dv.lst.injEq, Dv.tup.injEq, Dv.str.injEq, Dv.scr.injEq, List.cons.injEq, reduceCtorEq, and_true, true_and, and_false, false_and, exists_eq_left, exists_eq_left', exists_eq_right, exists_eq_right', exists_and_left, exists_and_right, exists_eq, exists_const, false_or, or_false, Bool.false_eq_true, if_true, if_false, ite_true, ite_false, eq_self_iff_true, tyN, tyI, tyB, tyS, tyT, tyL, is_NoneType_int, is_NoneType_bool, is_NoneType_str, is_NoneType_tuple, is_NoneType_list, is_int_int, is_int_bool, is_int_str, is_int_tuple, is_int_list, is_bool_int, is_bool_bool, is_bool_str, is_bool_tuple, is_bool_list, is_str_int, is_str_bool, is_str_str, is_str_tuple, is_str_list, is_tuple_int, is_tuple_bool, is_tuple_str, is_tuple_tuple, is_tuple_list, is_list_int, is_list_bool, is_list_str, is_list_tuple, is_list_list, Bool.or_false, Bool.or_true, Bool.true_or, Bool.false_or, ixT0, ixT1, ixT2, ixT3, ixL0, ixL1, ixL2, ixL3, iff_true, and_assoc, decide_eq_true_eq, Bool.not_eq_true', Bool.not_eq_false', decide_eq_false_iff_not, Bool.not_true, Bool.not_false, bAi, bAs, bAt, bAl, bSi, bMi, bMl, bDi, bRi, bPi, cAi, cAs, cAt, cAl, cSi, cMi, cMl, cDi, cRi, cPi, itL, itT, itR, seL, seT, seR, leL, leT, leR, leS, lcL, lcT, lcR, lcS, xcL, xcT, xcR, xcS, orL, orE, orG, orH, mapI, iff_true, true_iff, iff_false, false_iff, forall_eq, Bool.not_eq_true, Bool.true_eq_false, reduceIte, List.length_append, List.length_range, List.length_map, forall_const, true_imp_iff, Nat.zero_le, Nat.reduceLeDiff, Int.toNat_natCast, Prod.exists, setAll, List.map_eq_nil_iff, mapP, rdMax, rdMin, wSort, rdMinD, rdMaxD, rdSum, wIsi, wIsi2, wIndexI, wGet2, wDIx, wDIn, wsDPut,  exists_const, ge_iff_le, gt_iff_lt])
        have hz := zipD_self ds
        refine ⟨.inl rfl, .inl rfl, .inl rfl, by rw [hz, List.length_map]; omega, rfl, iv_fm ds (fun d => .tup [d, d]) (fun _ => false) (fun d => d) hz (by rw [hz, List.length_map]) (fun i d acc J hd' h1 h2 => ?_) ?_⟩
        · (try simp (config := { maxSteps := 3000000 }) only [rdInI, rdNinI, wDInT, wsPopAt, wsIns, rdIsBl, rdNotBl, rdInS, rdNinS, rdRepS, rdIntT, wJoinT, wsTry, wxNil, wxSeq, wxIf, wxRaise, wxDrop, wxSet, wxRet, wxOr, wxCallX, wxLen, wIsc, wIscT, wsAugIt, rdEqB, cxK, cxM, cxKn, cxMn, tyV_n, tyV_e, wxTup, wLcX, rdEqBB, wsDeck, flatE, flat, flatL, Bool.and_true, Bool.true_and, Bool.and_self, wsNil, wsSeq, wsBrk, wsCont, wsNever, wsFrz, wsRet, wsRetN, wsDrop, wsSet, wsSetN, wsSetD, wsTup, wsTupW, wsAug, wsIf, wsIfF, wsIfT, wsApp, wsExt, wsItem, wsFor, wsWhile, wVar, wOwn, wC, w2, w2T, wT, wAnd, wOr, wNot, wAndV, wOrV, wNotV, wIf, waNil, waCons, wTup, wLst, wL, wNeg, rdBin, rdEq, rdNe, rdOrd, rdIsN, rdNotN, wChain, wChain3, wRevT, rdInD, rdNinD, wIx, woN, woS, wSlL, wSlT, wSlS, wCall, wCallF, wCallN, FSpec.W, wItems, wRng1, wRng2, wRngD, wZip, wEnum, wLc, wYes, wBi, rdLen, rd1I, rd2I, rdInt, rdStr, rdTuple, Tg.w, Tg.ix, startE, List.map_cons, List.map_nil, List.cons_append, List.nil_append, List.length_cons, List.length_nil, Nat.add_zero, Nat.zero_add, Nat.reduceAdd, Nat.reduceSub, List.replicate_succ, List.replicate_zero, List.replicate, List.append_nil, List.getElem?_cons_zero, List.getElem?_cons_succ, List.getElem?_nil, List.set_cons_zero, List.set_cons_succ, List.set_nil, wipeE, Option.some.injEq, Sl.v.injEq, Sl.own.injEq, Dv.int.injEq, Dv.bl.injEq, Dv.lst.injEq, Dv.tup.injEq, Dv.str.injEq, Dv.scr.injEq, List.cons.injEq, reduceCtorEq, and_true, true_and, and_false, false_and, exists_eq_left, exists_eq_left', exists_eq_right, exists_eq_right', exists_and_left, exists_and_right, exists_eq, exists_const, false_or, or_false, Bool.false_eq_true, if_true, if_false, ite_true, ite_false, eq_self_iff_true, tyN, tyI, tyB, tyS, tyT, tyL, is_NoneType_int, is_NoneType_bool, is_NoneType_str, is_NoneType_tuple, is_NoneType_list, is_int_int, is_int_bool, is_int_str, is_int_tuple, is_int_list, is_bool_int, is_bool_bool, is_bool_str, is_bool_tuple, is_bool_list, is_str_int, is_str_bool, is_str_str, is_str_tuple, is_str_list, is_tuple_int, is_tuple_bool, is_tuple_str, is_tuple_tuple, is_tuple_list, is_list_int, is_list_bool, is_list_str, is_list_tuple, is_list_list, Bool.or_false, Bool.or_true, Bool.true_or, Bool.false_or, ixT0, ixT1, ixT2, ixT3, ixL0, ixL1, ixL2, ixL3, iff_true, and_assoc, decide_eq_true_eq, Bool.not_eq_true', Bool.not_eq_false', decide_eq_false_iff_not, Bool.not_true, Bool.not_false, bAi, bAs, bAt, bAl, bSi, bMi, bMl, bDi, bRi, bPi, cAi, cAs, cAt, cAl, cSi, cMi, cMl, cDi, cRi, cPi, itL, itT, itR, seL, seT, seR, leL, leT, leR, leS, lcL, lcT, lcR, lcS, xcL, xcT, xcR, xcS, orL, orE, orG, orH, mapI, iff_true, true_iff, iff_false, false_iff, forall_eq, Bool.not_eq_true, Bool.true_eq_false, reduceIte, List.length_append, List.length_range, List.length_map, forall_const, true_imp_iff, Nat.zero_le, Nat.reduceLeDiff, Int.toNat_natCast, Prod.exists, setAll, List.map_eq_nil_iff, mapP, rdMax, rdMin, wSort, rdMinD, rdMaxD, rdSum, wIsi, wIsi2, wIndexI, wGet2, wDIx, wDIn, wsDPut,  exists_const, ge_iff_le, gt_iff_lt])
          exact ⟨⟨m, by omega, hd.2 d (List.mem_of_getElem? hd')⟩, h2 rfl⟩
        · have e0 : ds.filter (fun _ => false) = [] := List.filter_eq_nil_iff.mpr fun _ _ => Bool.false_ne_true
          rw [e0]
          (try simp (config := { maxSteps := 3000000 }) only [rdInI, rdNinI, wDInT, wsPopAt, wsIns, rdIsBl, rdNotBl, rdInS, rdNinS, rdRepS, rdIntT, wJoinT, wsTry, wxNil, wxSeq, wxIf, wxRaise, wxDrop, wxSet, wxRet, wxOr, wxCallX, wxLen, wIsc, wIscT, wsAugIt, rdEqB, cxK, cxM, cxKn, cxMn, tyV_n, tyV_e, wxTup, wLcX, rdEqBB, wsDeck, flatE, flat, flatL, Bool.and_true, Bool.true_and, Bool.and_self, wsNil, wsSeq, wsBrk, wsCont, wsNever, wsFrz, wsRet, wsRetN, wsDrop, wsSet, wsSetN, wsSetD, wsTup, wsTupW, wsAug, wsIf, wsIfF, wsIfT, wsApp, wsExt, wsItem, wsFor, wsWhile, wVar, wOwn, wC, w2, w2T, wT, wAnd, wOr, wNot, wAndV, wOrV, wNotV, wIf, waNil, waCons, wTup, wLst, wL, wNeg, rdBin, rdEq, rdNe, rdOrd, rdIsN, rdNotN, wChain, wChain3, wRevT, rdInD, rdNinD, wIx, woN, woS, wSlL, wSlT, wSlS, wCall, wCallF, wCallN, FSpec.W, wItems, wRng1, wRng2, wRngD, wZip, wEnum, wLc, wYes, wBi, rdLen, rd1I, rd2I, rdInt, rdStr, rdTuple, Tg.w, Tg.ix, startE, List.map_cons, List.map_nil, List.cons_append, List.nil_append, List.length_cons, List.length_nil, Nat.add_zero, Nat.zero_add, Nat.reduceAdd, Nat.reduceSub, List.replicate_succ, List.replicate_zero, List.replicate, List.append_nil, List.getElem?_cons_zero, List.getElem?_cons_succ, List.getElem?_nil, List.set_cons_zero, List.set_cons_succ, List.set_nil, wipeE, Option.some.injEq, Sl.v.injEq, Sl.own.injEq, Dv.int.injEq, Dv.bl.injEq, Dv.lst.injEq, Dv.tup.injEq, Dv.str.injEq, Dv.scr.injEq, List.cons.injEq, reduceCtorEq, and_true, true_and, and_false, false_and, exists_eq_left, exists_eq_left', exists_eq_right, exists_eq_right', exists_and_left, exists_and_right, exists_eq, exists_const, false_or, or_false, Bool.false_eq_true, if_true, if_false, ite_true, ite_false, eq_self_iff_true, tyN, tyI, tyB, tyS, tyT, tyL, is_NoneType_int, is_NoneType_bool, is_NoneType_str, is_NoneType_tuple, is_NoneType_list, is_int_int, is_int_bool, is_int_str, is_int_tuple, is_int_list, is_bool_int, is_bool_bool, is_bool_str, is_bool_tuple, is_bool_list, is_str_int, is_str_bool, is_str_str, is_str_tuple, is_str_list, is_tuple_int, is_tuple_bool, is_tuple_str, is_tuple_tuple, is_tuple_list, is_list_int, is_list_bool, is_list_str, is_list_tuple, is_list_list, Bool.or_false, Bool.or_true, Bool.true_or, Bool.false_or, ixT0, ixT1, ixT2, ixT3, ixL0, ixL1, ixL2, ixL3, iff_true, and_assoc, decide_eq_true_eq, Bool.not_eq_true', Bool.not_eq_false', decide_eq_false_iff_not, Bool.not_true, Bool.not_false, bAi, bAs, bAt, bAl, bSi, bMi, bMl, bDi, bRi, bPi, cAi, cAs, cAt, cAl, cSi, cMi, cMl, cDi, cRi, cPi, itL, itT, itR, seL, seT, seR, leL, leT, leR, leS, lcL, lcT, lcR, lcS, xcL, xcT, xcR, xcS, orL, orE, orG, orH, mapI, iff_true, true_iff, iff_false, false_iff, forall_eq, Bool.not_eq_true, Bool.true_eq_false, reduceIte, List.length_append, List.length_range, List.length_map, forall_const, true_imp_iff, Nat.zero_le, Nat.reduceLeDiff, Int.toNat_natCast, Prod.exists, setAll, List.map_eq_nil_iff, mapP, rdMax, rdMin, wSort, rdMinD, rdMaxD, rdSum, wIsi, wIsi2, wIndexI, wGet2, wDIx, wDIn, wsDPut,  exists_const, ge_iff_le, gt_iff_lt])
          exact ⟨.inr ⟨1, by decide, rfl, rfl⟩, q'⟩
      | _ => first | (cases m <;> cases hd)⟩

abbrev S_law_number_in : FSpec := ⟨Str, Option Int, fun w => [.str w], fun w => w.length ≤ 640 ∧ okT w, fun w o => (o = none ∧ badW w) ∨ ∃ n, o = some n ∧ w = strI n, fun _ o => optI o⟩
theorem ok_law_number_in (T : Txt K mg) : Cl P w K mg base 1 "_law_number_in" (spP K S_law_number_in) :=
  fn_P T.f_law_number_in sc_law_number_in (fun _ => rfl) fun f cdv A outer s H E hr => ⟨_, (dss_cons (ds_set (i := 1) sc_law_number_in.nd (de_var 0))
      (dss_cons (ds_if (dt_eq hr.units (de_sliceS (de_var 0) do_none (do_some de_int)).bb de_str.bb) (dss_one (ds_set (i := 1) sc_law_number_in.nd (de_sliceS (de_var 0) (do_some de_int) do_none))) dss_nil)
      (dss_cons (ds_if (dw_or (dt_eq hr.units (de_var 1).bb de_str.bb) (dw_or1 (dt_ne hr.units (dn_lc rfl sc_law_number_in.nd (t := (.nm 2)) (di_seq (de_var 1)).bb (blkOk_by (own := [("sign", 2)]) (N := ["word", "figures", "sign"]) (sc := defScope s_law_number_in) (by decide +kernel)) rfl (fun _ _ _ _ _ => (pg_name (i := 2) sc_law_number_in.nd rfl (by first | exact Or.inl rfl | exact Or.inr rfl))) (fun _ _ _ _ _ => (dts_one (dt_ninS (de_var 2).bb de_str.bb))) (fun _ _ _ _ _ => (de_var 2))).bb (dn_lst da_nil).bb))).tt (dss_one (ds_ret de_non.bb)) dss_nil)
      (dss_cons (ds_if (dw_and (dt_eq hr.units (de_ix (de_var 1).bb de_int).bb de_str.bb) (dw_and1 (dt_ne hr.units (de_var 0).bb de_str.bb))).tt (dss_one (ds_ret de_non.bb)) dss_nil)
      (dss_one (ds_ret (de_intT T.z_int (dab_cons (de_var 0).bb dab_nil)).bb)))))), fun (w : Str) Q hl q => by
    obtain ⟨hl, ho⟩ : w.length ≤ 640 ∧ okT w := hl
    (try simp (config := { maxSteps := 3000000 }) only [rdInI, rdNinI, wDInT, wsPopAt, wsIns, rdIsBl, rdNotBl, rdInS, rdNinS, rdRepS, rdIntT, wJoinT, wsTry, wxNil, wxSeq, wxIf, wxRaise, wxDrop, wxSet, wxRet, wxOr, wxCallX, wxLen, wIsc, wIscT, wsAugIt, rdEqB, cxK, cxM, cxKn, cxMn, tyV_n, tyV_e, wxTup, wLcX, rdEqBB, wsDeck, flatE, flat, flatL, Bool.and_true, Bool.true_and, Bool.and_self, wsNil, wsSeq, wsBrk, wsCont, wsNever, wsFrz, wsRet, wsRetN, wsDrop, wsSet, wsSetN, wsSetD, wsTup, wsTupW, wsAug, wsIf, wsIfF, wsIfT, wsApp, wsExt, wsItem, wsFor, wsWhile, wVar, wOwn, wC, w2, w2T, wT, wAnd, wOr, wNot, wAndV, wOrV, wNotV, wIf, waNil, waCons, wTup, wLst, wL, wNeg, rdBin, rdEq, rdNe, rdOrd, rdIsN, rdNotN, wChain, wChain3, wRevT, rdInD, rdNinD, wIx, woN, woS, wSlL, wSlT, wSlS, wCall, wCallF, wCallN, FSpec.W, wItems, wRng1, wRng2, wRngD, wZip, wEnum, wLc, wYes, wBi, rdLen, rd1I, rd2I, rdInt, rdStr, rdTuple, Tg.w, Tg.ix, startE, List.map_cons, List.map_nil, List.cons_append, List.nil_append, List.length_cons, List.length_nil, Nat.add_zero, Nat.zero_add, Nat.reduceAdd, Nat.reduceSub, List.replicate_succ, List.replicate_zero, List.replicate, List.append_nil, List.getElem?_cons_zero, List.getElem?_cons_succ, List.getElem?_nil, List.set_cons_zero, List.set_cons_succ, List.set_nil, wipeE, Option.some.injEq, Sl.v.injEq, Sl.own.injEq, Dv.int.injEq, Dv.bl.injEq, Dv.lst.injEq, Dv.tup.injEq, Dv.str.injEq, Dv.scr.injEq, List.cons.injEq, reduceCtorEq, and_true, true_and, and_false, false_and, exists_eq_left, exists_eq_left', exists_eq_right, exists_eq_right', exists_and_left, exists_and_right, exists_eq, exists_const, false_or, or_false, Bool.false_eq_true, if_true, if_false, ite_true, ite_false, eq_self_iff_true, tyN, tyI, tyB, tyS, tyT, tyL, is_NoneType_int, is_NoneType_bool, is_NoneType_str, is_NoneType_tuple, is_NoneType_list, is_int_int, is_int_bool, is_int_str, is_int_tuple, is_int_list, is_bool_int, is_bool_bool, is_bool_str, is_bool_tuple, is_bool_list, is_str_int, is_str_bool, is_str_str, is_str_tuple, is_str_list, is_tuple_int, is_tuple_bool, is_tuple_str, is_tuple_tuple, is_tuple_list, is_list_int, is_list_bool, is_list_str, is_list_tuple, is_list_list, Bool.or_false, Bool.or_true, Bool.true_or, Bool.false_or, ixT0, ixT1, ixT2, ixT3, ixL0, ixL1, ixL2, ixL3, iff_true, and_assoc, decide_eq_true_eq, Bool.not_eq_true', Bool.not_eq_false', decide_eq_false_iff_not, Bool.not_true, Bool.not_false, bAi, bAs, bAt, bAl, bSi, bMi, bMl, bDi, bRi, bPi, cAi, cAs, cAt, cAl, cSi, cMi, cMl, cDi, cRi, cPi, itL, itT, itR, seL, seT, seR, leL, leT, leR, leS, lcL, lcT, lcR, lcS, xcL, xcT, xcR, xcS, orL, orE, orG, orH, mapI, iff_true, true_iff, iff_false, false_iff, forall_eq, Bool.not_eq_true, Bool.true_eq_false, reduceIte, List.length_append, List.length_range, List.length_map, forall_const, true_imp_iff, Nat.zero_le, Nat.reduceLeDiff, Int.toNat_natCast, Prod.exists, setAll, List.map_eq_nil_iff, mapP, rdMax, rdMin, wSort, rdMinD, rdMaxD, rdSum, wIsi, wIsi2, wIndexI, wGet2, wDIx, wDIn, wsDPut,  exists_const, ge_iff_le, gt_iff_lt])
    have qn : badW w → Q .non := fun h => q none (.inl ⟨rfl, h⟩)
    have qi : ¬ badW w → ∃ x, intText? w = some x ∧ w.length ≤ 640 ∧ Q (Dv.int x) := fun h => by
      obtain ⟨n, e⟩ := good_strI h
      exact ⟨n, by rw [e]; exact strI_int (by rw [← e]; omega), hl, q (some n) (.inr ⟨n, rfl, e⟩)⟩
    exact ⟨by omega, .inl rfl, fig_ways hl (fun e1 e2 => ⟨by omega, fig_tail ho rfl e1 e2 qn qi⟩) fun e1 => fig_tail ho rfl e1 hl qn qi⟩⟩

abbrev S_law_due : FSpec := ⟨Str, Option (List Int), fun t => [.str t], tOk, fun t o => (o = none ∧ t ≠ Str.ofString "" ∧ ∃ w ∈ wordsT t, badW w) ∨ ∃ r, o = some r ∧ t = shT r ∧ (r ≠ [] → wordsT t = r.map strI), fun _ o => dueT o⟩
theorem ok_law_due (T : Txt K mg) : Cl P w K mg base 2 "_law_due" (spP K S_law_due) :=
  fn_P T.f_law_due sc_law_due (fun _ => rfl) fun f cdv A outer s H E hr => ⟨_, (dss_cons (ds_if (dt_eq hr.units (de_var 0).bb de_str.bb) (dss_one (ds_ret (de_tup (da_cons (de_tup da_nil) (da_cons de_str da_nil))).bb)) dss_nil)
      (dss_cons (ds_setLcV (i := 1) rfl sc_law_due.nd (t := (.nm 2)) (di_seq (dn_split (de_var 0)).ee).bb (blkOk_by (own := [("word", 2)]) (N := ["text", "found", "word"]) (sc := defScope s_law_due) (by decide +kernel)) rfl (fun _ _ _ _ _ => (pg_name (i := 2) sc_law_due.nd rfl (by first | exact Or.inl rfl | exact Or.inr rfl))) (fun _ _ _ _ _ => dts_nil) (fun _ _ _ _ _ => (de_call (ok_law_number_in T) hr (by rfl) (da_cons (de_var 2) da_nil))) (sw_true rfl rfl rfl (by decide +kernel)))
      (dss_cons (ds_if (dt_inD (un65 hr) de_non.bb (de_var 1).bb) (dss_one (ds_ret (de_tup (da_cons de_non (da_cons de_str da_nil))).bb)) dss_nil)
      (dss_one (ds_ret (de_tup (da_cons (de_tupleOf T.z_tuple (dab_cons (de_var 1).bb dab_nil)) (da_cons de_str da_nil))).bb))))), fun (t : Str) Q ht q => by
    have ht : tOk t := ht
    have hw : (Txt.split t (Str.ofString " ")).length ≤ t.length + 1 := words_len t
    have h5 := ht.ln
    (try simp (config := { maxSteps := 3000000 }) only [rdInI, rdNinI, wDInT, wsPopAt, wsIns, rdIsBl, rdNotBl, rdInS, rdNinS, rdRepS, rdIntT, wJoinT, wsTry, wxNil, wxSeq, wxIf, wxRaise, wxDrop, wxSet, wxRet, wxOr, wxCallX, wxLen, wIsc, wIscT, wsAugIt, rdEqB, cxK, cxM, cxKn, cxMn, tyV_n, tyV_e, wxTup, wLcX, rdEqBB, wsDeck, flatE, flat, flatL, Bool.and_true, Bool.true_and, Bool.and_self, wsNil, wsSeq, wsBrk, wsCont, wsNever, wsFrz, wsRet, wsRetN, wsDrop, wsSet, wsSetN, wsSetD, wsTup, wsTupW, wsAug, wsIf, wsIfF, wsIfT, wsApp, wsExt, wsItem, wsFor, wsWhile, wVar, wOwn, wC, w2, w2T, wT, wAnd, wOr, wNot, wAndV, wOrV, wNotV, wIf, waNil, waCons, wTup, wLst, wL, wNeg, rdBin, rdEq, rdNe, rdOrd, rdIsN, rdNotN, wChain, wChain3, wRevT, rdInD, rdNinD, wIx, woN, woS, wSlL, wSlT, wSlS, wCall, wCallF, wCallN, FSpec.W, wItems, wRng1, wRng2, wRngD, wZip, wEnum, wLc, wYes, wBi, rdLen, rd1I, rd2I, rdInt, rdStr, rdTuple, Tg.w, Tg.ix, startE, List.map_cons, List.map_nil, List.cons_append, List.nil_append, List.length_cons, List.length_nil, Nat.add_zero, Nat.zero_add, Nat.reduceAdd, Nat.reduceSub, List.replicate_succ, List.replicate_zero, List.replicate, List.append_nil, List.getElem?_cons_zero, List.getElem?_cons_succ, List.getElem?_nil, List.set_cons_zero, List.set_cons_succ, List.set_nil, wipeE, Option.some.injEq, Sl.v.injEq, Sl.own.injEq, Dv.int.injEq, Dv.bl.injEq, Dv.lst.injEq, Dv.tup.injEq, Dv.str.injEq, Dv.scr.injEq, List.cons.injEq, reduceCtorEq, and_true, true_and, and_false, false_and, exists_eq_left, exists_eq_left', exists_eq_right, exists_eq_right', exists_and_left, exists_and_right, exists_eq, exists_const, false_or, or_false, Bool.false_eq_true, if_true, if_false, ite_true, ite_false, eq_self_iff_true, tyN, tyI, tyB, tyS, tyT, tyL, is_NoneType_int, is_NoneType_bool, is_NoneType_str, is_NoneType_tuple, is_NoneType_list, is_int_int, is_int_bool, is_int_str, is_int_tuple, is_int_list, is_bool_int, is_bool_bool, is_bool_str, is_bool_tuple, is_bool_list, is_str_int, is_str_bool, is_str_str, is_str_tuple, is_str_list, is_tuple_int, is_tuple_bool, is_tuple_str, is_tuple_tuple, is_tuple_list, is_list_int, is_list_bool, is_list_str, is_list_tuple, is_list_list, Bool.or_false, Bool.or_true, Bool.true_or, Bool.false_or, ixT0, ixT1, ixT2, ixT3, ixL0, ixL1, ixL2, ixL3, iff_true, and_assoc, decide_eq_true_eq, Bool.not_eq_true', Bool.not_eq_false', decide_eq_false_iff_not, Bool.not_true, Bool.not_false, bAi, bAs, bAt, bAl, bSi, bMi, bMl, bDi, bRi, bPi, cAi, cAs, cAt, cAl, cSi, cMi, cMl, cDi, cRi, cPi, itL, itT, itR, seL, seT, seR, leL, leT, leR, leS, lcL, lcT, lcR, lcS, xcL, xcT, xcR, xcS, orL, orE, orG, orH, mapI, iff_true, true_iff, iff_false, false_iff, forall_eq, Bool.not_eq_true, Bool.true_eq_false, reduceIte, List.length_append, List.length_range, List.length_map, forall_const, true_imp_iff, Nat.zero_le, Nat.reduceLeDiff, Int.toNat_natCast, Prod.exists, setAll, List.map_eq_nil_iff, mapP, rdMax, rdMin, wSort, rdMinD, rdMaxD, rdSum, wIsi, wIsi2, wIndexI, wGet2, wDIx, wDIn, wsDPut,  exists_const, ge_iff_le, gt_iff_lt])
    refine ⟨.inl rfl, eq_ifP (fun e => q (some []) (.inr ⟨[], rfl, by rw [e, sh_nil], fun h => absurd rfl h⟩)) fun hne => ?_⟩
    refine ⟨by decide +kernel, by omega, by omega, rfl, iv_any (wordsT t) Dv.str (fun _ w z => ∃ o, z = optI o ∧ ((o = none ∧ badW w) ∨ ∃ n, o = some n ∧ w = strI n)) rfl (by rw []) (fun i w acc J hw h => ?_) fun zs hz hR => ?_⟩
    · have hm : w ∈ wordsT t := List.mem_of_getElem? hw
      exact ⟨w, rfl, ht.wd w hm, words_ok ht.sg hm, fun b hb => h _ ⟨b, rfl, hb⟩⟩
    · have hpl : ∀ z ∈ zs, pl 1 z = true := fun z hm => by
        obtain ⟨j, hj⟩ := List.mem_iff_getElem?.mp hm
        have hj2 : j < (wordsT t).length := by rw [← hz]; exact (List.getElem?_eq_some_iff.mp hj).1
        obtain ⟨o, rfl, _⟩ := hR j _ z (List.getElem?_eq_getElem hj2) hj
        cases o <;> rfl
      refine ⟨⟨1, by decide, rfl, hpl⟩, eq_ifP (fun hm => ?_) fun hm => ?_⟩
      · obtain ⟨j, hj⟩ := List.mem_iff_getElem?.mp hm
        have hj2 : j < (wordsT t).length := by rw [← hz]; exact (List.getElem?_eq_some_iff.mp hj).1
        obtain ⟨o, e, h⟩ := hR j _ _ (List.getElem?_eq_getElem hj2) hj
        cases o with
        | some n => cases e
        | none =>
          rcases h with ⟨_, hb⟩ | ⟨n, h, _⟩
          · exact q none (.inl ⟨rfl, hne, _, List.getElem_mem hj2, hb⟩)
          · cases h
      · have at_ : ∀ j (hj : j < (wordsT t).length), ∃ n, zs[j]? = some (.int n) ∧ (wordsT t)[j] = strI n := fun j hj => by
          have hj2 : j < zs.length := by rw [hz]; exact hj
          obtain ⟨o, e, h⟩ := hR j _ _ (List.getElem?_eq_getElem hj) (List.getElem?_eq_getElem hj2)
          rcases h with ⟨h, _⟩ | ⟨n, h, h2⟩
          · subst h
            exact absurd (by rw [show Dv.non = zs[j] from e.symm]; exact List.getElem_mem hj2) hm
          · subst h
            exact ⟨n, by rw [List.getElem?_eq_getElem hj2, e]; rfl, h2⟩
        have hg : ∀ w ∈ wordsT t, ¬ badW w := fun w hw => by
          obtain ⟨j, hj, rfl⟩ := List.mem_iff_getElem.mp hw
          obtain ⟨n, _, e⟩ := at_ j hj
          rw [e]
          exact strI_good n
        obtain ⟨r, hr, e1, e2⟩ := words_of_row hg
        have hrl : r.length = (wordsT t).length := by rw [e1, List.length_map]
        have e3 : zs = r.map Dv.int := by
          refine List.ext_getElem? fun j => ?_
          by_cases hj : j < (wordsT t).length
          · obtain ⟨n, h1, h2⟩ := at_ j hj
            have hjr : j < r.length := by rw [hrl]; exact hj
            have h3 : (wordsT t)[j]? = some (strI r[j]) := by rw [e1, List.getElem?_map, List.getElem?_eq_getElem hjr]; rfl
            rw [List.getElem?_eq_getElem hj, h2] at h3
            rw [h1, List.getElem?_map, List.getElem?_eq_getElem hjr, strI_inj (Option.some.inj h3)]
            rfl
          · rw [List.getElem?_eq_none (by omega), List.getElem?_eq_none (by rw [List.length_map]; omega)]
        rw [e3]
        exact q (some r) (.inr ⟨r, rfl, e2, fun _ => e1⟩)⟩

abbrev S_law_told : FSpec := .det (Str × Option (List Int)) (fun a => [.str a.1]) (fun a => tOk a.1 ∧ ((a.2 = none ∧ a.1 ≠ Str.ofString "" ∧ ∃ w ∈ wordsT a.1, badW w) ∨ ∃ r : List Int, a.2 = some r ∧ a.1 = shT r ∧ r.length ≤ 1000 ∧ ∀ n ∈ r, -(10 : Int) ^ 14 < n ∧ n < (10 : Int) ^ 14)) (fun a => dueT a.2)
theorem ok_law_told (T : Txt K mg) : Cl P w K mg base 3 "_law_told" (spP K S_law_told) :=
  fn_P T.f_law_told sc_law_told (fun _ => rfl) fun f cdv A outer s H E hr => ⟨_, (dss_cons (ds_set (i := 1) sc_law_told.nd de_non)
      (dss_cons (ds_set (i := 2) sc_law_told.nd de_non)
      (dss_cons (ds_try (i := 3) sc_law_told.nd T.e_SumError (by rfl) (fun pn xe hp => (dxs_one (dx_set (i := 1) sc_law_told.nd (dex_or (dex_of (de_call (ok_read_row T) hr (by rfl) (da_cons (de_var 0) da_nil))) (dex_callX (okX_read_row T) hr (by rfl) (da_cons (de_var 0) da_nil)))))) (fun a pn => (dss_one (ds_set (i := 2) sc_law_told.nd (de_var 3)))))
      (dss_cons (ds_if (dt_isN (de_var 2).bb de_non.bb) (dss_one (ds_ret (de_tup (da_cons (de_var 1) (da_cons de_str da_nil))).bb)) dss_nil)
      (dss_one (ds_ret (de_tup (da_cons de_non (da_cons (de_ix (dn_lst (da_cons de_str (da_cons de_str da_nil))).bb (de_intB T.z_int (dab_cons (de_eqB hr.units (de_call (ok_law_flags T) hr (by rfl) (da_cons (de_var 2) da_nil)).bb (dn_lc rfl sc_law_told.nd (t := (.nm 4)) (di_range1 (by rfl) T.z_range de_int).bb (blkOk_by (own := [("k", 4)]) (N := ["text", "found", "caught", "e", "k"]) (sc := defScope s_law_told) (by decide +kernel)) rfl (fun _ _ _ _ _ => (pg_name (i := 4) sc_law_told.nd rfl (by first | exact Or.inl rfl | exact Or.inr rfl))) (fun _ _ _ _ _ => dts_nil) (fun _ _ _ _ _ => (de_eq hr.units (de_var 4).bb de_int.bb))).bb).bb dab_nil))) da_nil))).bb)))))), fun a Q hl q => by
    obtain ⟨t, o⟩ := a
    obtain ⟨ht, ho⟩ : tOk t ∧ ((o = none ∧ t ≠ Str.ofString "" ∧ ∃ w ∈ wordsT t, badW w) ∨ ∃ r : List Int, o = some r ∧ t = shT r ∧ r.length ≤ 1000 ∧ ∀ n ∈ r, -(10 : Int) ^ 14 < n ∧ n < (10 : Int) ^ 14) := hl
    have q : Q (dueT o) := q () trivial
    (try simp (config := { maxSteps := 3000000 }) only [rdInI, rdNinI, wDInT, wsPopAt, wsIns, rdIsBl, rdNotBl, rdInS, rdNinS, rdRepS, rdIntT, wJoinT, wsTry, wxNil, wxSeq, wxIf, wxRaise, wxDrop, wxSet, wxRet, wxOr, wxCallX, wxLen, wIsc, wIscT, wsAugIt, rdEqB, cxK, cxM, cxKn, cxMn, tyV_n, tyV_e, wxTup, wLcX, rdEqBB, wsDeck, flatE, flat, flatL, Bool.and_true, Bool.true_and, Bool.and_self, wsNil, wsSeq, wsBrk, wsCont, wsNever, wsFrz, wsRet, wsRetN, wsDrop, wsSet, wsSetN, wsSetD, wsTup, wsTupW, wsAug, wsIf, wsIfF, wsIfT, wsApp, wsExt, wsItem, wsFor, wsWhile, wVar, wOwn, wC, w2, w2T, wT, wAnd, wOr, wNot, wAndV, wOrV, wNotV, wIf, waNil, waCons, wTup, wLst, wL, wNeg, rdBin, rdEq, rdNe, rdOrd, rdIsN, rdNotN, wChain, wChain3, wRevT, rdInD, rdNinD, wIx, woN, woS, wSlL, wSlT, wSlS, wCall, wCallF, wCallN, FSpec.W, wItems, wRng1, wRng2, wRngD, wZip, wEnum, wLc, wYes, wBi, rdLen, rd1I, rd2I, rdInt, rdStr, rdTuple, Tg.w, Tg.ix, startE, List.map_cons, List.map_nil, List.cons_append, List.nil_append, List.length_cons, List.length_nil, Nat.add_zero, Nat.zero_add, Nat.reduceAdd, Nat.reduceSub, List.replicate_succ, List.replicate_zero, List.replicate, List.append_nil, List.getElem?_cons_zero, List.getElem?_cons_succ, List.getElem?_nil, List.set_cons_zero, List.set_cons_succ, List.set_nil, wipeE, Option.some.injEq, Sl.v.injEq, Sl.own.injEq, Dv.int.injEq, Dv.bl.injEq, Dv.lst.injEq, Dv.tup.injEq, Dv.str.injEq, Dv.scr.injEq, List.cons.injEq, reduceCtorEq, and_true, true_and, and_false, false_and, exists_eq_left, exists_eq_left', exists_eq_right, exists_eq_right', exists_and_left, exists_and_right, exists_eq, exists_const, false_or, or_false, Bool.false_eq_true, if_true, if_false, ite_true, ite_false, eq_self_iff_true, tyN, tyI, tyB, tyS, tyT, tyL, is_NoneType_int, is_NoneType_bool, is_NoneType_str, is_NoneType_tuple, is_NoneType_list, is_int_int, is_int_bool, is_int_str, is_int_tuple, is_int_list, is_bool_int, is_bool_bool, is_bool_str, is_bool_tuple, is_bool_list, is_str_int, is_str_bool, is_str_str, is_str_tuple, is_str_list, is_tuple_int, is_tuple_bool, is_tuple_str, is_tuple_tuple, is_tuple_list, is_list_int, is_list_bool, is_list_str, is_list_tuple, is_list_list, Bool.or_false, Bool.or_true, Bool.true_or, Bool.false_or, ixT0, ixT1, ixT2, ixT3, ixL0, ixL1, ixL2, ixL3, iff_true, and_assoc, decide_eq_true_eq, Bool.not_eq_true', Bool.not_eq_false', decide_eq_false_iff_not, Bool.not_true, Bool.not_false, bAi, bAs, bAt, bAl, bSi, bMi, bMl, bDi, bRi, bPi, cAi, cAs, cAt, cAl, cSi, cMi, cMl, cDi, cRi, cPi, itL, itT, itR, seL, seT, seR, leL, leT, leR, leS, lcL, lcT, lcR, lcS, xcL, xcT, xcR, xcS, orL, orE, orG, orH, mapI, iff_true, true_iff, iff_false, false_iff, forall_eq, Bool.not_eq_true, Bool.true_eq_false, reduceIte, List.length_append, List.length_range, List.length_map, forall_const, true_imp_iff, Nat.zero_le, Nat.reduceLeDiff, Int.toNat_natCast, Prod.exists, setAll, List.map_eq_nil_iff, mapP, rdMax, rdMin, wSort, rdMinD, rdMaxD, rdSum, wIsi, wIsi2, wIndexI, wGet2, wDIx, wDIn, wsDPut,  exists_const, ge_iff_le, gt_iff_lt])
    rcases ho with ⟨rfl, hne, hb⟩ | ⟨r, rfl, e, h1, h2⟩
    · refine .inr ⟨hb, ht, hne, T.x_NoText_SumError, 0, rfl, by decide, by decide, by decide, by decide, rfl, iv_fm (List.range 7) (fun j => .int ((j : Nat) : Int)) (fun _ => true) (fun j => .bl (decide (0 = j))) (rngD_zero rfl) (by simp [rngD_length]) (fun i a acc J ha h1 _ => ?_) ?_⟩
      · obtain ⟨rfl, hi⟩ := range_get ha
        refine ⟨.inl rfl, fun k hk => ?_⟩
        have e : k = decide (0 = a) := by
          cases k
          · exact (decide_eq_false fun z => by have := hk.mpr (by rw [← z]; rfl); cases this).symm
          · exact (decide_eq_true (by have := Dv.int.inj (hk.mp rfl); omega)).symm
        rw [e]
        exact h1 rfl
      · exact ⟨[true, false, false, false, false, false, false], rfl, [true, false, false, false, false, false, false], by rfl, _, rfl, q⟩
    · exact .inl ⟨r, e, h1, h2, q⟩⟩

abbrev S_law_right : FSpec := .det Str (fun t => [.str t]) tOk (fun _ => .bl true)
theorem ok_law_right (T : Txt K mg) : Cl P w K mg base 5 "_law_right" (spP K S_law_right) :=
  fn_P T.f_law_right sc_law_right (fun _ => rfl) fun f cdv A outer s H E hr => ⟨_, (dss_cons (ds_set (i := 1) sc_law_right.nd (dn_split (de_var 0)).ee)
      (dss_cons (ds_set (i := 2) sc_law_right.nd (de_call (ok_law_due T) hr (by rfl) (da_cons (de_var 0) da_nil)))
      (dss_cons (ds_set (i := 3) sc_law_right.nd (de_or (de_ord (de_len T.z_len (dab_cons (de_var 1).bb dab_nil)).bb de_int.bb) (de_one (de_ord (de_maxL rfl T.z_max (dab_cons (dn_lc rfl sc_law_right.nd (t := (.nm 4)) (di_seq (de_var 1)).bb (blkOk_by (own := [("word", 4)]) (N := ["text", "words", "due", "great", "word"]) (sc := defScope s_law_right) (by decide +kernel)) rfl (fun _ _ _ _ _ => (pg_name (i := 4) sc_law_right.nd rfl (by first | exact Or.inl rfl | exact Or.inr rfl))) (fun _ _ _ _ _ => dts_nil) (fun _ _ _ _ _ => (de_bin (de_len T.z_len (dab_cons (de_var 4).bb dab_nil)).bb (de_intB T.z_int (dab_cons (de_eq hr.units (de_sliceS (de_var 4) do_none (do_some de_int)).bb de_str.bb).bb dab_nil)).bb))).bb dab_nil)).bb de_int.bb))))
      (dss_cons (ds_if (dw_and (dt_val (de_var 3)) (dw_and1 (dt_notN (de_ix (de_var 2).bb de_int).bb de_non.bb))).tt (dss_one (ds_ret de_bl.bb)) dss_nil)
      (dss_one (ds_ret (de_and (de_call (ok_law_same T 3) hr (by rfl) (da_cons (de_call (ok_law_told T) hr (by rfl) (da_cons (de_var 0) da_nil)) (da_cons (de_var 2) da_nil))) (de_one (de_call (ok_law_same T 3) hr (by rfl) (da_cons (de_call (ok_law_told T) hr (by rfl) (da_cons (de_var 0) da_nil)) (da_cons (de_var 2) da_nil))))).bb)))))), fun (t : Str) Q ht q => by
    have ht : tOk t := ht
    have q : Q (.bl true) := q () trivial
    have hw : (Txt.split t (Str.ofString " ")).length ≤ t.length + 1 := words_len t
    have h5 := ht.ln
    (try simp (config := { maxSteps := 3000000 }) only [rdInI, rdNinI, wDInT, wsPopAt, wsIns, rdIsBl, rdNotBl, rdInS, rdNinS, rdRepS, rdIntT, wJoinT, wsTry, wxNil, wxSeq, wxIf, wxRaise, wxDrop, wxSet, wxRet, wxOr, wxCallX, wxLen, wIsc, wIscT, wsAugIt, rdEqB, cxK, cxM, cxKn, cxMn, tyV_n, tyV_e, wxTup, wLcX, rdEqBB, wsDeck, flatE, flat, flatL, Bool.and_true, Bool.true_and, Bool.and_self, wsNil, wsSeq, wsBrk, wsCont, wsNever, wsFrz, wsRet, wsRetN, wsDrop, wsSet, wsSetN, wsSetD, wsTup, wsTupW, wsAug, wsIf, wsIfF, wsIfT, wsApp, wsExt, wsItem, wsFor, wsWhile, wVar, wOwn, wC, w2, w2T, wT, wAnd, wOr, wNot, wAndV, wOrV, wNotV, wIf, waNil, waCons, wTup, wLst, wL, wNeg, rdBin, rdEq, rdNe, rdOrd, rdIsN, rdNotN, wChain, wChain3, wRevT, rdInD, rdNinD, wIx, woN, woS, wSlL, wSlT, wSlS, wCall, wCallF, wCallN, FSpec.W, wItems, wRng1, wRng2, wRngD, wZip, wEnum, wLc, wYes, wBi, rdLen, rd1I, rd2I, rdInt, rdStr, rdTuple, Tg.w, Tg.ix, startE, List.map_cons, List.map_nil, List.cons_append, List.nil_append, List.length_cons, List.length_nil, Nat.add_zero, Nat.zero_add, Nat.reduceAdd, Nat.reduceSub, List.replicate_succ, List.replicate_zero, List.replicate, List.append_nil, List.getElem?_cons_zero, List.getElem?_cons_succ, List.getElem?_nil, List.set_cons_zero, List.set_cons_succ, List.set_nil, wipeE, Option.some.injEq, Sl.v.injEq, Sl.own.injEq, Dv.int.injEq, Dv.bl.injEq, Dv.lst.injEq, Dv.tup.injEq, Dv.str.injEq, Dv.scr.injEq, List.cons.injEq, reduceCtorEq, and_true, true_and, and_false, false_and, exists_eq_left, exists_eq_left', exists_eq_right, exists_eq_right', exists_and_left, exists_and_right, exists_eq, exists_const, false_or, or_false, Bool.false_eq_true, if_true, if_false, ite_true, ite_false, eq_self_iff_true, tyN, tyI, tyB, tyS, tyT, tyL, is_NoneType_int, is_NoneType_bool, is_NoneType_str, is_NoneType_tuple, is_NoneType_list, is_int_int, is_int_bool, is_int_str, is_int_tuple, is_int_list, is_bool_int, is_bool_bool, is_bool_str, is_bool_tuple, is_bool_list, is_str_int, is_str_bool, is_str_str, is_str_tuple, is_str_list, is_tuple_int, is_tuple_bool, is_tuple_str, is_tuple_tuple, is_tuple_list, is_list_int, is_list_bool, is_list_str, is_list_tuple, is_list_list, Bool.or_false, Bool.or_true, Bool.true_or, Bool.false_or, ixT0, ixT1, ixT2, ixT3, ixL0, ixL1, ixL2, ixL3, iff_true, and_assoc, decide_eq_true_eq, Bool.not_eq_true', Bool.not_eq_false', decide_eq_false_iff_not, Bool.not_true, Bool.not_false, bAi, bAs, bAt, bAl, bSi, bMi, bMl, bDi, bRi, bPi, cAi, cAs, cAt, cAl, cSi, cMi, cMl, cDi, cRi, cPi, itL, itT, itR, seL, seT, seR, leL, leT, leR, leS, lcL, lcT, lcR, lcS, xcL, xcT, xcR, xcS, orL, orE, orG, orH, mapI, iff_true, true_iff, iff_false, false_iff, forall_eq, Bool.not_eq_true, Bool.true_eq_false, reduceIte, List.length_append, List.length_range, List.length_map, forall_const, true_imp_iff, Nat.zero_le, Nat.reduceLeDiff, Int.toNat_natCast, Prod.exists, setAll, List.map_eq_nil_iff, mapP, rdMax, rdMin, wSort, rdMinD, rdMaxD, rdSum, wIsi, wIsi2, wIndexI, wGet2, wDIx, wDIn, wsDPut,  exists_const, ge_iff_le, gt_iff_lt])
    have ak : ∀ o : Option (List Int), (∀ r, o = some r → r.length ≤ 1000) → ∃ m, m < 3 ∧ akin m (dueT o) = true := fun o h => ⟨2, by decide, by
      cases o with
      | none => rfl
      | some r =>
        have := h r rfl
        have h1 : r.length ≤ 100000 := by omega
        simp [dueT, akin, h1]⟩
    have told : ∀ o : Option (List Int), ((o = none ∧ t ≠ Str.ofString "" ∧ ∃ w, w ∈ wordsT t ∧ badW w) ∨ ∃ r, o = some r ∧ t = shT r ∧ r.length ≤ 1000 ∧ ∀ (n : Int), n ∈ r → -10 ^ 14 < n ∧ n < 10 ^ 14) →
        tOk t ∧ ∃ x, ((x = none ∧ t ≠ Str.ofString "" ∧ ∃ w, w ∈ wordsT t ∧ badW w) ∨ ∃ r, x = some r ∧ t = shT r ∧ r.length ≤ 1000 ∧ ∀ (n : Int), n ∈ r → -10 ^ 14 < n ∧ n < 10 ^ 14) ∧ dueT o = dueT x ∧ (∃ m, m < 3 ∧ akin m (dueT x) = true) ∧
        tOk t ∧ ∃ x, ((x = none ∧ t ≠ Str.ofString "" ∧ ∃ w, w ∈ wordsT t ∧ badW w) ∨ ∃ r, x = some r ∧ t = shT r ∧ r.length ≤ 1000 ∧ ∀ (n : Int), n ∈ r → -10 ^ 14 < n ∧ n < 10 ^ 14) ∧ dueT o = dueT x ∧ (∃ m, m < 3 ∧ akin m (dueT x) = true) ∧ Q (Dv.bl true) := fun o h => by
      have ha := ak o fun r e => by
        rcases h with ⟨z, _⟩ | ⟨r', e', _, z, _⟩
        · rw [z] at e; cases e
        · rw [e'] at e; cases e; exact z
      exact ⟨ht, o, h, rfl, ha, ht, o, h, rfl, ha, q⟩
    refine ⟨by decide +kernel, by omega, ht, fun o ho => ?_⟩
    have none_of : o = none → ((o = none ∧ t ≠ Str.ofString "" ∧ ∃ w, w ∈ wordsT t ∧ badW w) ∨ ∃ r, o = some r ∧ t = shT r ∧ r.length ≤ 1000 ∧ ∀ (n : Int), n ∈ r → -10 ^ 14 < n ∧ n < 10 ^ 14) := fun e => by
      rcases ho with h | ⟨r, h, _⟩
      · exact .inl h
      · rw [e] at h; cases h
    refine ite2 (fun _ => ?_) fun h60 => ?_
    · skip
      cases o with
      | none => exact ⟨.non, rfl, trivial, fun k hk => by rw [hk.mpr rfl, if_neg (by decide)]; exact told none (none_of rfl)⟩
      | some r => exact ⟨rowD r, rfl, trivial, fun k hk => by
          have : k = false := by
            cases k with
            | false => rfl
            | true => exact nomatch hk.mp rfl
          rw [this, if_pos rfl]
          exact q⟩
    · refine ⟨by omega, rfl, iv_fm (wordsT t) Dv.str (fun _ => true) (fun w => .int (dlW w)) rfl (by rw []) (fun i w acc J hw h1 _ => ?_) ?_⟩
      · have hm := ht.wd w (List.mem_of_getElem? hw)
        refine ⟨w.length, by simp [lenD], by show w.length ≤ _; omega, w, rfl, by omega, .inl rfl, fun k hk => ?_⟩
        have e : (if k = true then (1 : Int) else 0) = if cutS w none (some 1) = Str.ofString "-" then 1 else 0 := by
          by_cases z : cutS w none (some 1) = Str.ofString "-"
          · rw [hk.mpr z, if_pos rfl, if_pos z]
          · rw [if_neg z, if_neg fun y => z (hk.mp y)]
        rw [e]
        exact h1 rfl
      · rw [List.filter_eq_self.mpr fun _ _ => rfl]
        refine ⟨(wordsT t).map dlW, by rw [List.map_map]; rfl, by rw [List.length_map]; exact List.length_pos_iff.mpr (words_ne t), fun m hm hmx => ite2 (fun _ => ?_) fun h12 => ?_⟩
        · skip
          cases o with
          | none => exact ⟨.non, rfl, trivial, fun k hk => by rw [hk.mpr rfl, if_neg (by decide)]; exact told none (none_of rfl)⟩
          | some r => exact ⟨rowD r, rfl, trivial, fun k hk => by
              have : k = false := by
                cases k with
                | false => rfl
                | true => exact nomatch hk.mp rfl
              rw [this, if_pos rfl]
              exact q⟩
        · refine told o ?_
          rcases ho with h | ⟨r, e, e1, e2⟩
          · exact .inl h
          · refine .inr ⟨r, e, e1, ?_, fun n hn => ?_⟩
            · by_cases z : r = []
              · rw [z]; decide
              · have h3 : (Txt.split t (Str.ofString " ")).length = r.length := by rw [show Txt.split t (Str.ofString " ") = r.map strI from e2 z, List.length_map]
                omega
            · have h3 := e2 (List.ne_nil_of_mem hn)
              refine dl_small ?_
              have h4 := hmx (dlW (strI n)) (List.mem_map.mpr ⟨strI n, by rw [h3]; exact List.mem_map.mpr ⟨n, hn, rfl⟩, rfl⟩)
              omega
    ⟩

abbrev S_law_sign (i : Addr × Addr) : FSpec := ⟨Unit, Nat, fun _ => [.ref i.1], fun _ => True, fun _ c => c < 128, fun _ c => .str ⟨#[c]⟩⟩
theorem ok_law_sign (T : Txt K mg) : Cl P w K mg base 2 "_law_sign" (spI K RD S_law_sign) :=
  fn_I (Rf := RD) (Sf := S_law_sign) T.f_law_sign sc_law_sign (fun _ _ => rfl) fun i f cdv A outer s H E hr => ⟨_, (dss_cons (ds_set (i := 1) sc_law_sign.nd de_str)
      (dss_cons (ds_set (i := 1) sc_law_sign.nd (de_bin (de_var 1).bb de_str.bb))
      (dss_cons (ds_set (i := 2) sc_law_sign.nd (de_ix (dn_lst (da_cons de_str (da_cons (de_var 1) da_nil))).bb (de_callR (ok_law_take T) hr (by rfl) (da_cons (de_var 0) (da_cons de_int da_nil)))))
      (dss_one (ds_ret (de_ix (de_var 2).bb (de_callR (ok_law_take T) hr (by rfl) (da_cons (de_var 0) (da_cons (de_len T.z_len (dab_cons (de_var 2).bb dab_nil)) da_nil)))).bb))))), fun a Q hl q => by
    have q : ∀ c : Nat, c < 128 → Q (.str ⟨#[c]⟩) := fun c h => q c h
    (try simp (config := { maxSteps := 3000000 }) only [rdInI, rdNinI, wDInT, wsPopAt, wsIns, rdIsBl, rdNotBl, rdInS, rdNinS, rdRepS, rdIntT, wJoinT, wsTry, wxNil, wxSeq, wxIf, wxRaise, wxDrop, wxSet, wxRet, wxOr, wxCallX, wxLen, wIsc, wIscT, wsAugIt, rdEqB, cxK, cxM, cxKn, cxMn, tyV_n, tyV_e, wxTup, wLcX, rdEqBB, wsDeck, flatE, flat, flatL, Bool.and_true, Bool.true_and, Bool.and_self, wsNil, wsSeq, wsBrk, wsCont, wsNever, wsFrz, wsRet, wsRetN, wsDrop, wsSet, wsSetN, wsSetD, wsTup, wsTupW, wsAug, wsIf, wsIfF, wsIfT, wsApp, wsExt, wsItem, wsFor, wsWhile, wVar, wOwn, wC, w2, w2T, wT, wAnd, wOr, wNot, wAndV, wOrV, wNotV, wIf, waNil, waCons, wTup, wLst, wL, wNeg, rdBin, rdEq, rdNe, rdOrd, rdIsN, rdNotN, wChain, wChain3, wRevT, rdInD, rdNinD, wIx, woN, woS, wSlL, wSlT, wSlS, wCall, wCallF, wCallN, FSpec.W, wItems, wRng1, wRng2, wRngD, wZip, wEnum, wLc, wYes, wBi, rdLen, rd1I, rd2I, rdInt, rdStr, rdTuple, Tg.w, Tg.ix, startE, List.map_cons, List.map_nil, List.cons_append, List.nil_append, List.length_cons, List.length_nil, Nat.add_zero, Nat.zero_add, Nat.reduceAdd, Nat.reduceSub, List.replicate_succ, List.replicate_zero, List.replicate, List.append_nil, List.getElem?_cons_zero, List.getElem?_cons_succ, List.getElem?_nil, List.set_cons_zero, List.set_cons_succ, List.set_nil, wipeE, Option.some.injEq, Sl.v.injEq, Sl.own.injEq, Dv.int.injEq, Dv.bl.injEq, Dv.lst.injEq, Dv.tup.injEq, Dv.str.injEq, Dv.scr.injEq, List.cons.injEq, reduceCtorEq, and_true, true_and, and_false, false_and, exists_eq_left, exists_eq_left', exists_eq_right, exists_eq_right', exists_and_left, exists_and_right, exists_eq, exists_const, false_or, or_false, Bool.false_eq_true, if_true, if_false, ite_true, ite_false, eq_self_iff_true, tyN, tyI, tyB, tyS, tyT, tyL, is_NoneType_int, is_NoneType_bool, is_NoneType_str, is_NoneType_tuple, is_NoneType_list, is_int_int, is_int_bool, is_int_str, is_int_tuple, is_int_list, is_bool_int, is_bool_bool, is_bool_str, is_bool_tuple, is_bool_list, is_str_int, is_str_bool, is_str_str, is_str_tuple, is_str_list, is_tuple_int, is_tuple_bool, is_tuple_str, is_tuple_tuple, is_tuple_list, is_list_int, is_list_bool, is_list_str, is_list_tuple, is_list_list, Bool.or_false, Bool.or_true, Bool.true_or, Bool.false_or, ixT0, ixT1, ixT2, ixT3, ixL0, ixL1, ixL2, ixL3, iff_true, and_assoc, decide_eq_true_eq, Bool.not_eq_true', Bool.not_eq_false', decide_eq_false_iff_not, Bool.not_true, Bool.not_false, bAi, bAs, bAt, bAl, bSi, bMi, bMl, bDi, bRi, bPi, cAi, cAs, cAt, cAl, cSi, cMi, cMl, cDi, cRi, cPi, itL, itT, itR, seL, seT, seR, leL, leT, leR, leS, lcL, lcT, lcR, lcS, xcL, xcT, xcR, xcS, orL, orE, orG, orH, mapI, iff_true, true_iff, iff_false, false_iff, forall_eq, Bool.not_eq_true, Bool.true_eq_false, reduceIte, List.length_append, List.length_range, List.length_map, forall_const, true_imp_iff, Nat.zero_le, Nat.reduceLeDiff, Int.toNat_natCast, Prod.exists, setAll, List.map_eq_nil_iff, mapP, rdMax, rdMin, wSort, rdMinD, rdMaxD, rdSum, wIsi, wIsi2, wIndexI, wGet2, wDIx, wDIn, wsDPut,  exists_const, ge_iff_le, gt_iff_lt])
    have e1 : (Str.ofString " !\"#$&'()*+,-./0123456789:;<=>?@ABCDEFGHIJKLMNOP" ++ Str.ofString "QRSTUVWXYZ[\\]^_`abcdefghijklmnopqrstuvwxyz{|}~\n").cps.toList.all (fun c => decide (c < 128)) = true := by decide +kernel
    have e0 : (Str.ofString "0019 -  +_\n").cps.toList.all (fun c => decide (c < 128)) = true := by decide +kernel
    have one : ∀ (s : Str) (n : Nat), s.length = n → 0 < n → n ≤ 200 → s.cps.toList.all (fun c => decide (c < 128)) = true → ∃ x, lenD (.str s) = some x ∧ lenC (.str s) ∧ 0 < (x : Int) ∧ (x : Int) < 2 ^ 64 ∧ ∀ (b : Int), 0 ≤ b ∧ b < (x : Int) → ∃ z_1, ixD (.str s) (Dv.int b) = some z_1 ∧ ixC (.str s) ∧ Q z_1 := fun s n hn h0 h2 ha => by
      have h64 : (2 : Int) ^ 64 = 18446744073709551616 := by decide
      refine ⟨s.length, by simp [lenD], by show s.length ≤ _; omega, by omega, by omega, fun b hb => ?_⟩
      obtain ⟨j, rfl⟩ : ∃ j : Nat, b = j := ⟨b.toNat, by omega⟩
      have hj : j < s.cps.toList.length := by
        have : s.length = s.cps.toList.length := by simp [Str.length]
        omega
      refine ⟨.str ⟨#[s.cps.toList[j]]⟩, ?_, by show s.length ≤ _; omega, q _ (of_decide_eq_true (List.all_eq_true.mp ha _ (List.getElem_mem hj)))⟩
      show (L2.atI s.cps.toList ((j : Nat) : Int)).map _ = _
      rw [atI_nat (j := j) (v := s.cps.toList[j]) (List.getElem?_eq_getElem hj)]
      rfl
    refine ⟨by decide +kernel, by decide, by decide, fun b hb => ?_⟩
    have : b = 0 ∨ b = 1 := by omega
    rcases this with rfl | rfl
    · exact ⟨_, ix_nat (i := 0) rfl, one _ 11 (by decide +kernel) (by decide) (by decide) e0⟩
    · exact ⟨_, ix_nat (i := 1) rfl, one _ 95 (by decide +kernel) (by decide) (by decide) e1⟩⟩

abbrev S_law_spoilt (i : Addr × Addr) : FSpec := ⟨Nat × Nat × Str, Str, fun a => [.ref i.1, .str a.2.2], fun a => BF a.1 (TL.tl a.2.2) ∧ okT a.2.2 ∧ a.2.2.length ≤ a.2.1 ∧ a.2.1 ≤ 40000 ∧ a.1 ≤ 1000, fun a b => BF (2 * a.1 + 10) (TL.tl b) ∧ okT b ∧ b.length ≤ a.2.1 + a.1 + 10, fun _ b => .str b⟩
theorem ok_law_spoilt (T : Txt K mg) : Cl P w K mg base 3 "_law_spoilt" (spI K RD S_law_spoilt) :=
  fn_I (Rf := RD) (Sf := S_law_spoilt) T.f_law_spoilt sc_law_spoilt (fun _ _ => rfl) fun i f cdv A outer s H E hr => ⟨_, (dss_cons (ds_set (i := 2) sc_law_spoilt.nd (de_callR (ok_law_take T) hr (by rfl) (da_cons (de_var 0) (da_cons (de_bin (de_len T.z_len (dab_cons (de_var 1).bb dab_nil)).bb de_int.bb) da_nil))))
      (dss_cons (ds_set (i := 3) sc_law_spoilt.nd (de_callR (ok_law_take T) hr (by rfl) (da_cons (de_var 0) (da_cons de_int da_nil))))
      (dss_cons (ds_setN (i := 4) sc_law_spoilt.nd (dn_split (de_var 1)))
      (dss_cons (ds_set (i := 5) sc_law_spoilt.nd (de_callR (ok_law_take T) hr (by rfl) (da_cons (de_var 0) (da_cons (de_len T.z_len (dab_cons (db_own 4) dab_nil)) da_nil))))
      (dss_cons (ds_set (i := 6) sc_law_spoilt.nd (dn_lst (da_cons de_str (da_cons de_str (da_cons de_str (da_cons de_str (da_cons de_str (da_cons de_str (da_cons de_str (da_cons de_str (da_cons de_str (da_cons de_str (da_cons de_str (da_cons de_str (da_cons de_str (da_cons de_str (da_cons de_str (da_cons de_str (da_cons de_str da_nil)))))))))))))))))).ee)
      (dss_cons (ds_set (i := 7) sc_law_spoilt.nd (de_ix (dn_cat (de_var 6).bb (dn_lst (da_cons (de_strI T.z_str (dab_cons (de_callR (ok_law_take T) hr (by rfl) (da_cons (de_var 0) (da_cons (de_bin de_int.bb de_int.bb) da_nil))).bb dab_nil)) da_nil)).bb).bb (de_callR (ok_law_take T) hr (by rfl) (da_cons (de_var 0) (da_cons de_int da_nil)))))
      (dss_cons (ds_if (dt_eq hr.units (de_var 3).bb de_int.bb) (dss_one (ds_ret (de_bin (de_sliceS (de_var 1) do_none (do_some (de_var 2))).bb (de_sliceS (de_var 1) (do_some (de_bin (de_var 2).bb de_int.bb)) do_none).bb).bb)) dss_nil)
      (dss_cons (ds_if (dt_eq hr.units (de_var 3).bb de_int.bb) (dss_one (ds_ret (de_bin (de_bin (de_sliceS (de_var 1) do_none (do_some (de_var 2))).bb (de_callR (ok_law_sign T) hr (by rfl) (da_cons (de_var 0) da_nil)).bb).bb (de_sliceS (de_var 1) (do_some (de_var 2)) do_none).bb).bb)) dss_nil)
      (dss_cons (ds_if (dt_eq hr.units (de_var 3).bb de_int.bb) (dss_one (ds_ret (de_bin (de_bin (de_sliceS (de_var 1) do_none (do_some (de_var 2))).bb (de_callR (ok_law_sign T) hr (by rfl) (da_cons (de_var 0) da_nil)).bb).bb (de_sliceS (de_var 1) (do_some (de_bin (de_var 2).bb de_int.bb)) do_none).bb).bb)) dss_nil)
      (dss_cons (ds_if (dt_eq hr.units (de_var 3).bb de_int.bb) (dss_one (ds_insert 4 (de_callR (ok_law_take T) hr (by rfl) (da_cons (de_var 0) (da_cons (de_bin (de_len T.z_len (dab_cons (db_own 4) dab_nil)).bb de_int.bb) da_nil))) (de_var 7))) (dss_one (ds_if (dt_eq hr.units (de_var 3).bb de_int.bb) (dss_one (ds_popAt 4 (de_var 5))) (dss_one (ds_if (dt_eq hr.units (de_var 3).bb de_int.bb) (dss_one (ds_item 4 (de_var 5) (de_var 7))) (dss_one (ds_insert 4 (de_callR (ok_law_take T) hr (by rfl) (da_cons (de_var 0) (da_cons (de_bin (de_len T.z_len (dab_cons (db_own 4) dab_nil)).bb de_int.bb) da_nil))) (de_ix (db_own 4) (de_var 5)))))))))
      (dss_one (ds_ret (de_joinT (db_own 4)).bb)))))))))))), fun a Q hl q => by
    obtain ⟨k, n, t⟩ := a
    obtain ⟨h1, h2, h3, h4, h5⟩ : BF k (TL.tl t) ∧ okT t ∧ t.length ≤ n ∧ n ≤ 40000 ∧ k ≤ 1000 := hl
    have q : ∀ b : Str, BF (2 * k + 10) (TL.tl b) → okT b → b.length ≤ n + k + 10 → Q (.str b) := fun b x y z => q b ⟨x, y, z⟩
    (try simp (config := { maxSteps := 3000000 }) only [rdInI, rdNinI, wDInT, wsPopAt, wsIns, rdIsBl, rdNotBl, rdInS, rdNinS, rdRepS, rdIntT, wJoinT, wsTry, wxNil, wxSeq, wxIf, wxRaise, wxDrop, wxSet, wxRet, wxOr, wxCallX, wxLen, wIsc, wIscT, wsAugIt, rdEqB, cxK, cxM, cxKn, cxMn, tyV_n, tyV_e, wxTup, wLcX, rdEqBB, wsDeck, flatE, flat, flatL, Bool.and_true, Bool.true_and, Bool.and_self, wsNil, wsSeq, wsBrk, wsCont, wsNever, wsFrz, wsRet, wsRetN, wsDrop, wsSet, wsSetN, wsSetD, wsTup, wsTupW, wsAug, wsIf, wsIfF, wsIfT, wsApp, wsExt, wsItem, wsFor, wsWhile, wVar, wOwn, wC, w2, w2T, wT, wAnd, wOr, wNot, wAndV, wOrV, wNotV, wIf, waNil, waCons, wTup, wLst, wL, wNeg, rdBin, rdEq, rdNe, rdOrd, rdIsN, rdNotN, wChain, wChain3, wRevT, rdInD, rdNinD, wIx, woN, woS, wSlL, wSlT, wSlS, wCall, wCallF, wCallN, FSpec.W, wItems, wRng1, wRng2, wRngD, wZip, wEnum, wLc, wYes, wBi, rdLen, rd1I, rd2I, rdInt, rdStr, rdTuple, Tg.w, Tg.ix, startE, List.map_cons, List.map_nil, List.cons_append, List.nil_append, List.length_cons, List.length_nil, Nat.add_zero, Nat.zero_add, Nat.reduceAdd, Nat.reduceSub, List.replicate_succ, List.replicate_zero, List.replicate, List.append_nil, List.getElem?_cons_zero, List.getElem?_cons_succ, List.getElem?_nil, List.set_cons_zero, List.set_cons_succ, List.set_nil, wipeE, Option.some.injEq, Sl.v.injEq, Sl.own.injEq, Dv.int.injEq, Dv.bl.injEq, Dv.lst.injEq, Dv.tup.injEq, Dv.str.injEq, Dv.scr.injEq, List.cons.injEq, reduceCtorEq, and_true, true_and, and_false, false_and, exists_eq_left, exists_eq_left', exists_eq_right, exists_eq_right', exists_and_left, exists_and_right, exists_eq, exists_const, false_or, or_false, Bool.false_eq_true, if_true, if_false, ite_true, ite_false, eq_self_iff_true, tyN, tyI, tyB, tyS, tyT, tyL, is_NoneType_int, is_NoneType_bool, is_NoneType_str, is_NoneType_tuple, is_NoneType_list, is_int_int, is_int_bool, is_int_str, is_int_tuple, is_int_list, is_bool_int, is_bool_bool, is_bool_str, is_bool_tuple, is_bool_list, is_str_int, is_str_bool, is_str_str, is_str_tuple, is_str_list, is_tuple_int, is_tuple_bool, is_tuple_str, is_tuple_tuple, is_tuple_list, is_list_int, is_list_bool, is_list_str, is_list_tuple, is_list_list, Bool.or_false, Bool.or_true, Bool.true_or, Bool.false_or, ixT0, ixT1, ixT2, ixT3, ixL0, ixL1, ixL2, ixL3, iff_true, and_assoc, decide_eq_true_eq, Bool.not_eq_true', Bool.not_eq_false', decide_eq_false_iff_not, Bool.not_true, Bool.not_false, bAi, bAs, bAt, bAl, bSi, bMi, bMl, bDi, bRi, bPi, cAi, cAs, cAt, cAl, cSi, cMi, cMl, cDi, cRi, cPi, itL, itT, itR, seL, seT, seR, leL, leT, leR, leS, lcL, lcT, lcR, lcS, xcL, xcT, xcR, xcS, orL, orE, orG, orH, mapI, iff_true, true_iff, iff_false, false_iff, forall_eq, Bool.not_eq_true, Bool.true_eq_false, reduceIte, List.length_append, List.length_range, List.length_map, forall_const, true_imp_iff, Nat.zero_le, Nat.reduceLeDiff, Int.toNat_natCast, Prod.exists, setAll, List.map_eq_nil_iff, mapP, rdMax, rdMin, wSort, rdMinD, rdMaxD, rdSum, wIsi, wIsi2, wIndexI, wGet2, wDIx, wDIn, wsDPut,  exists_const, ge_iff_le, gt_iff_lt])
    have hw : (Txt.split t (Str.ofString " ")).length ≤ t.length + 1 := words_len t
    have hwp : 0 < (Txt.split t (Str.ofString " ")).length := List.length_pos_iff.mpr (words_ne t)
    have w1 : ∀ w ∈ wordsT t, w.length ≤ k ∧ okT w := fun w hw => ⟨bf_words h1 hw, words_ok h2 hw⟩
    have hs := wSum_words t
    have h64 : (2 : Int) ^ 64 = 18446744073709551616 := by decide
    have p6 : CPow 10 6 := ⟨by decide, by decide, by decide⟩
    have e6 : (10 : Int) ^ Int.toNat 6 = 1000000 := by decide
    rw [h64, e6]
    have fin : ∀ (L : List Dv) (ys : List Str), L = ys.map Dv.str → (∀ y ∈ ys, y.length ≤ k + 7 ∧ okT y) → wSum ys ≤ t.length + k + 10 → ∃ ys : List Str, L = List.map Dv.str ys ∧ (List.map (fun x => x.length) ys).sum + ys.length * (Str.ofString " ").length ≤ 16777216 ∧ Q (Dv.str (Txt.join (Str.ofString " ") ys)) := fun L ys e hy hsum => by
      refine ⟨ys, e, ?_, q _ ((join_bf fun y h => (hy y h).1).mono (by omega)) (join_ok fun y h => (hy y h).2) (by have := join_len ys; omega)⟩
      rw [show (Str.ofString " ").length = 1 by decide +kernel, wSum_eq]
      omega
    refine ⟨t.length, by simp [lenD], by omega, by omega, by omega, fun b hb => ⟨by decide, by decide, fun b1 hb1 => ⟨by decide +kernel, by omega, by omega, by omega, fun b2 hb2 => ⟨p6, by decide, by decide, fun b3 hb3 => ?_⟩⟩⟩⟩
    refine ⟨nlog ⟨by omega, by omega⟩, by decide, by decide, fun b4 hb4 => ?_⟩
    obtain ⟨z, hz, ez⟩ := ixS (xs := oddL ++ [strI b3]) (c := b4) hb4.1 (by show b4 < (18 : Int); exact hb4.2)
    have hz7 : z.length ≤ 7 ∧ okT z := by
      rcases List.mem_append.mp hz with y | y
      · exact odd_ok z y
      · rw [List.mem_singleton.mp y]
        exact ⟨strI_len (k := 6) (by decide) ⟨by omega, by omega⟩, okT_strI b3⟩
    refine ⟨.str z, ez, ?_⟩
    obtain ⟨j, rfl⟩ : ∃ j : Nat, b = j := ⟨b.toNat, by omega⟩
    have hlt : t.length = (TL.tl t).length := TL.len_tl t
    have c1 : (cutS t none (some (j : Int))).length = min j t.length := by rw [TL.len_tl, cutS_to, List.length_take, hlt]
    have c2 : ∀ i : Nat, (cutS t (some (i : Int)) none).length = t.length - i := fun i => by rw [TL.len_tl, cutS_from, List.length_drop, hlt]
    have ej : ((j : Nat) : Int) + 1 = ((j + 1 : Nat) : Int) := by omega
    have one : ∀ c : Nat, ({ cps := #[c] } : Str).length = 1 := fun _ => rfl
    have ins : ∀ (n : Nat) (x : Str), x.length ≤ k + 7 → okT x → ∃ ys : List Str, List.take n (List.map Dv.str (Txt.split t (Str.ofString " "))) ++ [Dv.str x] ++ List.drop n (List.map Dv.str (Txt.split t (Str.ofString " "))) = List.map Dv.str ys ∧ (List.map (fun x => x.length) ys).sum + ys.length * (Str.ofString " ").length ≤ 16777216 ∧ Q (Dv.str (Txt.join (Str.ofString " ") ys)) := fun n x hx ho => by
      refine fin _ ((wordsT t).take n ++ [x] ++ (wordsT t).drop n) (by rw [List.map_append, List.map_append, List.map_take, List.map_drop]; rfl) (fun y hy => ?_) ?_
      · rcases List.mem_append.mp hy with hy | hy
        · rcases List.mem_append.mp hy with hy | hy
          · have := w1 y (List.mem_of_mem_take hy); exact ⟨by omega, this.2⟩
          · rw [List.mem_singleton.mp hy]; exact ⟨hx, ho⟩
        · have := w1 y (List.mem_of_mem_drop hy); exact ⟨by omega, this.2⟩
      · have e : wSum (wordsT t) = wSum ((wordsT t).take n) + wSum ((wordsT t).drop n) := by rw [← wSum_app, List.take_append_drop]
        rw [wSum_app, wSum_app, show wSum [x] = x.length + 1 from rfl]
        omega
    refine eq_ifI (fun _ => ?_) fun _ => eq_ifI (fun _ => ?_) fun _ => eq_ifI (fun _ => ?_) fun _ => eq_ifI (fun _ => ?_) fun _ => eq_ifI (fun _ => ?_) fun _ => eq_ifI (fun _ => ?_) fun _ => ?_
    · rw [ej]
      have := c2 (j + 1)
      refine ⟨by omega, by omega, by omega, q _ ?_ (okT_app (okT_to h2 j) (okT_from h2 (j + 1))) (by rw [app_len]; omega)⟩
      rw [TL.tl_append]
      exact ((bf_to h1 j).app (bf_from h1 (j + 1))).mono (by omega)
    · have := c2 j
      refine ⟨by omega, fun c hc => ⟨by rw [one]; omega, by omega, by rw [app_len, one]; omega, q _ ?_ (okT_app (okT_app (okT_to h2 j) (okT_one hc)) (okT_from h2 j)) (by rw [app_len, app_len, one]; omega)⟩⟩
      rw [TL.tl_append, TL.tl_append]
      exact (((bf_to h1 j).app (bf_one c)).app (bf_from h1 j)).mono (by omega)
    · rw [ej]
      have := c2 (j + 1)
      refine ⟨by omega, fun c hc => ⟨by rw [one]; omega, by omega, by rw [app_len, one]; omega, q _ ?_ (okT_app (okT_app (okT_to h2 j) (okT_one hc)) (okT_from h2 (j + 1))) (by rw [app_len, app_len, one]; omega)⟩⟩
      rw [TL.tl_append, TL.tl_append]
      exact (((bf_to h1 j).app (bf_one c)).app (bf_from h1 (j + 1))).mono (by omega)
    · refine ⟨by omega, by omega, fun b5 hb5 => ⟨b5.toNat, by omega, by omega, by omega, ins b5.toNat z (by omega) hz7.2⟩⟩
    · refine ⟨b2.toNat, by omega, by omega, by omega, fin _ ((wordsT t).eraseIdx b2.toNat) (str_erase _ _) (fun y hy => ?_) ?_⟩
      · have := w1 y ((List.eraseIdx_sublist _ _).subset hy); exact ⟨by omega, this.2⟩
      · have := wSum_sub (List.eraseIdx_sublist (wordsT t) b2.toNat); omega
    · obtain ⟨i, rfl⟩ : ∃ i : Nat, b2 = i := ⟨b2.toNat, by omega⟩
      refine ⟨i, ixN_nat (by omega), fin _ ((wordsT t).set i z) (by rw [List.map_set]) (fun y hy => ?_) ?_⟩
      · rcases List.mem_or_eq_of_mem_set hy with hy | hy
        · have := w1 y hy; exact ⟨by omega, this.2⟩
        · rw [hy]; exact ⟨by omega, hz7.2⟩
      · have := wSum_set z (wordsT t) i; omega
    · refine ⟨by omega, by omega, fun b5 hb5 => ?_⟩
      obtain ⟨x, hx, ex⟩ := ixS (xs := wordsT t) (c := b2) hb2.1 (by exact hb2.2)
      have := w1 x hx
      exact ⟨.str x, ex, b5.toNat, by omega, by omega, by omega, ins b5.toNat x (by omega) this.2⟩⟩

theorem ok_law {f : Addr} {fd : FuncData} (F : Fun K "law" "law" s_law f fd) (T : Txt K mg) : FnOk P w K mg base CX0 6 f fd ["script"] (spP K S_law) :=
  fn_F F sc_law (fun _ => rfl) fun f cdv A outer s H E hr => ⟨_, (dss_deck (slot := 1) (ok_law_deck T) hr (by rfl) sc_law.nd (da_cons (de_var 0) da_nil) fun i =>
      (dss_cons (ds_for (.nm 2) [2, 3, 4] PassesOwn.never rfl (di_range1 (by rfl) T.z_range de_int) (pg_name (i := 2) sc_law.nd rfl (by first | exact Or.inl rfl | exact Or.inr rfl)) (dss_cons (ds_set (i := 3) sc_law.nd (de_joinT (dn_lc rfl sc_law.nd (t := (.nm 10)) (di_seq (de_callR (ok_law_row T) hr (by rfl) (da_cons (de_var 1) (da_cons de_int da_nil)))).bb (blkOk_by (own := [("number", 10)]) (N := ["script", "deck", "turn", "text", "again", "once", "free", "errors", "k", "one", "number", "j"]) (sc := defScope s_law) (by decide +kernel)) rfl (fun _ _ _ _ _ => (pg_name (i := 10) sc_law.nd rfl (by first | exact Or.inl rfl | exact Or.inr rfl))) (fun _ _ _ _ _ => dts_nil) (fun _ _ _ _ _ => (de_strI T.z_str (dab_cons (de_var 10).bb dab_nil)))).bb))
      (dss_one (ds_for (.nm 4) [4, 5] PassesOwn.never rfl (di_range1 (by rfl) T.z_range de_int) (pg_name (i := 4) sc_law.nd rfl (by first | exact Or.inl rfl | exact Or.inr rfl)) (dss_cons (ds_set (i := 5) sc_law.nd (de_callR (ok_law_spoilt T) hr (by rfl) (da_cons (de_var 1) (da_cons (de_var 3) da_nil))))
      (dss_one (ds_if (dw_or (dt_not (dt_val (de_call (ok_law_right T) hr (by rfl) (da_cons (de_var 3) da_nil)))) (dw_or (dt_not (dt_val (de_call (ok_law_right T) hr (by rfl) (da_cons (de_var 5) da_nil)))) (dw_or1 (dt_not (dt_val (de_call (ok_law_right T) hr (by rfl) (da_cons (de_callR (ok_law_spoilt T) hr (by rfl) (da_cons (de_var 1) (da_cons (de_var 5) da_nil))) da_nil))))))).tt (dss_one (ds_ret de_bl.bb)) dss_nil)))))))
      (dss_cons (ds_set (i := 6) sc_law.nd (de_joinT (dn_lc rfl sc_law.nd (t := (.nm 8)) (di_range1 (by rfl) T.z_range (de_callR (ok_law_take T) hr (by rfl) (da_cons (de_var 1) (da_cons de_int da_nil)))).bb (blkOk_by (own := [("k", 8)]) (N := ["script", "deck", "turn", "text", "again", "once", "free", "errors", "k", "one", "number", "j"]) (sc := defScope s_law) (by decide +kernel)) rfl (fun _ _ _ _ _ => (pg_name (i := 8) sc_law.nd rfl (by first | exact Or.inl rfl | exact Or.inr rfl))) (fun _ _ _ _ _ => dts_nil) (fun _ _ _ _ _ => (de_callR (ok_law_sign T) hr (by rfl) (da_cons (de_var 1) da_nil)))).bb))
      (dss_cons (ds_if (dw_or (dt_not (dt_val (de_call (ok_law_right T) hr (by rfl) (da_cons (de_var 6) da_nil)))) (dw_or1 (dt_not (dt_val (de_call (ok_law_right T) hr (by rfl) (da_cons de_str da_nil)))))).tt (dss_one (ds_ret de_bl.bb)) dss_nil)
      (dss_cons (ds_set (i := 7) sc_law.nd (dn_lst (da_cons (de_mkX T.e_NoText) (da_cons (de_mkX T.e_NoStretch) (da_cons (de_mkX T.e_NoRest) (da_cons (de_mkX T.e_NoPlace) (da_cons (de_mkX T.e_NoAsk) da_nil)))))).ee)
      (dss_one (ds_ret (de_eqBB hr.units (dn_lc rfl sc_law.nd (t := (.nm 9)) (di_seq (de_var 7)).bb (blkOk_by (own := [("one", 9)]) (N := ["script", "deck", "turn", "text", "again", "once", "free", "errors", "k", "one", "number", "j"]) (sc := defScope s_law) (by decide +kernel)) rfl (fun _ _ _ _ _ => (pg_name (i := 9) sc_law.nd rfl (by first | exact Or.inl rfl | exact Or.inr rfl))) (fun _ _ _ _ _ => dts_nil) (fun _ _ _ _ _ => (de_call (ok_law_flags T) hr (by rfl) (da_cons (de_var 9) da_nil)))).bb (dn_lc rfl sc_law.nd (t := (.nm 8)) (di_range1 (by rfl) T.z_range de_int).bb (blkOk_by (own := [("k", 8)]) (N := ["script", "deck", "turn", "text", "again", "once", "free", "errors", "k", "one", "number", "j"]) (sc := defScope s_law) (by decide +kernel)) rfl (fun _ _ _ _ _ => (pg_name (i := 8) sc_law.nd rfl (by first | exact Or.inl rfl | exact Or.inr rfl))) (fun _ _ _ _ _ => dts_nil) (fun _ _ _ _ _ => (dn_lc rfl sc_law.nd (t := (.nm 11)) (di_range1 (by rfl) T.z_range de_int).bb (blkOk_by (own := [("j", 11)]) (by rfl)) rfl (fun _ _ _ _ _ => (pg_name (i := 11) sc_law.nd rfl (by first | exact Or.inl rfl | exact Or.inr rfl))) (fun _ _ _ _ _ => dts_nil) (fun _ _ _ _ _ => (de_eq hr.units (de_var 8).bb (de_var 11).bb))).ee)).bb).bb))))))), fun ns Q hl q => by
    have hl : List.length ns ≤ 63 := hl
    have q' : Q (.bl true) := q () trivial
    have tk : ∀ {k : Nat} {t : Str}, BF k (TL.tl t) → k ≤ 640 → okT t → t.length ≤ 50000 → tOk t := fun h hk h2 h3 => ⟨fun w hw => Nat.le_trans (bf_words h hw) hk, h2, h3⟩
    (try simp (config := { maxSteps := 3000000 }) only [rdInI, rdNinI, wDInT, wsPopAt, wsIns, rdIsBl, rdNotBl, rdInS, rdNinS, rdRepS, rdIntT, wJoinT, wsTry, wxNil, wxSeq, wxIf, wxRaise, wxDrop, wxSet, wxRet, wxOr, wxCallX, wxLen, wIsc, wIscT, wsAugIt, rdEqB, cxK, cxM, cxKn, cxMn, tyV_n, tyV_e, wxTup, wLcX, rdEqBB, wsDeck, flatE, flat, flatL, Bool.and_true, Bool.true_and, Bool.and_self, wsNil, wsSeq, wsBrk, wsCont, wsNever, wsFrz, wsRet, wsRetN, wsDrop, wsSet, wsSetN, wsSetD, wsTup, wsTupW, wsAug, wsIf, wsIfF, wsIfT, wsApp, wsExt, wsItem, wsFor, wsWhile, wVar, wOwn, wC, w2, w2T, wT, wAnd, wOr, wNot, wAndV, wOrV, wNotV, wIf, waNil, waCons, wTup, wLst, wL, wNeg, rdBin, rdEq, rdNe, rdOrd, rdIsN, rdNotN, wChain, wChain3, wRevT, rdInD, rdNinD, wIx, woN, woS, wSlL, wSlT, wSlS, wCall, wCallF, wCallN, FSpec.W, wItems, wRng1, wRng2, wRngD, wZip, wEnum, wLc, wYes, wBi, rdLen, rd1I, rd2I, rdInt, rdStr, rdTuple, Tg.w, Tg.ix, startE, List.map_cons, List.map_nil, List.cons_append, List.nil_append, List.length_cons, List.length_nil, Nat.add_zero, Nat.zero_add, Nat.reduceAdd, Nat.reduceSub, List.replicate_succ, List.replicate_zero, List.replicate, List.append_nil, List.getElem?_cons_zero, List.getElem?_cons_succ, List.getElem?_nil, List.set_cons_zero, List.set_cons_succ, List.set_nil, wipeE, Option.some.injEq, Sl.v.injEq, Sl.own.injEq, Dv.int.injEq, Dv.bl.injEq, Dv.lst.injEq, Dv.tup.injEq, Dv.str.injEq, Dv.scr.injEq, List.cons.injEq, reduceCtorEq, and_true, true_and, and_false, false_and, exists_eq_left, exists_eq_left', exists_eq_right, exists_eq_right', exists_and_left, exists_and_right, exists_eq, exists_const, false_or, or_false, Bool.false_eq_true, if_true, if_false, ite_true, ite_false, eq_self_iff_true, tyN, tyI, tyB, tyS, tyT, tyL, is_NoneType_int, is_NoneType_bool, is_NoneType_str, is_NoneType_tuple, is_NoneType_list, is_int_int, is_int_bool, is_int_str, is_int_tuple, is_int_list, is_bool_int, is_bool_bool, is_bool_str, is_bool_tuple, is_bool_list, is_str_int, is_str_bool, is_str_str, is_str_tuple, is_str_list, is_tuple_int, is_tuple_bool, is_tuple_str, is_tuple_tuple, is_tuple_list, is_list_int, is_list_bool, is_list_str, is_list_tuple, is_list_list, Bool.or_false, Bool.or_true, Bool.true_or, Bool.false_or, ixT0, ixT1, ixT2, ixT3, ixL0, ixL1, ixL2, ixL3, iff_true, and_assoc, decide_eq_true_eq, Bool.not_eq_true', Bool.not_eq_false', decide_eq_false_iff_not, Bool.not_true, Bool.not_false, bAi, bAs, bAt, bAl, bSi, bMi, bMl, bDi, bRi, bPi, cAi, cAs, cAt, cAl, cSi, cMi, cMl, cDi, cRi, cPi, itL, itT, itR, seL, seT, seR, leL, leT, leR, leS, lcL, lcT, lcR, lcS, xcL, xcT, xcR, xcS, orL, orE, orG, orH, mapI, iff_true, true_iff, iff_false, false_iff, forall_eq, Bool.not_eq_true, Bool.true_eq_false, reduceIte, List.length_append, List.length_range, List.length_map, forall_const, true_imp_iff, Nat.zero_le, Nat.reduceLeDiff, Int.toNat_natCast, Prod.exists, setAll, List.map_eq_nil_iff, mapP, rdMax, rdMin, wSort, rdMinD, rdMaxD, rdSum, wIsi, wIsi2, wIndexI, wGet2, wDIx, wDIn, wsDPut,  exists_const, ge_iff_le, gt_iff_lt])
    refine ⟨hl, fun b hb => ⟨hb.1, hb.2, fun i => ⟨by decide, by decide, ?_⟩⟩⟩
    refine iv_det (List.range 6) (fun j => .int ((j : Nat) : Int)) (fun _ => [.v (.scr ns), .v (.ref i.1), .no, .no, .no, .no, .no, .no, .no, .no, .no, .no]) (rngD_zero rfl) (by simp [rngD_length]) rfl (fun n a J ha h => ?_) ?_
    · obtain ⟨rfl, hi⟩ := range_get ha
      (try simp (config := { maxSteps := 3000000 }) only [rdInI, rdNinI, wDInT, wsPopAt, wsIns, rdIsBl, rdNotBl, rdInS, rdNinS, rdRepS, rdIntT, wJoinT, wsTry, wxNil, wxSeq, wxIf, wxRaise, wxDrop, wxSet, wxRet, wxOr, wxCallX, wxLen, wIsc, wIscT, wsAugIt, rdEqB, cxK, cxM, cxKn, cxMn, tyV_n, tyV_e, wxTup, wLcX, rdEqBB, wsDeck, flatE, flat, flatL, Bool.and_true, Bool.true_and, Bool.and_self, wsNil, wsSeq, wsBrk, wsCont, wsNever, wsFrz, wsRet, wsRetN, wsDrop, wsSet, wsSetN, wsSetD, wsTup, wsTupW, wsAug, wsIf, wsIfF, wsIfT, wsApp, wsExt, wsItem, wsFor, wsWhile, wVar, wOwn, wC, w2, w2T, wT, wAnd, wOr, wNot, wAndV, wOrV, wNotV, wIf, waNil, waCons, wTup, wLst, wL, wNeg, rdBin, rdEq, rdNe, rdOrd, rdIsN, rdNotN, wChain, wChain3, wRevT, rdInD, rdNinD, wIx, woN, woS, wSlL, wSlT, wSlS, wCall, wCallF, wCallN, FSpec.W, wItems, wRng1, wRng2, wRngD, wZip, wEnum, wLc, wYes, wBi, rdLen, rd1I, rd2I, rdInt, rdStr, rdTuple, Tg.w, Tg.ix, startE, List.map_cons, List.map_nil, List.cons_append, List.nil_append, List.length_cons, List.length_nil, Nat.add_zero, Nat.zero_add, Nat.reduceAdd, Nat.reduceSub, List.replicate_succ, List.replicate_zero, List.replicate, List.append_nil, List.getElem?_cons_zero, List.getElem?_cons_succ, List.getElem?_nil, List.set_cons_zero, List.set_cons_succ, List.set_nil, wipeE, Option.some.injEq, Sl.v.injEq, Sl.own.injEq, Dv.int.injEq, Dv.bl.injEq, Dv.lst.injEq, Dv.tup.injEq, Dv.str.injEq, Dv.scr.injEq, List.cons.injEq, reduceCtorEq, and_true, true_and, and_false, false_and, exists_eq_left, exists_eq_left', exists_eq_right, exists_eq_right', exists_and_left, exists_and_right, exists_eq, exists_const, false_or, or_false, Bool.false_eq_true, if_true, if_false, ite_true, ite_false, eq_self_iff_true, tyN, tyI, tyB, tyS, tyT, tyL, is_NoneType_int, is_NoneType_bool, is_NoneType_str, is_NoneType_tuple, is_NoneType_list, is_int_int, is_int_bool, is_int_str, is_int_tuple, is_int_list, is_bool_int, is_bool_bool, is_bool_str, is_bool_tuple, is_bool_list, is_str_int, is_str_bool, is_str_str, is_str_tuple, is_str_list, is_tuple_int, is_tuple_bool, is_tuple_str, is_tuple_tuple, is_tuple_list, is_list_int, is_list_bool, is_list_str, is_list_tuple, is_list_list, Bool.or_false, Bool.or_true, Bool.true_or, Bool.false_or, ixT0, ixT1, ixT2, ixT3, ixL0, ixL1, ixL2, ixL3, iff_true, and_assoc, decide_eq_true_eq, Bool.not_eq_true', Bool.not_eq_false', decide_eq_false_iff_not, Bool.not_true, Bool.not_false, bAi, bAs, bAt, bAl, bSi, bMi, bMl, bDi, bRi, bPi, cAi, cAs, cAt, cAl, cSi, cMi, cMl, cDi, cRi, cPi, itL, itT, itR, seL, seT, seR, leL, leT, leR, leS, lcL, lcT, lcR, lcS, xcL, xcT, xcR, xcS, orL, orE, orG, orH, mapI, iff_true, true_iff, iff_false, false_iff, forall_eq, Bool.not_eq_true, Bool.true_eq_false, reduceIte, List.length_append, List.length_range, List.length_map, forall_const, true_imp_iff, Nat.zero_le, Nat.reduceLeDiff, Int.toNat_natCast, Prod.exists, setAll, List.map_eq_nil_iff, mapP, rdMax, rdMin, wSort, rdMinD, rdMaxD, rdSum, wIsi, wIsi2, wIndexI, wGet2, wDIx, wDIn, wsDPut,  exists_const, ge_iff_le, gt_iff_lt])
      refine ⟨by decide, by decide, fun r hr => ⟨by omega, rfl, iv_fm r .int (fun _ => true) (fun n => .str (strI n)) rfl (by simp) (fun j m acc J2 hm h1 _ => ?_) ?_⟩⟩
      · have := hr.2 m (List.mem_of_getElem? hm)
        exact ⟨m, rfl, nlog ⟨by omega, by omega⟩, h1 rfl⟩
      · rw [List.filter_eq_self.mpr fun _ _ => rfl]
        have hr1 : r.length ≤ 60 := by have := hr.1; omega
        have len13 : ∀ y ∈ r.map strI, y.length ≤ 13 := fun y hy => by
          obtain ⟨m, hm, rfl⟩ := List.mem_map.mp hy
          have := hr.2 m hm
          exact strI_len (k := 12) (by decide) ⟨by omega, by omega⟩
        have ok13 : ∀ y ∈ r.map strI, okT y := fun y hy => by
          obtain ⟨m, hm, rfl⟩ := List.mem_map.mp hy
          exact okT_strI m
        have hws : wSum (r.map strI) ≤ 840 := by
          have := wSum_le len13
          rw [List.length_map] at this
          omega
        refine ⟨r.map strI, by rw [List.map_map]; rfl, by rw [show (Str.ofString " ").length = 1 by decide +kernel, wSum_eq]; omega, by decide, by decide, ?_⟩
        have hjl : (Txt.join (Str.ofString " ") (r.map strI)).length ≤ 840 := Nat.le_trans (join_len _) hws
        have hjb : BF 13 (TL.tl (Txt.join (Str.ofString " ") (r.map strI))) := join_bf len13
        have hjo : okT (Txt.join (Str.ofString " ") (r.map strI)) := join_ok ok13
        generalize Txt.join (Str.ofString " ") (r.map strI) = t at hjl hjb hjo ⊢
        refine iv_det (List.range 4) (fun j => .int ((j : Nat) : Int)) (fun _ => [.v (.scr ns), .v (.ref i.1), .v (.int ((a : Nat) : Int)), .v (.str t), .no, .no, .no, .no, .no, .no, .no, .no]) (rngD_zero rfl) (by simp [rngD_length]) rfl (fun n2 a2 J2 ha2 hh => ?_) ?_
        · refine ⟨_, rfl, _, rfl, rfl, 13, 840, t, rfl, hjb, hjo, hjl, by decide, by decide, fun b ⟨b1, b2, b3⟩ => ?_⟩
          refine ⟨_, rfl, _, rfl, tk hjb (by decide) hjo (by omega), _, rfl, _, rfl, tk b1 (by decide) b2 (by omega), _, rfl, _, rfl, rfl, 36, 863, b, rfl, b1, b2, b3, by decide, by decide, fun c ⟨c1, c2, c3⟩ => ?_⟩
          exact ⟨tk c1 (by decide) c2 (by omega), hh⟩
        · exact h
    · (try simp (config := { maxSteps := 3000000 }) only [rdInI, rdNinI, wDInT, wsPopAt, wsIns, rdIsBl, rdNotBl, rdInS, rdNinS, rdRepS, rdIntT, wJoinT, wsTry, wxNil, wxSeq, wxIf, wxRaise, wxDrop, wxSet, wxRet, wxOr, wxCallX, wxLen, wIsc, wIscT, wsAugIt, rdEqB, cxK, cxM, cxKn, cxMn, tyV_n, tyV_e, wxTup, wLcX, rdEqBB, wsDeck, flatE, flat, flatL, Bool.and_true, Bool.true_and, Bool.and_self, wsNil, wsSeq, wsBrk, wsCont, wsNever, wsFrz, wsRet, wsRetN, wsDrop, wsSet, wsSetN, wsSetD, wsTup, wsTupW, wsAug, wsIf, wsIfF, wsIfT, wsApp, wsExt, wsItem, wsFor, wsWhile, wVar, wOwn, wC, w2, w2T, wT, wAnd, wOr, wNot, wAndV, wOrV, wNotV, wIf, waNil, waCons, wTup, wLst, wL, wNeg, rdBin, rdEq, rdNe, rdOrd, rdIsN, rdNotN, wChain, wChain3, wRevT, rdInD, rdNinD, wIx, woN, woS, wSlL, wSlT, wSlS, wCall, wCallF, wCallN, FSpec.W, wItems, wRng1, wRng2, wRngD, wZip, wEnum, wLc, wYes, wBi, rdLen, rd1I, rd2I, rdInt, rdStr, rdTuple, Tg.w, Tg.ix, startE, List.map_cons, List.map_nil, List.cons_append, List.nil_append, List.length_cons, List.length_nil, Nat.add_zero, Nat.zero_add, Nat.reduceAdd, Nat.reduceSub, List.replicate_succ, List.replicate_zero, List.replicate, List.append_nil, List.getElem?_cons_zero, List.getElem?_cons_succ, List.getElem?_nil, List.set_cons_zero, List.set_cons_succ, List.set_nil, wipeE, Option.some.injEq, Sl.v.injEq, Sl.own.injEq, Dv.int.injEq, Dv.bl.injEq, Dv.lst.injEq, Dv.tup.injEq, Dv.str.injEq, Dv.scr.injEq, List.cons.injEq, reduceCtorEq, and_true, true_and, and_false, false_and, exists_eq_left, exists_eq_left', exists_eq_right, exists_eq_right', exists_and_left, exists_and_right, exists_eq, exists_const, false_or, or_false, Bool.false_eq_true, if_true, if_false, ite_true, ite_false, eq_self_iff_true, tyN, tyI, tyB, tyS, tyT, tyL, is_NoneType_int, is_NoneType_bool, is_NoneType_str, is_NoneType_tuple, is_NoneType_list, is_int_int, is_int_bool, is_int_str, is_int_tuple, is_int_list, is_bool_int, is_bool_bool, is_bool_str, is_bool_tuple, is_bool_list, is_str_int, is_str_bool, is_str_str, is_str_tuple, is_str_list, is_tuple_int, is_tuple_bool, is_tuple_str, is_tuple_tuple, is_tuple_list, is_list_int, is_list_bool, is_list_str, is_list_tuple, is_list_list, Bool.or_false, Bool.or_true, Bool.true_or, Bool.false_or, ixT0, ixT1, ixT2, ixT3, ixL0, ixL1, ixL2, ixL3, iff_true, and_assoc, decide_eq_true_eq, Bool.not_eq_true', Bool.not_eq_false', decide_eq_false_iff_not, Bool.not_true, Bool.not_false, bAi, bAs, bAt, bAl, bSi, bMi, bMl, bDi, bRi, bPi, cAi, cAs, cAt, cAl, cSi, cMi, cMl, cDi, cRi, cPi, itL, itT, itR, seL, seT, seR, leL, leT, leR, leS, lcL, lcT, lcR, lcS, xcL, xcT, xcR, xcS, orL, orE, orG, orH, mapI, iff_true, true_iff, iff_false, false_iff, forall_eq, Bool.not_eq_true, Bool.true_eq_false, reduceIte, List.length_append, List.length_range, List.length_map, forall_const, true_imp_iff, Nat.zero_le, Nat.reduceLeDiff, Int.toNat_natCast, Prod.exists, setAll, List.map_eq_nil_iff, mapP, rdMax, rdMin, wSort, rdMinD, rdMaxD, rdSum, wIsi, wIsi2, wIndexI, wGet2, wDIx, wDIn, wsDPut,  exists_const, ge_iff_le, gt_iff_lt])
      set_option pp.deepTerms true in set_option format.indent 0 in set_option format.width 160 in set_option pp.maxSteps 9000 in trace_state
      refine ⟨by decide, by decide, fun b hb => ⟨by omega, by omega, by rw [rngD_length]; omega, rfl, ?_⟩⟩
      have hl2 : (rngD 0 b.toNat).length ≤ 300 := by rw [rngD_length]; omega
      generalize rngD 0 b.toNat = ds at hl2 ⊢
      refine ⟨fun i acc => ∃ cs : List Nat, acc = cs.map (fun c => Dv.str ⟨#[c]⟩) ∧ cs.length = i ∧ ∀ c ∈ cs, c < 128, ⟨[], rfl, rfl, fun _ h => nomatch h⟩, fun i d acc _ ⟨cs, e, e2, h⟩ c hc => ⟨cs ++ [c], by rw [e, List.map_append]; rfl, by rw [List.length_append, e2]; rfl, fun x hx => ?_⟩, fun acc ⟨cs, e, e2, h⟩ => ?_⟩
      · rcases List.mem_append.mp hx with z | z
        · exact h x z
        · rw [List.mem_singleton.mp z]; exact hc
      subst e
      have hfl : TL.tl (Txt.join (Str.ofString "") (cs.map fun c => ⟨#[c]⟩)) = cs := tl_join1 cs
      have hs1 : ((cs.map fun c => (⟨#[c]⟩ : Str)).map (fun x => x.length)).sum = cs.length := sum_ones cs
      refine ⟨cs.map fun c => ⟨#[c]⟩, by rw [List.map_map]; rfl, by rw [hs1, show (Str.ofString "").length = 0 by decide +kernel]; omega, ?_, ?_, ?_⟩
      · refine tk (k := 300) ((BF.len _).mono (by rw [hfl]; omega)) (by decide) (fun c hc => ?_) (by rw [TL.len_tl, hfl]; omega)
        rw [hfl] at hc
        have := h c hc
        omega
      · have e0 : TL.tl (Str.ofString "") = [] := by decide +kernel
        exact tk (k := 0) (by rw [e0]; exact BF.len []) (by decide) (fun c hc => by rw [e0] at hc; exact nomatch hc) (by decide +kernel)
      · refine ⟨rfl, iv_fm (List.range 5) (fun i => .exc (clsV mg (clsN i))) (fun _ => true) flagsD rfl rfl (fun i a acc J ha h1 _ => ?_) ?_⟩
        · obtain ⟨rfl, hi⟩ := range_get ha
          exact ⟨a, rfl, hi, h1 rfl⟩
        · rw [List.filter_eq_self.mpr fun _ _ => rfl]
          refine ⟨by decide, by decide, by decide, rfl, iv_fm (List.range 5) (fun j => .int ((j : Nat) : Int)) (fun _ => true) flagsD (rngD_zero rfl) (by simp [rngD_length]) (fun i a acc J ha h1 _ => ?_) ?_⟩
          · obtain ⟨rfl, hi⟩ := range_get ha
            refine ⟨by decide, by decide, by decide, rfl, iv_fm (List.range 7) (fun j => .int ((j : Nat) : Int)) (fun _ => true) (fun j => .bl (decide (a = j))) (rngD_zero rfl) (by simp [rngD_length]) (fun i2 a2 acc2 J2 ha2 h2 _ => ?_) ?_⟩
            · obtain ⟨rfl, hi2⟩ := range_get ha2
              refine ⟨.inl rfl, fun k hk => ?_⟩
              have e : k = decide (a = a2) := by
                cases k
                · exact (decide_eq_false fun z => by have := hk.mpr (by rw [← z]); cases this).symm
                · exact (decide_eq_true (by have := Dv.int.inj (hk.mp rfl); omega)).symm
              rw [e]
              exact h2 rfl
            · rw [List.filter_eq_self.mpr fun _ _ => rfl]
              exact h1 rfl
          · rw [List.filter_eq_self.mpr fun _ _ => rfl]
            refine ⟨(List.range 5).map (fun i => (List.range 7).map fun j => decide (i = j)), by rw [List.map_map]; rfl, (List.range 5).map (fun i => (List.range 7).map fun j => decide (i = j)), by rw [List.map_map]; rfl, ?_⟩
            rw [decide_eq_true rfl]
            exact q'⟩

end
section
theorem all_mk {l : PySem.W.OpenLaw} {w : World} {K : PySem.W.Frag} {h : Heap} {mg : Str → Option Value} {fa f1 f2 f3 f4 f5 f6 f7 f8 f9 f10 f11 f12 f13 f14 f15 : Addr} (X : K.In h) (G : h.Ns mainGlobals mg) (hfa : mg "law" = some (.ref fa))
    {od1 an1 od2 an2 od3 an3 od4 an4 od5 an5 od6 an6 od7 an7 od8 an8 od9 an9 od10 an10 od11 an11 od12 an12 od13 an13 od14 an14 od15 an15 : Option Addr} {sl1 sl2 sl3 sl4 sl5 sl6 sl7 sl8 sl9 sl10 sl11 sl12 sl13 sl14 sl15 : Array (Option Value)} {oc1 kV1 dc1 pm1 cd1 ct1 oc2 kV2 dc2 pm2 cd2 ct2 oc3 kV3 dc3 pm3 cd3 ct3 oc4 kV4 dc4 pm4 cd4 ct4 oc5 kV5 dc5 pm5 cd5 ct5 oc6 kV6 dc6 pm6 cd6 ct6 oc7 kV7 dc7 pm7 cd7 ct7 oc8 kV8 dc8 pm8 cd8 ct8 oc9 kV9 dc9 pm9 cd9 ct9 oc10 kV10 dc10 pm10 cd10 ct10 oc11 kV11 dc11 pm11 cd11 ct11 oc12 kV12 dc12 pm12 cd12 ct12 oc13 kV13 dc13 pm13 cd13 ct13 oc14 kV14 dc14 pm14 cd14 ct14 oc15 kV15 dc15 pm15 cd15 ct15 : Value}
    (a1 : PySem.W.nsIn K mainGlobals "number_read" = some (some (.ref f1))) (l1 : K.lookup f1 = some ⟨oc1, od1, .func (PySem.W.fnOf "number_read" "number_read" (defArgs s_number_read) (defBody s_number_read) (defScope s_number_read) .none kV1 dc1 pm1 an1 cd1 ct1), sl1⟩) (c1 : PySem.W.codeIn K cd1 "number_read" = true) (k1 : PySem.W.keepIn K (.ref f1) = true)
    (a2 : PySem.W.nsIn K mainGlobals "read_row" = some (some (.ref f2))) (l2 : K.lookup f2 = some ⟨oc2, od2, .func (PySem.W.fnOf "read_row" "read_row" (defArgs s_read_row) (defBody s_read_row) (defScope s_read_row) .none kV2 dc2 pm2 an2 cd2 ct2), sl2⟩) (c2 : PySem.W.codeIn K cd2 "read_row" = true) (k2 : PySem.W.keepIn K (.ref f2) = true)
    (a3 : PySem.W.nsIn K mainGlobals "_law_deck" = some (some (.ref f3))) (l3 : K.lookup f3 = some ⟨oc3, od3, .func (PySem.W.fnOf "_law_deck" "_law_deck" (defArgs s_law_deck) (defBody s_law_deck) (defScope s_law_deck) .none kV3 dc3 pm3 an3 cd3 ct3), sl3⟩) (c3 : PySem.W.codeIn K cd3 "_law_deck" = true) (k3 : PySem.W.keepIn K (.ref f3) = true)
    (a4 : PySem.W.nsIn K mainGlobals "_law_take" = some (some (.ref f4))) (l4 : K.lookup f4 = some ⟨oc4, od4, .func (PySem.W.fnOf "_law_take" "_law_take" (defArgs s_law_take) (defBody s_law_take) (defScope s_law_take) .none kV4 dc4 pm4 an4 cd4 ct4), sl4⟩) (c4 : PySem.W.codeIn K cd4 "_law_take" = true) (k4 : PySem.W.keepIn K (.ref f4) = true)
    (a5 : PySem.W.nsIn K mainGlobals "_law_some_number" = some (some (.ref f5))) (l5 : K.lookup f5 = some ⟨oc5, od5, .func (PySem.W.fnOf "_law_some_number" "_law_some_number" (defArgs s_law_some_number) (defBody s_law_some_number) (defScope s_law_some_number) .none kV5 dc5 pm5 an5 cd5 ct5), sl5⟩) (c5 : PySem.W.codeIn K cd5 "_law_some_number" = true) (k5 : PySem.W.keepIn K (.ref f5) = true)
    (a6 : PySem.W.nsIn K mainGlobals "_law_row" = some (some (.ref f6))) (l6 : K.lookup f6 = some ⟨oc6, od6, .func (PySem.W.fnOf "_law_row" "_law_row" (defArgs s_law_row) (defBody s_law_row) (defScope s_law_row) .none kV6 dc6 pm6 an6 cd6 ct6), sl6⟩) (c6 : PySem.W.codeIn K cd6 "_law_row" = true) (k6 : PySem.W.keepIn K (.ref f6) = true)
    (a7 : PySem.W.nsIn K mainGlobals "_law_flags" = some (some (.ref f7))) (l7 : K.lookup f7 = some ⟨oc7, od7, .func (PySem.W.fnOf "_law_flags" "_law_flags" (defArgs s_law_flags) (defBody s_law_flags) (defScope s_law_flags) .none kV7 dc7 pm7 an7 cd7 ct7), sl7⟩) (c7 : PySem.W.codeIn K cd7 "_law_flags" = true) (k7 : PySem.W.keepIn K (.ref f7) = true)
    (a8 : PySem.W.nsIn K mainGlobals "_law_same" = some (some (.ref f8))) (l8 : K.lookup f8 = some ⟨oc8, od8, .func (PySem.W.fnOf "_law_same" "_law_same" (defArgs s_law_same) (defBody s_law_same) (defScope s_law_same) .none kV8 dc8 pm8 an8 cd8 ct8), sl8⟩) (c8 : PySem.W.codeIn K cd8 "_law_same" = true) (k8 : PySem.W.keepIn K (.ref f8) = true)
    (a9 : PySem.W.nsIn K mainGlobals "_law_number_in" = some (some (.ref f9))) (l9 : K.lookup f9 = some ⟨oc9, od9, .func (PySem.W.fnOf "_law_number_in" "_law_number_in" (defArgs s_law_number_in) (defBody s_law_number_in) (defScope s_law_number_in) .none kV9 dc9 pm9 an9 cd9 ct9), sl9⟩) (c9 : PySem.W.codeIn K cd9 "_law_number_in" = true) (k9 : PySem.W.keepIn K (.ref f9) = true)
    (a10 : PySem.W.nsIn K mainGlobals "_law_due" = some (some (.ref f10))) (l10 : K.lookup f10 = some ⟨oc10, od10, .func (PySem.W.fnOf "_law_due" "_law_due" (defArgs s_law_due) (defBody s_law_due) (defScope s_law_due) .none kV10 dc10 pm10 an10 cd10 ct10), sl10⟩) (c10 : PySem.W.codeIn K cd10 "_law_due" = true) (k10 : PySem.W.keepIn K (.ref f10) = true)
    (a11 : PySem.W.nsIn K mainGlobals "_law_told" = some (some (.ref f11))) (l11 : K.lookup f11 = some ⟨oc11, od11, .func (PySem.W.fnOf "_law_told" "_law_told" (defArgs s_law_told) (defBody s_law_told) (defScope s_law_told) .none kV11 dc11 pm11 an11 cd11 ct11), sl11⟩) (c11 : PySem.W.codeIn K cd11 "_law_told" = true) (k11 : PySem.W.keepIn K (.ref f11) = true)
    (a12 : PySem.W.nsIn K mainGlobals "_law_right" = some (some (.ref f12))) (l12 : K.lookup f12 = some ⟨oc12, od12, .func (PySem.W.fnOf "_law_right" "_law_right" (defArgs s_law_right) (defBody s_law_right) (defScope s_law_right) .none kV12 dc12 pm12 an12 cd12 ct12), sl12⟩) (c12 : PySem.W.codeIn K cd12 "_law_right" = true) (k12 : PySem.W.keepIn K (.ref f12) = true)
    (a13 : PySem.W.nsIn K mainGlobals "_law_sign" = some (some (.ref f13))) (l13 : K.lookup f13 = some ⟨oc13, od13, .func (PySem.W.fnOf "_law_sign" "_law_sign" (defArgs s_law_sign) (defBody s_law_sign) (defScope s_law_sign) .none kV13 dc13 pm13 an13 cd13 ct13), sl13⟩) (c13 : PySem.W.codeIn K cd13 "_law_sign" = true) (k13 : PySem.W.keepIn K (.ref f13) = true)
    (a14 : PySem.W.nsIn K mainGlobals "_law_spoilt" = some (some (.ref f14))) (l14 : K.lookup f14 = some ⟨oc14, od14, .func (PySem.W.fnOf "_law_spoilt" "_law_spoilt" (defArgs s_law_spoilt) (defBody s_law_spoilt) (defScope s_law_spoilt) .none kV14 dc14 pm14 an14 cd14 ct14), sl14⟩) (c14 : PySem.W.codeIn K cd14 "_law_spoilt" = true) (k14 : PySem.W.keepIn K (.ref f14) = true)
    (a15 : PySem.W.nsIn K mainGlobals "law" = some (some (.ref f15))) (l15 : K.lookup f15 = some ⟨oc15, od15, .func (PySem.W.fnOf "law" "law" (defArgs s_law) (defBody s_law) (defScope s_law) .none kV15 dc15 pm15 an15 cd15 ct15), sl15⟩) (c15 : PySem.W.codeIn K cd15 "law" = true) (k15 : PySem.W.keepIn K (.ref f15) = true)
    (z1 : PySem.W.nsIn K mainGlobals "ValueError" = some none)
    (z2 : PySem.W.nsIn K mainGlobals "bool" = some none)
    (z3 : PySem.W.nsIn K mainGlobals "int" = some none)
    (z4 : PySem.W.nsIn K mainGlobals "isinstance" = some none)
    (z5 : PySem.W.nsIn K mainGlobals "len" = some none)
    (z6 : PySem.W.nsIn K mainGlobals "list" = some none)
    (z7 : PySem.W.nsIn K mainGlobals "max" = some none)
    (z8 : PySem.W.nsIn K mainGlobals "min" = some none)
    (z9 : PySem.W.nsIn K mainGlobals "range" = some none)
    (z10 : PySem.W.nsIn K mainGlobals "str" = some none)
    (z11 : PySem.W.nsIn K mainGlobals "sum" = some none)
    (z12 : PySem.W.nsIn K mainGlobals "tuple" = some none)
    (z13 : PySem.W.nsIn K mainGlobals "zip" = some none)
    {tk1 : Tok} (g1 : PySem.W.nsIn K mainGlobals "FIGURES" = some (some (.str "0123456789" tk1)))
    {c_NoAsk : Addr} (m_NoAsk : PySem.W.nsIn K mainGlobals "NoAsk" = some (some (.ref c_NoAsk)))
    (xc_NoAsk : PySem.W.excIn K c_NoAsk [.type "ValueError", .type "Exception", .type "BaseException", .type "object"] "ValueError.__new__" = true)
    (kp_NoAsk : PySem.W.keepIn K (.ref c_NoAsk) = true)
    (sb_NoAsk : PySem.W.subIn K (.ref c_NoAsk) (.type "BaseException") = some true)
    (ty_NoAsk : PySem.W.typeIn K (.ref c_NoAsk) = some (.type "type"))
    (ga_NoAsk : PySem.W.findIn K (.ref c_NoAsk) "__getattribute__" = some (some (.builtin "BaseException.__getattribute__")))
    (gk_NoAsk : PySem.W.findIn K (.ref c_NoAsk) "__getattr__" = some none)
    (hd_NoAsk : PySem.W.hasDictIn K c_NoAsk = true)
    (ha_NoAsk : PySem.W.findIn K (.ref c_NoAsk) "__class__" = some (some (.builtin "object.__class__")))
    (hm_NoAsk : PySem.W.mroIn K c_NoAsk (.type "object") = some true)
    {c_NoPlace : Addr} (m_NoPlace : PySem.W.nsIn K mainGlobals "NoPlace" = some (some (.ref c_NoPlace)))
    (xc_NoPlace : PySem.W.excIn K c_NoPlace [.type "ValueError", .type "Exception", .type "BaseException", .type "object"] "ValueError.__new__" = true)
    (kp_NoPlace : PySem.W.keepIn K (.ref c_NoPlace) = true)
    (sb_NoPlace : PySem.W.subIn K (.ref c_NoPlace) (.type "BaseException") = some true)
    (ty_NoPlace : PySem.W.typeIn K (.ref c_NoPlace) = some (.type "type"))
    (ga_NoPlace : PySem.W.findIn K (.ref c_NoPlace) "__getattribute__" = some (some (.builtin "BaseException.__getattribute__")))
    (gk_NoPlace : PySem.W.findIn K (.ref c_NoPlace) "__getattr__" = some none)
    (hd_NoPlace : PySem.W.hasDictIn K c_NoPlace = true)
    (ha_NoPlace : PySem.W.findIn K (.ref c_NoPlace) "__class__" = some (some (.builtin "object.__class__")))
    (hm_NoPlace : PySem.W.mroIn K c_NoPlace (.type "object") = some true)
    {c_NoRest : Addr} (m_NoRest : PySem.W.nsIn K mainGlobals "NoRest" = some (some (.ref c_NoRest)))
    (xc_NoRest : PySem.W.excIn K c_NoRest [.type "ValueError", .type "Exception", .type "BaseException", .type "object"] "ValueError.__new__" = true)
    (kp_NoRest : PySem.W.keepIn K (.ref c_NoRest) = true)
    (sb_NoRest : PySem.W.subIn K (.ref c_NoRest) (.type "BaseException") = some true)
    (ty_NoRest : PySem.W.typeIn K (.ref c_NoRest) = some (.type "type"))
    (ga_NoRest : PySem.W.findIn K (.ref c_NoRest) "__getattribute__" = some (some (.builtin "BaseException.__getattribute__")))
    (gk_NoRest : PySem.W.findIn K (.ref c_NoRest) "__getattr__" = some none)
    (hd_NoRest : PySem.W.hasDictIn K c_NoRest = true)
    (ha_NoRest : PySem.W.findIn K (.ref c_NoRest) "__class__" = some (some (.builtin "object.__class__")))
    (hm_NoRest : PySem.W.mroIn K c_NoRest (.type "object") = some true)
    {c_NoStretch : Addr} (m_NoStretch : PySem.W.nsIn K mainGlobals "NoStretch" = some (some (.ref c_NoStretch)))
    (xc_NoStretch : PySem.W.excIn K c_NoStretch [.type "ValueError", .type "Exception", .type "BaseException", .type "object"] "ValueError.__new__" = true)
    (kp_NoStretch : PySem.W.keepIn K (.ref c_NoStretch) = true)
    (sb_NoStretch : PySem.W.subIn K (.ref c_NoStretch) (.type "BaseException") = some true)
    (ty_NoStretch : PySem.W.typeIn K (.ref c_NoStretch) = some (.type "type"))
    (ga_NoStretch : PySem.W.findIn K (.ref c_NoStretch) "__getattribute__" = some (some (.builtin "BaseException.__getattribute__")))
    (gk_NoStretch : PySem.W.findIn K (.ref c_NoStretch) "__getattr__" = some none)
    (hd_NoStretch : PySem.W.hasDictIn K c_NoStretch = true)
    (ha_NoStretch : PySem.W.findIn K (.ref c_NoStretch) "__class__" = some (some (.builtin "object.__class__")))
    (hm_NoStretch : PySem.W.mroIn K c_NoStretch (.type "object") = some true)
    {c_NoText : Addr} (m_NoText : PySem.W.nsIn K mainGlobals "NoText" = some (some (.ref c_NoText)))
    (xc_NoText : PySem.W.excIn K c_NoText [.type "ValueError", .type "Exception", .type "BaseException", .type "object"] "ValueError.__new__" = true)
    (kp_NoText : PySem.W.keepIn K (.ref c_NoText) = true)
    (sb_NoText : PySem.W.subIn K (.ref c_NoText) (.type "BaseException") = some true)
    (ty_NoText : PySem.W.typeIn K (.ref c_NoText) = some (.type "type"))
    (ga_NoText : PySem.W.findIn K (.ref c_NoText) "__getattribute__" = some (some (.builtin "BaseException.__getattribute__")))
    (gk_NoText : PySem.W.findIn K (.ref c_NoText) "__getattr__" = some none)
    (hd_NoText : PySem.W.hasDictIn K c_NoText = true)
    (ha_NoText : PySem.W.findIn K (.ref c_NoText) "__class__" = some (some (.builtin "object.__class__")))
    (hm_NoText : PySem.W.mroIn K c_NoText (.type "object") = some true)
    {c_SumError : Addr} (m_SumError : PySem.W.nsIn K mainGlobals "SumError" = some (some (.ref c_SumError)))
    (xc_SumError : PySem.W.excIn K c_SumError [.type "ValueError", .type "Exception", .type "BaseException", .type "object"] "ValueError.__new__" = true)
    (kp_SumError : PySem.W.keepIn K (.ref c_SumError) = true)
    (sb_SumError : PySem.W.subIn K (.ref c_SumError) (.type "BaseException") = some true)
    (ty_SumError : PySem.W.typeIn K (.ref c_SumError) = some (.type "type"))
    (ga_SumError : PySem.W.findIn K (.ref c_SumError) "__getattribute__" = some (some (.builtin "BaseException.__getattribute__")))
    (gk_SumError : PySem.W.findIn K (.ref c_SumError) "__getattr__" = some none)
    (hd_SumError : PySem.W.hasDictIn K c_SumError = true)
    (ha_SumError : PySem.W.findIn K (.ref c_SumError) "__class__" = some (some (.builtin "object.__class__")))
    (hm_SumError : PySem.W.mroIn K c_SumError (.type "object") = some true)
    (ocn : PySem.W.specialIn K (.builtin "object.__class__") "__get__" = some (some (.builtin "getset_descriptor.__get__"))) (oct : PySem.W.takesIn K (.builtin "object.__class__") = some true)
    (p_NoAsk_SumError : PySem.W.subIn K (.ref c_NoAsk) (.ref c_SumError) = some true)
    (q_NoAsk_SumError : (((.ref c_NoAsk) : Value) == (.ref c_SumError)) = false)
    (p_NoPlace_SumError : PySem.W.subIn K (.ref c_NoPlace) (.ref c_SumError) = some true)
    (q_NoPlace_SumError : (((.ref c_NoPlace) : Value) == (.ref c_SumError)) = false)
    (p_NoRest_SumError : PySem.W.subIn K (.ref c_NoRest) (.ref c_SumError) = some true)
    (q_NoRest_SumError : (((.ref c_NoRest) : Value) == (.ref c_SumError)) = false)
    (p_NoStretch_SumError : PySem.W.subIn K (.ref c_NoStretch) (.ref c_SumError) = some true)
    (q_NoStretch_SumError : (((.ref c_NoStretch) : Value) == (.ref c_SumError)) = false)
    (p_NoText_SumError : PySem.W.subIn K (.ref c_NoText) (.ref c_SumError) = some true)
    (q_NoText_SumError : (((.ref c_NoText) : Value) == (.ref c_SumError)) = false)
    (p_NoAsk_NoPlace : PySem.W.subIn K (.ref c_NoAsk) (.ref c_NoPlace) = some false)
    (q_NoAsk_NoPlace : (((.ref c_NoAsk) : Value) == (.ref c_NoPlace)) = false)
    (p_NoAsk_NoRest : PySem.W.subIn K (.ref c_NoAsk) (.ref c_NoRest) = some false)
    (q_NoAsk_NoRest : (((.ref c_NoAsk) : Value) == (.ref c_NoRest)) = false)
    (p_NoAsk_NoStretch : PySem.W.subIn K (.ref c_NoAsk) (.ref c_NoStretch) = some false)
    (q_NoAsk_NoStretch : (((.ref c_NoAsk) : Value) == (.ref c_NoStretch)) = false)
    (p_NoAsk_NoText : PySem.W.subIn K (.ref c_NoAsk) (.ref c_NoText) = some false)
    (q_NoAsk_NoText : (((.ref c_NoAsk) : Value) == (.ref c_NoText)) = false)
    (p_NoAsk_ValueError : PySem.W.subIn K (.ref c_NoAsk) (.type "ValueError") = some true)
    (p_NoPlace_NoAsk : PySem.W.subIn K (.ref c_NoPlace) (.ref c_NoAsk) = some false)
    (q_NoPlace_NoAsk : (((.ref c_NoPlace) : Value) == (.ref c_NoAsk)) = false)
    (p_NoPlace_NoRest : PySem.W.subIn K (.ref c_NoPlace) (.ref c_NoRest) = some false)
    (q_NoPlace_NoRest : (((.ref c_NoPlace) : Value) == (.ref c_NoRest)) = false)
    (p_NoPlace_NoStretch : PySem.W.subIn K (.ref c_NoPlace) (.ref c_NoStretch) = some false)
    (q_NoPlace_NoStretch : (((.ref c_NoPlace) : Value) == (.ref c_NoStretch)) = false)
    (p_NoPlace_NoText : PySem.W.subIn K (.ref c_NoPlace) (.ref c_NoText) = some false)
    (q_NoPlace_NoText : (((.ref c_NoPlace) : Value) == (.ref c_NoText)) = false)
    (p_NoPlace_ValueError : PySem.W.subIn K (.ref c_NoPlace) (.type "ValueError") = some true)
    (p_NoRest_NoAsk : PySem.W.subIn K (.ref c_NoRest) (.ref c_NoAsk) = some false)
    (q_NoRest_NoAsk : (((.ref c_NoRest) : Value) == (.ref c_NoAsk)) = false)
    (p_NoRest_NoPlace : PySem.W.subIn K (.ref c_NoRest) (.ref c_NoPlace) = some false)
    (q_NoRest_NoPlace : (((.ref c_NoRest) : Value) == (.ref c_NoPlace)) = false)
    (p_NoRest_NoStretch : PySem.W.subIn K (.ref c_NoRest) (.ref c_NoStretch) = some false)
    (q_NoRest_NoStretch : (((.ref c_NoRest) : Value) == (.ref c_NoStretch)) = false)
    (p_NoRest_NoText : PySem.W.subIn K (.ref c_NoRest) (.ref c_NoText) = some false)
    (q_NoRest_NoText : (((.ref c_NoRest) : Value) == (.ref c_NoText)) = false)
    (p_NoRest_ValueError : PySem.W.subIn K (.ref c_NoRest) (.type "ValueError") = some true)
    (p_NoStretch_NoAsk : PySem.W.subIn K (.ref c_NoStretch) (.ref c_NoAsk) = some false)
    (q_NoStretch_NoAsk : (((.ref c_NoStretch) : Value) == (.ref c_NoAsk)) = false)
    (p_NoStretch_NoPlace : PySem.W.subIn K (.ref c_NoStretch) (.ref c_NoPlace) = some false)
    (q_NoStretch_NoPlace : (((.ref c_NoStretch) : Value) == (.ref c_NoPlace)) = false)
    (p_NoStretch_NoRest : PySem.W.subIn K (.ref c_NoStretch) (.ref c_NoRest) = some false)
    (q_NoStretch_NoRest : (((.ref c_NoStretch) : Value) == (.ref c_NoRest)) = false)
    (p_NoStretch_NoText : PySem.W.subIn K (.ref c_NoStretch) (.ref c_NoText) = some false)
    (q_NoStretch_NoText : (((.ref c_NoStretch) : Value) == (.ref c_NoText)) = false)
    (p_NoStretch_ValueError : PySem.W.subIn K (.ref c_NoStretch) (.type "ValueError") = some true)
    (p_NoText_NoAsk : PySem.W.subIn K (.ref c_NoText) (.ref c_NoAsk) = some false)
    (q_NoText_NoAsk : (((.ref c_NoText) : Value) == (.ref c_NoAsk)) = false)
    (p_NoText_NoPlace : PySem.W.subIn K (.ref c_NoText) (.ref c_NoPlace) = some false)
    (q_NoText_NoPlace : (((.ref c_NoText) : Value) == (.ref c_NoPlace)) = false)
    (p_NoText_NoRest : PySem.W.subIn K (.ref c_NoText) (.ref c_NoRest) = some false)
    (q_NoText_NoRest : (((.ref c_NoText) : Value) == (.ref c_NoRest)) = false)
    (p_NoText_NoStretch : PySem.W.subIn K (.ref c_NoText) (.ref c_NoStretch) = some false)
    (q_NoText_NoStretch : (((.ref c_NoText) : Value) == (.ref c_NoStretch)) = false)
    (p_NoText_ValueError : PySem.W.subIn K (.ref c_NoText) (.type "ValueError") = some true)
    (p_NoneType_NoAsk : PySem.W.subIn K (.type "NoneType") (.ref c_NoAsk) = some false)
    (p_NoneType_NoPlace : PySem.W.subIn K (.type "NoneType") (.ref c_NoPlace) = some false)
    (p_NoneType_NoRest : PySem.W.subIn K (.type "NoneType") (.ref c_NoRest) = some false)
    (p_NoneType_NoStretch : PySem.W.subIn K (.type "NoneType") (.ref c_NoStretch) = some false)
    (p_NoneType_NoText : PySem.W.subIn K (.type "NoneType") (.ref c_NoText) = some false)
    (p_NoneType_SumError : PySem.W.subIn K (.type "NoneType") (.ref c_SumError) = some false)
    (p_NoneType_ValueError : PySem.W.subIn K (.type "NoneType") (.type "ValueError") = some false)
    : ∃ fd : FuncData, (∀ (s : Shared) (v : Value), BindsTo s fd ⟨[v], []⟩ [("script", v)]) ∧ ∀ base : Heap, K.In base → base.Ns mainGlobals mg → FnOk l.prog w K mg base CX0 6 fa fd ["script"] (spP K S_law) := by
  have e := hfa.symm.trans (PySem.W.mg_of X G a15)
  cases e
  have T : Txt K mg := ⟨⟨⟨_, _, fun_mk (st := s_number_read) l1 c1 k1, PySem.W.mg_of X G a1, (fun_mk (st := s_number_read) l1 c1 k1).binds (ps := ["word"]) fun _ _ _ _ _ _ us hl => match us, hl with | [_], _ => rfl⟩⟩,
    ⟨⟨_, _, fun_mk (st := s_read_row) l2 c2 k2, PySem.W.mg_of X G a2, (fun_mk (st := s_read_row) l2 c2 k2).binds (ps := ["text"]) fun _ _ _ _ _ _ us hl => match us, hl with | [_], _ => rfl⟩⟩,
    ⟨⟨_, _, fun_mk (st := s_law_deck) l3 c3 k3, PySem.W.mg_of X G a3, (fun_mk (st := s_law_deck) l3 c3 k3).binds (ps := ["script"]) fun _ _ _ _ _ _ us hl => match us, hl with | [_], _ => rfl⟩⟩,
    ⟨⟨_, _, fun_mk (st := s_law_take) l4 c4 k4, PySem.W.mg_of X G a4, (fun_mk (st := s_law_take) l4 c4 k4).binds (ps := ["deck", "many"]) fun _ _ _ _ _ _ us hl => match us, hl with | [_, _], _ => rfl⟩⟩,
    ⟨⟨_, _, fun_mk (st := s_law_some_number) l5 c5 k5, PySem.W.mg_of X G a5, (fun_mk (st := s_law_some_number) l5 c5 k5).binds (ps := ["deck", "kind"]) fun _ _ _ _ _ _ us hl => match us, hl with | [_, _], _ => rfl⟩⟩,
    ⟨⟨_, _, fun_mk (st := s_law_row) l6 c6 k6, PySem.W.mg_of X G a6, (fun_mk (st := s_law_row) l6 c6 k6).binds (ps := ["deck", "most"]) fun _ _ _ _ _ _ us hl => match us, hl with | [_, _], _ => rfl⟩⟩,
    ⟨⟨_, _, fun_mk (st := s_law_flags) l7 c7 k7, PySem.W.mg_of X G a7, (fun_mk (st := s_law_flags) l7 c7 k7).binds (ps := ["thing"]) fun _ _ _ _ _ _ us hl => match us, hl with | [_], _ => rfl⟩⟩,
    ⟨⟨_, _, fun_mk (st := s_law_same) l8 c8 k8, PySem.W.mg_of X G a8, (fun_mk (st := s_law_same) l8 c8 k8).binds (ps := ["found", "due"]) fun _ _ _ _ _ _ us hl => match us, hl with | [_, _], _ => rfl⟩⟩,
    ⟨⟨_, _, fun_mk (st := s_law_number_in) l9 c9 k9, PySem.W.mg_of X G a9, (fun_mk (st := s_law_number_in) l9 c9 k9).binds (ps := ["word"]) fun _ _ _ _ _ _ us hl => match us, hl with | [_], _ => rfl⟩⟩,
    ⟨⟨_, _, fun_mk (st := s_law_due) l10 c10 k10, PySem.W.mg_of X G a10, (fun_mk (st := s_law_due) l10 c10 k10).binds (ps := ["text"]) fun _ _ _ _ _ _ us hl => match us, hl with | [_], _ => rfl⟩⟩,
    ⟨⟨_, _, fun_mk (st := s_law_told) l11 c11 k11, PySem.W.mg_of X G a11, (fun_mk (st := s_law_told) l11 c11 k11).binds (ps := ["text"]) fun _ _ _ _ _ _ us hl => match us, hl with | [_], _ => rfl⟩⟩,
    ⟨⟨_, _, fun_mk (st := s_law_right) l12 c12 k12, PySem.W.mg_of X G a12, (fun_mk (st := s_law_right) l12 c12 k12).binds (ps := ["text"]) fun _ _ _ _ _ _ us hl => match us, hl with | [_], _ => rfl⟩⟩,
    ⟨⟨_, _, fun_mk (st := s_law_sign) l13 c13 k13, PySem.W.mg_of X G a13, (fun_mk (st := s_law_sign) l13 c13 k13).binds (ps := ["deck"]) fun _ _ _ _ _ _ us hl => match us, hl with | [_], _ => rfl⟩⟩,
    ⟨⟨_, _, fun_mk (st := s_law_spoilt) l14 c14 k14, PySem.W.mg_of X G a14, (fun_mk (st := s_law_spoilt) l14 c14 k14).binds (ps := ["deck", "text"]) fun _ _ _ _ _ _ us hl => match us, hl with | [_, _], _ => rfl⟩⟩,
    PySem.W.mg_none_of X G z1,
    PySem.W.mg_none_of X G z2,
    PySem.W.mg_none_of X G z3,
    PySem.W.mg_none_of X G z4,
    PySem.W.mg_none_of X G z5,
    PySem.W.mg_none_of X G z6,
    PySem.W.mg_none_of X G z7,
    PySem.W.mg_none_of X G z8,
    PySem.W.mg_none_of X G z9,
    PySem.W.mg_none_of X G z10,
    PySem.W.mg_none_of X G z11,
    PySem.W.mg_none_of X G z12,
    PySem.W.mg_none_of X G z13,
    Ec.mk ⟨_, PySem.W.mg_of X G m_NoAsk, xc_NoAsk, kp_NoAsk, sb_NoAsk, ty_NoAsk, ga_NoAsk, gk_NoAsk, sb_NoAsk, hd_NoAsk, ha_NoAsk, ocn, oct, hm_NoAsk⟩,
    Ec.mk ⟨_, PySem.W.mg_of X G m_NoPlace, xc_NoPlace, kp_NoPlace, sb_NoPlace, ty_NoPlace, ga_NoPlace, gk_NoPlace, sb_NoPlace, hd_NoPlace, ha_NoPlace, ocn, oct, hm_NoPlace⟩,
    Ec.mk ⟨_, PySem.W.mg_of X G m_NoRest, xc_NoRest, kp_NoRest, sb_NoRest, ty_NoRest, ga_NoRest, gk_NoRest, sb_NoRest, hd_NoRest, ha_NoRest, ocn, oct, hm_NoRest⟩,
    Ec.mk ⟨_, PySem.W.mg_of X G m_NoStretch, xc_NoStretch, kp_NoStretch, sb_NoStretch, ty_NoStretch, ga_NoStretch, gk_NoStretch, sb_NoStretch, hd_NoStretch, ha_NoStretch, ocn, oct, hm_NoStretch⟩,
    Ec.mk ⟨_, PySem.W.mg_of X G m_NoText, xc_NoText, kp_NoText, sb_NoText, ty_NoText, ga_NoText, gk_NoText, sb_NoText, hd_NoText, ha_NoText, ocn, oct, hm_NoText⟩,
    Ec.mk ⟨_, PySem.W.mg_of X G m_SumError, xc_SumError, kp_SumError, sb_SumError, ty_SumError, ga_SumError, gk_SumError, sb_SumError, hd_SumError, ha_SumError, ocn, oct, hm_SumError⟩,
    (by rw [clsV_of (PySem.W.mg_of X G m_NoAsk)]; rw [clsV_of (PySem.W.mg_of X G m_SumError)];  exact PySem.W.exm_ref sb_SumError hd_SumError ty_SumError p_NoAsk_SumError),
    (by rw [clsV_of (PySem.W.mg_of X G m_NoPlace)]; rw [clsV_of (PySem.W.mg_of X G m_SumError)];  exact PySem.W.exm_ref sb_SumError hd_SumError ty_SumError p_NoPlace_SumError),
    (by rw [clsV_of (PySem.W.mg_of X G m_NoRest)]; rw [clsV_of (PySem.W.mg_of X G m_SumError)];  exact PySem.W.exm_ref sb_SumError hd_SumError ty_SumError p_NoRest_SumError),
    (by rw [clsV_of (PySem.W.mg_of X G m_NoStretch)]; rw [clsV_of (PySem.W.mg_of X G m_SumError)];  exact PySem.W.exm_ref sb_SumError hd_SumError ty_SumError p_NoStretch_SumError),
    (by rw [clsV_of (PySem.W.mg_of X G m_NoText)]; rw [clsV_of (PySem.W.mg_of X G m_SumError)];  exact PySem.W.exm_ref sb_SumError hd_SumError ty_SumError p_NoText_SumError),
    (by rw [clsV_of (PySem.W.mg_of X G m_NoAsk)];  exact kit_self),
    (by rw [clsV_of (PySem.W.mg_of X G m_NoAsk)]; rw [clsV_of (PySem.W.mg_of X G m_NoPlace)];  exact kit_ref hd_NoPlace ty_NoPlace q_NoAsk_NoPlace p_NoAsk_NoPlace),
    (by rw [clsV_of (PySem.W.mg_of X G m_NoAsk)]; rw [clsV_of (PySem.W.mg_of X G m_NoRest)];  exact kit_ref hd_NoRest ty_NoRest q_NoAsk_NoRest p_NoAsk_NoRest),
    (by rw [clsV_of (PySem.W.mg_of X G m_NoAsk)]; rw [clsV_of (PySem.W.mg_of X G m_NoStretch)];  exact kit_ref hd_NoStretch ty_NoStretch q_NoAsk_NoStretch p_NoAsk_NoStretch),
    (by rw [clsV_of (PySem.W.mg_of X G m_NoAsk)]; rw [clsV_of (PySem.W.mg_of X G m_NoText)];  exact kit_ref hd_NoText ty_NoText q_NoAsk_NoText p_NoAsk_NoText),
    (by rw [clsV_of (PySem.W.mg_of X G m_NoAsk)]; rw [clsV_of (PySem.W.mg_of X G m_SumError)];  exact kit_ref hd_SumError ty_SumError q_NoAsk_SumError p_NoAsk_SumError),
    (by rw [clsV_of (PySem.W.mg_of X G m_NoAsk)];  exact kit_typ kitMeta_VE rfl p_NoAsk_ValueError),
    (by rw [clsV_of (PySem.W.mg_of X G m_NoPlace)]; rw [clsV_of (PySem.W.mg_of X G m_NoAsk)];  exact kit_ref hd_NoAsk ty_NoAsk q_NoPlace_NoAsk p_NoPlace_NoAsk),
    (by rw [clsV_of (PySem.W.mg_of X G m_NoPlace)];  exact kit_self),
    (by rw [clsV_of (PySem.W.mg_of X G m_NoPlace)]; rw [clsV_of (PySem.W.mg_of X G m_NoRest)];  exact kit_ref hd_NoRest ty_NoRest q_NoPlace_NoRest p_NoPlace_NoRest),
    (by rw [clsV_of (PySem.W.mg_of X G m_NoPlace)]; rw [clsV_of (PySem.W.mg_of X G m_NoStretch)];  exact kit_ref hd_NoStretch ty_NoStretch q_NoPlace_NoStretch p_NoPlace_NoStretch),
    (by rw [clsV_of (PySem.W.mg_of X G m_NoPlace)]; rw [clsV_of (PySem.W.mg_of X G m_NoText)];  exact kit_ref hd_NoText ty_NoText q_NoPlace_NoText p_NoPlace_NoText),
    (by rw [clsV_of (PySem.W.mg_of X G m_NoPlace)]; rw [clsV_of (PySem.W.mg_of X G m_SumError)];  exact kit_ref hd_SumError ty_SumError q_NoPlace_SumError p_NoPlace_SumError),
    (by rw [clsV_of (PySem.W.mg_of X G m_NoPlace)];  exact kit_typ kitMeta_VE rfl p_NoPlace_ValueError),
    (by rw [clsV_of (PySem.W.mg_of X G m_NoRest)]; rw [clsV_of (PySem.W.mg_of X G m_NoAsk)];  exact kit_ref hd_NoAsk ty_NoAsk q_NoRest_NoAsk p_NoRest_NoAsk),
    (by rw [clsV_of (PySem.W.mg_of X G m_NoRest)]; rw [clsV_of (PySem.W.mg_of X G m_NoPlace)];  exact kit_ref hd_NoPlace ty_NoPlace q_NoRest_NoPlace p_NoRest_NoPlace),
    (by rw [clsV_of (PySem.W.mg_of X G m_NoRest)];  exact kit_self),
    (by rw [clsV_of (PySem.W.mg_of X G m_NoRest)]; rw [clsV_of (PySem.W.mg_of X G m_NoStretch)];  exact kit_ref hd_NoStretch ty_NoStretch q_NoRest_NoStretch p_NoRest_NoStretch),
    (by rw [clsV_of (PySem.W.mg_of X G m_NoRest)]; rw [clsV_of (PySem.W.mg_of X G m_NoText)];  exact kit_ref hd_NoText ty_NoText q_NoRest_NoText p_NoRest_NoText),
    (by rw [clsV_of (PySem.W.mg_of X G m_NoRest)]; rw [clsV_of (PySem.W.mg_of X G m_SumError)];  exact kit_ref hd_SumError ty_SumError q_NoRest_SumError p_NoRest_SumError),
    (by rw [clsV_of (PySem.W.mg_of X G m_NoRest)];  exact kit_typ kitMeta_VE rfl p_NoRest_ValueError),
    (by rw [clsV_of (PySem.W.mg_of X G m_NoStretch)]; rw [clsV_of (PySem.W.mg_of X G m_NoAsk)];  exact kit_ref hd_NoAsk ty_NoAsk q_NoStretch_NoAsk p_NoStretch_NoAsk),
    (by rw [clsV_of (PySem.W.mg_of X G m_NoStretch)]; rw [clsV_of (PySem.W.mg_of X G m_NoPlace)];  exact kit_ref hd_NoPlace ty_NoPlace q_NoStretch_NoPlace p_NoStretch_NoPlace),
    (by rw [clsV_of (PySem.W.mg_of X G m_NoStretch)]; rw [clsV_of (PySem.W.mg_of X G m_NoRest)];  exact kit_ref hd_NoRest ty_NoRest q_NoStretch_NoRest p_NoStretch_NoRest),
    (by rw [clsV_of (PySem.W.mg_of X G m_NoStretch)];  exact kit_self),
    (by rw [clsV_of (PySem.W.mg_of X G m_NoStretch)]; rw [clsV_of (PySem.W.mg_of X G m_NoText)];  exact kit_ref hd_NoText ty_NoText q_NoStretch_NoText p_NoStretch_NoText),
    (by rw [clsV_of (PySem.W.mg_of X G m_NoStretch)]; rw [clsV_of (PySem.W.mg_of X G m_SumError)];  exact kit_ref hd_SumError ty_SumError q_NoStretch_SumError p_NoStretch_SumError),
    (by rw [clsV_of (PySem.W.mg_of X G m_NoStretch)];  exact kit_typ kitMeta_VE rfl p_NoStretch_ValueError),
    (by rw [clsV_of (PySem.W.mg_of X G m_NoText)]; rw [clsV_of (PySem.W.mg_of X G m_NoAsk)];  exact kit_ref hd_NoAsk ty_NoAsk q_NoText_NoAsk p_NoText_NoAsk),
    (by rw [clsV_of (PySem.W.mg_of X G m_NoText)]; rw [clsV_of (PySem.W.mg_of X G m_NoPlace)];  exact kit_ref hd_NoPlace ty_NoPlace q_NoText_NoPlace p_NoText_NoPlace),
    (by rw [clsV_of (PySem.W.mg_of X G m_NoText)]; rw [clsV_of (PySem.W.mg_of X G m_NoRest)];  exact kit_ref hd_NoRest ty_NoRest q_NoText_NoRest p_NoText_NoRest),
    (by rw [clsV_of (PySem.W.mg_of X G m_NoText)]; rw [clsV_of (PySem.W.mg_of X G m_NoStretch)];  exact kit_ref hd_NoStretch ty_NoStretch q_NoText_NoStretch p_NoText_NoStretch),
    (by rw [clsV_of (PySem.W.mg_of X G m_NoText)];  exact kit_self),
    (by rw [clsV_of (PySem.W.mg_of X G m_NoText)]; rw [clsV_of (PySem.W.mg_of X G m_SumError)];  exact kit_ref hd_SumError ty_SumError q_NoText_SumError p_NoText_SumError),
    (by rw [clsV_of (PySem.W.mg_of X G m_NoText)];  exact kit_typ kitMeta_VE rfl p_NoText_ValueError),
    (by rw [clsV_of (PySem.W.mg_of X G m_NoAsk)];  exact kit_ref hd_NoAsk ty_NoAsk rfl p_NoneType_NoAsk),
    (by rw [clsV_of (PySem.W.mg_of X G m_NoPlace)];  exact kit_ref hd_NoPlace ty_NoPlace rfl p_NoneType_NoPlace),
    (by rw [clsV_of (PySem.W.mg_of X G m_NoRest)];  exact kit_ref hd_NoRest ty_NoRest rfl p_NoneType_NoRest),
    (by rw [clsV_of (PySem.W.mg_of X G m_NoStretch)];  exact kit_ref hd_NoStretch ty_NoStretch rfl p_NoneType_NoStretch),
    (by rw [clsV_of (PySem.W.mg_of X G m_NoText)];  exact kit_ref hd_NoText ty_NoText rfl p_NoneType_NoText),
    (by rw [clsV_of (PySem.W.mg_of X G m_SumError)];  exact kit_ref hd_SumError ty_SumError rfl p_NoneType_SumError),
    (by  exact kit_typ kitMeta_VE rfl p_NoneType_ValueError),
    Exists.intro _ (PySem.W.mg_of X G g1)⟩
  exact ⟨PySem.W.fnOf "law" "law" (defArgs s_law) (defBody s_law) (defScope s_law) .none kV15 dc15 pm15 an15 cd15 ct15, fun s v => .of_eq rfl, fun base _ _ => ok_law (fun_mk (st := s_law) l15 c15 k15) T⟩
end
end Lw
open PySem PySem.W PyProof.Rows in
set_option maxRecDepth 100000 in
set_option maxHeartbeats 0 in
theorem PySem.Challenge.cw_toldsums_k02_texts_of_no_row_holds : PySem.Challenge.rw_toldsums_k02_texts_of_no_row.Holds := by
  w_on; o_law; k_head; (case hw => w_witness2)
  k_fill
  refine L2.walk_ofK (l := PySem.Challenge.rw_toldsums_k02_texts_of_no_row) (n := 63) (k := 6) (x := "script") (CX := L2.CX0) (sp := fun K => L3.spP K L3.S_law) rfl (by decide) rfl ⟨rfl, by decide, by decide⟩ (fun w h Y => PySem.W.kIn_of Y) ?F (fun K H a ns hl ho hS => L3.law_hsp K H a ns hl ho hS) (fun _ _ _ _ h => h)
  case F =>
    intro w mg fa h KX G hmg
    refine' Lw.all_mk KX G hmg ?a1 ?l1 ?c1 ?k1 ?a2 ?l2 ?c2 ?k2 ?a3 ?l3 ?c3 ?k3 ?a4 ?l4 ?c4 ?k4 ?a5 ?l5 ?c5 ?k5 ?a6 ?l6 ?c6 ?k6 ?a7 ?l7 ?c7 ?k7 ?a8 ?l8 ?c8 ?k8 ?a9 ?l9 ?c9 ?k9 ?a10 ?l10 ?c10 ?k10 ?a11 ?l11 ?c11 ?k11 ?a12 ?l12 ?c12 ?k12 ?a13 ?l13 ?c13 ?k13 ?a14 ?l14 ?c14 ?k14 ?a15 ?l15 ?c15 ?k15 ?z1 ?z2 ?z3 ?z4 ?z5 ?z6 ?z7 ?z8 ?z9 ?z10 ?z11 ?z12 ?z13 ?g1 ?m_NoAsk ?xc_NoAsk ?kp_NoAsk ?sb_NoAsk ?ty_NoAsk ?ga_NoAsk ?gk_NoAsk ?hd_NoAsk ?ha_NoAsk ?hm_NoAsk ?m_NoPlace ?xc_NoPlace ?kp_NoPlace ?sb_NoPlace ?ty_NoPlace ?ga_NoPlace ?gk_NoPlace ?hd_NoPlace ?ha_NoPlace ?hm_NoPlace ?m_NoRest ?xc_NoRest ?kp_NoRest ?sb_NoRest ?ty_NoRest ?ga_NoRest ?gk_NoRest ?hd_NoRest ?ha_NoRest ?hm_NoRest ?m_NoStretch ?xc_NoStretch ?kp_NoStretch ?sb_NoStretch ?ty_NoStretch ?ga_NoStretch ?gk_NoStretch ?hd_NoStretch ?ha_NoStretch ?hm_NoStretch ?m_NoText ?xc_NoText ?kp_NoText ?sb_NoText ?ty_NoText ?ga_NoText ?gk_NoText ?hd_NoText ?ha_NoText ?hm_NoText ?m_SumError ?xc_SumError ?kp_SumError ?sb_SumError ?ty_SumError ?ga_SumError ?gk_SumError ?hd_SumError ?ha_SumError ?hm_SumError ?ocn ?oct ?p_NoAsk_SumError ?q_NoAsk_SumError ?p_NoPlace_SumError ?q_NoPlace_SumError ?p_NoRest_SumError ?q_NoRest_SumError ?p_NoStretch_SumError ?q_NoStretch_SumError ?p_NoText_SumError ?q_NoText_SumError ?p_NoAsk_NoPlace ?q_NoAsk_NoPlace ?p_NoAsk_NoRest ?q_NoAsk_NoRest ?p_NoAsk_NoStretch ?q_NoAsk_NoStretch ?p_NoAsk_NoText ?q_NoAsk_NoText ?p_NoAsk_ValueError ?p_NoPlace_NoAsk ?q_NoPlace_NoAsk ?p_NoPlace_NoRest ?q_NoPlace_NoRest ?p_NoPlace_NoStretch ?q_NoPlace_NoStretch ?p_NoPlace_NoText ?q_NoPlace_NoText ?p_NoPlace_ValueError ?p_NoRest_NoAsk ?q_NoRest_NoAsk ?p_NoRest_NoPlace ?q_NoRest_NoPlace ?p_NoRest_NoStretch ?q_NoRest_NoStretch ?p_NoRest_NoText ?q_NoRest_NoText ?p_NoRest_ValueError ?p_NoStretch_NoAsk ?q_NoStretch_NoAsk ?p_NoStretch_NoPlace ?q_NoStretch_NoPlace ?p_NoStretch_NoRest ?q_NoStretch_NoRest ?p_NoStretch_NoText ?q_NoStretch_NoText ?p_NoStretch_ValueError ?p_NoText_NoAsk ?q_NoText_NoAsk ?p_NoText_NoPlace ?q_NoText_NoPlace ?p_NoText_NoRest ?q_NoText_NoRest ?p_NoText_NoStretch ?q_NoText_NoStretch ?p_NoText_ValueError ?p_NoneType_NoAsk ?p_NoneType_NoPlace ?p_NoneType_NoRest ?p_NoneType_NoStretch ?p_NoneType_NoText ?p_NoneType_SumError ?p_NoneType_ValueError
    (case a1 => k_is)
    (case l1 => k_is)
    (case c1 => k_is)
    (case k1 => k_is)
    (case a2 => k_is)
    (case l2 => k_is)
    (case c2 => k_is)
    (case k2 => k_is)
    (case a3 => k_is)
    (case l3 => k_is)
    (case c3 => k_is)
    (case k3 => k_is)
    (case a4 => k_is)
    (case l4 => k_is)
    (case c4 => k_is)
    (case k4 => k_is)
    (case a5 => k_is)
    (case l5 => k_is)
    (case c5 => k_is)
    (case k5 => k_is)
    (case a6 => k_is)
    (case l6 => k_is)
    (case c6 => k_is)
    (case k6 => k_is)
    (case a7 => k_is)
    (case l7 => k_is)
    (case c7 => k_is)
    (case k7 => k_is)
    (case a8 => k_is)
    (case l8 => k_is)
    (case c8 => k_is)
    (case k8 => k_is)
    (case a9 => k_is)
    (case l9 => k_is)
    (case c9 => k_is)
    (case k9 => k_is)
    (case a10 => k_is)
    (case l10 => k_is)
    (case c10 => k_is)
    (case k10 => k_is)
    (case a11 => k_is)
    (case l11 => k_is)
    (case c11 => k_is)
    (case k11 => k_is)
    (case a12 => k_is)
    (case l12 => k_is)
    (case c12 => k_is)
    (case k12 => k_is)
    (case a13 => k_is)
    (case l13 => k_is)
    (case c13 => k_is)
    (case k13 => k_is)
    (case a14 => k_is)
    (case l14 => k_is)
    (case c14 => k_is)
    (case k14 => k_is)
    (case a15 => k_is)
    (case l15 => k_is)
    (case c15 => k_is)
    (case k15 => k_is)
    (case z1 => k_is)
    (case z2 => k_is)
    (case z3 => k_is)
    (case z4 => k_is)
    (case z5 => k_is)
    (case z6 => k_is)
    (case z7 => k_is)
    (case z8 => k_is)
    (case z9 => k_is)
    (case z10 => k_is)
    (case z11 => k_is)
    (case z12 => k_is)
    (case z13 => k_is)
    (case g1 => k_is)
    (case m_NoAsk => k_is)
    (case xc_NoAsk => k_exc)
    (case kp_NoAsk => k_is)
    (case sb_NoAsk => k_is)
    (case ty_NoAsk => k_is)
    (case ga_NoAsk => k_is)
    (case gk_NoAsk => k_is)
    (case hd_NoAsk => k_is)
    (case ha_NoAsk => k_is)
    (case hm_NoAsk => k_is)
    (case m_NoPlace => k_is)
    (case xc_NoPlace => k_exc)
    (case kp_NoPlace => k_is)
    (case sb_NoPlace => k_is)
    (case ty_NoPlace => k_is)
    (case ga_NoPlace => k_is)
    (case gk_NoPlace => k_is)
    (case hd_NoPlace => k_is)
    (case ha_NoPlace => k_is)
    (case hm_NoPlace => k_is)
    (case m_NoRest => k_is)
    (case xc_NoRest => k_exc)
    (case kp_NoRest => k_is)
    (case sb_NoRest => k_is)
    (case ty_NoRest => k_is)
    (case ga_NoRest => k_is)
    (case gk_NoRest => k_is)
    (case hd_NoRest => k_is)
    (case ha_NoRest => k_is)
    (case hm_NoRest => k_is)
    (case m_NoStretch => k_is)
    (case xc_NoStretch => k_exc)
    (case kp_NoStretch => k_is)
    (case sb_NoStretch => k_is)
    (case ty_NoStretch => k_is)
    (case ga_NoStretch => k_is)
    (case gk_NoStretch => k_is)
    (case hd_NoStretch => k_is)
    (case ha_NoStretch => k_is)
    (case hm_NoStretch => k_is)
    (case m_NoText => k_is)
    (case xc_NoText => k_exc)
    (case kp_NoText => k_is)
    (case sb_NoText => k_is)
    (case ty_NoText => k_is)
    (case ga_NoText => k_is)
    (case gk_NoText => k_is)
    (case hd_NoText => k_is)
    (case ha_NoText => k_is)
    (case hm_NoText => k_is)
    (case m_SumError => k_is)
    (case xc_SumError => k_exc)
    (case kp_SumError => k_is)
    (case sb_SumError => k_is)
    (case ty_SumError => k_is)
    (case ga_SumError => k_is)
    (case gk_SumError => k_is)
    (case hd_SumError => k_is)
    (case ha_SumError => k_is)
    (case hm_SumError => k_is)
    (case ocn => k_is)
    (case oct => k_is)
    (case p_NoAsk_SumError => (first | k_is | rfl))
    (case q_NoAsk_SumError => (first | rfl | decide))
    (case p_NoPlace_SumError => (first | k_is | rfl))
    (case q_NoPlace_SumError => (first | rfl | decide))
    (case p_NoRest_SumError => (first | k_is | rfl))
    (case q_NoRest_SumError => (first | rfl | decide))
    (case p_NoStretch_SumError => (first | k_is | rfl))
    (case q_NoStretch_SumError => (first | rfl | decide))
    (case p_NoText_SumError => (first | k_is | rfl))
    (case q_NoText_SumError => (first | rfl | decide))
    (case p_NoAsk_NoPlace => (first | k_is | rfl))
    (case q_NoAsk_NoPlace => (first | rfl | decide))
    (case p_NoAsk_NoRest => (first | k_is | rfl))
    (case q_NoAsk_NoRest => (first | rfl | decide))
    (case p_NoAsk_NoStretch => (first | k_is | rfl))
    (case q_NoAsk_NoStretch => (first | rfl | decide))
    (case p_NoAsk_NoText => (first | k_is | rfl))
    (case q_NoAsk_NoText => (first | rfl | decide))
    (case p_NoAsk_ValueError => (first | k_is | rfl))
    (case p_NoPlace_NoAsk => (first | k_is | rfl))
    (case q_NoPlace_NoAsk => (first | rfl | decide))
    (case p_NoPlace_NoRest => (first | k_is | rfl))
    (case q_NoPlace_NoRest => (first | rfl | decide))
    (case p_NoPlace_NoStretch => (first | k_is | rfl))
    (case q_NoPlace_NoStretch => (first | rfl | decide))
    (case p_NoPlace_NoText => (first | k_is | rfl))
    (case q_NoPlace_NoText => (first | rfl | decide))
    (case p_NoPlace_ValueError => (first | k_is | rfl))
    (case p_NoRest_NoAsk => (first | k_is | rfl))
    (case q_NoRest_NoAsk => (first | rfl | decide))
    (case p_NoRest_NoPlace => (first | k_is | rfl))
    (case q_NoRest_NoPlace => (first | rfl | decide))
    (case p_NoRest_NoStretch => (first | k_is | rfl))
    (case q_NoRest_NoStretch => (first | rfl | decide))
    (case p_NoRest_NoText => (first | k_is | rfl))
    (case q_NoRest_NoText => (first | rfl | decide))
    (case p_NoRest_ValueError => (first | k_is | rfl))
    (case p_NoStretch_NoAsk => (first | k_is | rfl))
    (case q_NoStretch_NoAsk => (first | rfl | decide))
    (case p_NoStretch_NoPlace => (first | k_is | rfl))
    (case q_NoStretch_NoPlace => (first | rfl | decide))
    (case p_NoStretch_NoRest => (first | k_is | rfl))
    (case q_NoStretch_NoRest => (first | rfl | decide))
    (case p_NoStretch_NoText => (first | k_is | rfl))
    (case q_NoStretch_NoText => (first | rfl | decide))
    (case p_NoStretch_ValueError => (first | k_is | rfl))
    (case p_NoText_NoAsk => (first | k_is | rfl))
    (case q_NoText_NoAsk => (first | rfl | decide))
    (case p_NoText_NoPlace => (first | k_is | rfl))
    (case q_NoText_NoPlace => (first | rfl | decide))
    (case p_NoText_NoRest => (first | k_is | rfl))
    (case q_NoText_NoRest => (first | rfl | decide))
    (case p_NoText_NoStretch => (first | k_is | rfl))
    (case q_NoText_NoStretch => (first | rfl | decide))
    (case p_NoText_ValueError => (first | k_is | rfl))
    (case p_NoneType_NoAsk => (first | k_is | rfl))
    (case p_NoneType_NoPlace => (first | k_is | rfl))
    (case p_NoneType_NoRest => (first | k_is | rfl))
    (case p_NoneType_NoStretch => (first | k_is | rfl))
    (case p_NoneType_NoText => (first | k_is | rfl))
    (case p_NoneType_SumError => (first | k_is | rfl))
    (case p_NoneType_ValueError => (first | k_is | rfl))
