import PyProof.Rows.All
import Wide.All
import OpenK.AllK
import Wide.FinOn
import HandS.ForMost
import HandS.ForExc
import HandS.Walk
import HandS.Conv
import HandS.TupAny
import HandS.SortInts
import HandS.IsInst
import HandS.Flow
import HandS.Rev
import HandS.Zip
import HandS.Deep
import HandS.TupMul
import HandS.Style
import HandS.Zip0
import PySem.Challenge.RW_mirrorwalk_k64_whole_numbers_tell_length
set_option Elab.async false
set_option linter.all false
set_option maxRecDepth 100000
set_option maxHeartbeats 4000000
namespace DL
open PySem PySem.Spec PyProof.Rows L2
/-! ### data -/
inductive D where
  | non | bl (b : Bool) | int (i : Int) | str (x : Str)
  | tup (xs : List D) | lst (xs : List D)
  | dic (ks vs : List D)
  | obj (c : Str) (ns : List Str) (vs : List D)
  | ref (a : Addr)
def kD : Key → D
  | .inl i => .int i
  | .inr x => .str x
section
variable (K : PySem.W.Frag) (mg : Str → Option Value)
mutual
def Rep (F : Hp) : D → V → Prop
  | .non, v => v = .non
  | .bl b, v => v = .bl b
  | .int i, v => v = .int i
  | .str x, v => v = .str x
  | .tup ds, v => ∃ a vs, v = .ref a ∧ SqT K F a vs ∧ Reps F ds vs
  | .lst ds, v => ∃ a vs, v = .ref a ∧ F a = some (.lst vs) ∧ Reps F ds vs
  | .dic ks ws, v => ∃ a, v = .ref a ∧ ((∃ kvs : List (Key × V), F a = some (.dK kvs) ∧ ks = kvs.map (fun p => kD p.1) ∧ Reps F ws (kvs.map (·.2))) ∨
      ∃ kvs : List (List Key × V), F a = some (.dT kvs) ∧ ks = kvs.map (fun p => .tup (p.1.map kD)) ∧ Reps F ws (kvs.map (·.2)))
  | .obj c ns ds, v => ∃ a C dx vs, v = .ref a ∧ mg c = some (.ref C) ∧ F a = some (.ins C dx (ns.zip vs)) ∧ ns.length = vs.length ∧ Reps F ds vs
  | .ref a, v => v = .ref a
def Reps (F : Hp) : List D → List V → Prop
  | [], vs => vs = []
  | d :: ds, vs => ∃ v ws, vs = v :: ws ∧ Rep F d v ∧ Reps F ds ws
end
end
def Le (F G : Hp) : Prop := ∀ b o, F b = some o → G b = some o
theorem Le.refl {F : Hp} : Le F F := fun _ _ h => h
theorem Le.trans {F G J : Hp} (a : Le F G) (b : Le G J) : Le F J := fun c o h => b c o (a c o h)
theorem le_upd {F : Hp} {p : Addr} {o : HO} (n : F p = none) : Le F (upd F p o) := fun b x e => by
  rw [upd_ne (ne_of_none e n)]; exact e
theorem le_upd2 {F H : Hp} {p : Addr} {o : HO} (l : Le F H) : Le (upd F p o) (upd H p o) := fun b x e => by
  by_cases h : b = p
  · subst h; rw [upd_same] at e ⊢; exact e
  · rw [upd_ne h] at e ⊢; exact l _ _ e
theorem le_updR {F H : Hp} {p : Addr} {o : HO} (l : Le F H) (n : F p = none) : Le F (upd H p o) := fun b x e => by
  rw [upd_ne (ne_of_none e n)]; exact l _ _ e
theorem Le.none {F G : Hp} (l : Le F G) {a : Addr} (n : G a = none) : F a = none := by
  cases h : F a with
  | none => rfl
  | some o => rw [l a o h] at n; cases n
section
variable {K : PySem.W.Frag} {mg : Str → Option Value} {F G H : Hp}
theorem sqT_le (l : Le F G) {a : Addr} {xs : List V} (h : SqT K F a xs) : SqT K G a xs := by
  rcases h with (h | ⟨o, h⟩) | h
  · exact .inl (.inl (l _ _ h))
  · exact .inl (.inr ⟨o, l _ _ h⟩)
  · exact .inr h
theorem sqL_le (l : Le F G) {a : Addr} {xs : List V} (h : SqL K F a xs) : SqL K G a xs := by
  rcases h with (h | ⟨o, h⟩) | h
  · exact .inl (.inl (l _ _ h))
  · exact .inl (.inr ⟨o, l _ _ h⟩)
  · exact .inr h
mutual
theorem Rep.le (l : Le F G) : ∀ (d : D) (v : V), Rep K mg F d v → Rep K mg G d v
  | .non, _, h => h
  | .bl _, _, h => h
  | .int _, _, h => h
  | .str _, _, h => h
  | .ref _, _, h => h
  | .tup ds, _, ⟨a, vs, e, s, r⟩ => ⟨a, vs, e, sqT_le l s, Reps.le l ds vs r⟩
  | .lst ds, _, ⟨a, vs, e, s, r⟩ => ⟨a, vs, e, l _ _ s, Reps.le l ds vs r⟩
  | .dic ks ws, _, ⟨a, e, .inl ⟨kvs, s, k, r⟩⟩ => ⟨a, e, .inl ⟨kvs, l _ _ s, k, Reps.le l ws _ r⟩⟩
  | .dic ks ws, _, ⟨a, e, .inr ⟨kvs, s, k, r⟩⟩ => ⟨a, e, .inr ⟨kvs, l _ _ s, k, Reps.le l ws _ r⟩⟩
  | .obj c ns ds, _, ⟨a, C, dx, vs, e, g, s, n, r⟩ => ⟨a, C, dx, vs, e, g, l _ _ s, n, Reps.le l ds vs r⟩
theorem Reps.le (l : Le F G) : ∀ (ds : List D) (vs : List V), Reps K mg F ds vs → Reps K mg G ds vs
  | [], _, h => h
  | d :: ds, _, ⟨v, ws, e, r, rs⟩ => ⟨v, ws, e, Rep.le l d v r, Reps.le l ds ws rs⟩
end
theorem Reps.length : ∀ {ds : List D} {vs : List V}, Reps K mg F ds vs → vs.length = ds.length
  | [], _, h => by cases h; rfl
  | d :: ds, _, ⟨v, ws, e, r, rs⟩ => by subst e; rw [List.length_cons, List.length_cons, Reps.length rs]
theorem Reps.get : ∀ {ds : List D} {vs : List V} {i : Nat} {v : V}, Reps K mg F ds vs → vs[i]? = some v → ∃ d, ds[i]? = some d ∧ Rep K mg F d v
  | [], _, _, _, h, e => by cases h; simp at e
  | d :: ds, _, 0, v, ⟨w, ws, e, r, rs⟩, h => by subst e; simp at h; subst h; exact ⟨d, rfl, r⟩
  | d :: ds, _, i + 1, v, ⟨w, ws, e, r, rs⟩, h => by
    subst e
    obtain ⟨d', h1, h2⟩ := Reps.get (i := i) rs (by simpa using h)
    exact ⟨d', by simpa using h1, h2⟩
theorem Reps.get' : ∀ {ds : List D} {vs : List V} {i : Nat} {d : D}, Reps K mg F ds vs → ds[i]? = some d → ∃ v, vs[i]? = some v ∧ Rep K mg F d v := by
  intro ds vs i d r h
  have hl : i < vs.length := by rw [r.length]; exact (List.getElem?_eq_some_iff.mp h).1
  obtain ⟨d', h1, h2⟩ := r.get (List.getElem?_eq_getElem hl)
  rw [h] at h1; cases h1
  exact ⟨_, List.getElem?_eq_getElem hl, h2⟩
theorem Reps.append : ∀ {ds es : List D} {vs ws : List V}, Reps K mg F ds vs → Reps K mg F es ws → Reps K mg F (ds ++ es) (vs ++ ws)
  | [], _, _, _, h, r => by cases h; exact r
  | d :: ds, es, _, ws, ⟨v, us, e, r, rs⟩, t => by subst e; exact ⟨v, us ++ ws, rfl, r, Reps.append rs t⟩
theorem Reps.one {d : D} {v : V} (r : Rep K mg F d v) : Reps K mg F [d] [v] := ⟨v, [], rfl, r, rfl⟩
theorem Reps.drop : ∀ {ds : List D} {vs : List V} (n : Nat), Reps K mg F ds vs → Reps K mg F (ds.drop n) (vs.drop n)
  | _, _, 0, h => h
  | [], _, _ + 1, h => by cases h; exact rfl
  | d :: ds, _, n + 1, ⟨v, us, e, r, rs⟩ => by subst e; exact Reps.drop n rs
theorem Reps.take : ∀ {ds : List D} {vs : List V} (n : Nat), Reps K mg F ds vs → Reps K mg F (ds.take n) (vs.take n)
  | _, _, 0, _ => rfl
  | [], _, _ + 1, h => by cases h; exact rfl
  | d :: ds, _, n + 1, ⟨v, us, e, r, rs⟩ => by subst e; exact ⟨v, us.take n, rfl, r, Reps.take n rs⟩
theorem Reps.reverse : ∀ {ds : List D} {vs : List V}, Reps K mg F ds vs → Reps K mg F ds.reverse vs.reverse
  | [], _, h => by cases h; exact rfl
  | d :: ds, _, ⟨v, us, e, r, rs⟩ => by subst e; rw [List.reverse_cons, List.reverse_cons]; exact (Reps.reverse rs).append (.one r)
theorem Reps.set : ∀ {ds : List D} {vs : List V} (i : Nat) {d : D} {v : V}, Reps K mg F ds vs → Rep K mg F d v → Reps K mg F (ds.set i d) (vs.set i v)
  | [], _, _, _, _, h, _ => by cases h; exact rfl
  | d :: ds, _, 0, _, _, ⟨v, us, e, r, rs⟩, q => by subst e; exact ⟨_, us, rfl, q, rs⟩
  | d :: ds, _, i + 1, _, _, ⟨v, us, e, r, rs⟩, q => by subst e; exact ⟨v, _, rfl, r, Reps.set i rs q⟩
theorem Reps.dropLast {ds : List D} {vs : List V} (h : Reps K mg F ds vs) : Reps K mg F ds.dropLast vs.dropLast := by
  rw [List.dropLast_eq_take, List.dropLast_eq_take, h.length]; exact h.take _
theorem Reps.ints : ∀ {ns : List Int}, Reps K mg F (ns.map D.int) (ns.map V.int)
  | [] => rfl
  | n :: ns => ⟨.int n, _, rfl, rfl, Reps.ints⟩
theorem Reps.ints_inv : ∀ {ns : List Int} {vs : List V}, Reps K mg F (ns.map D.int) vs → vs = ns.map V.int
  | [], _, h => h
  | n :: ns, _, ⟨v, us, e, r, rs⟩ => by cases r; rw [e, Reps.ints_inv rs]; rfl
theorem Reps.bls_inv : ∀ {ns : List Bool} {vs : List V}, Reps K mg F (ns.map D.bl) vs → vs = ns.map V.bl
  | [], _, h => h
  | n :: ns, _, ⟨v, us, e, r, rs⟩ => by cases r; rw [e, Reps.bls_inv rs]; rfl
end
/-! ### steps of the heap -/
structure Ext (mu : Addr → Prop) (F H F' H' : Hp) : Prop where
  le : Le F F'
  sub : Le F' H'
  new : ∀ b, F b = none → H b ≠ none → F' b = none
  keep : ∀ b o, ¬ mu b → H b = some o → H' b = some o
  there : ∀ b, H b ≠ none → H' b ≠ none
abbrev Ext0 := Ext fun _ => False
theorem Ext.refl {mu : Addr → Prop} {F H : Hp} (l : Le F H) : Ext mu F H F H := ⟨Le.refl, l, fun _ n _ => n, fun _ _ _ h => h, fun _ h => h⟩
theorem Ext.trans {mu : Addr → Prop} {F H F1 H1 F2 H2 : Hp} (a : Ext mu F H F1 H1) (b : Ext mu F1 H1 F2 H2) : Ext mu F H F2 H2 :=
  ⟨a.le.trans b.le, b.sub, fun c n h => b.new c (a.new c n h) (a.there c h), fun c o m h => b.keep c o m (a.keep c o m h), fun c h => b.there c (a.there c h)⟩
theorem Ext.weak {mu : Addr → Prop} {F H F1 H1 : Hp} (a : Ext0 F H F1 H1) : Ext mu F H F1 H1 := ⟨a.le, a.sub, a.new, fun c o _ h => a.keep c o (fun z => z) h, a.there⟩
/-- a new object, frozen at once -/
theorem Ext.fresh {mu : Addr → Prop} {F H : Hp} {p : Addr} {o : HO} (l : Le F H) (n : H p = none) : Ext mu F H (upd F p o) (upd H p o) where
  le := le_upd (l.none n)
  sub := le_upd2 l
  new := fun b h1 h2 => by
    have : b ≠ p := fun e => by subst e; exact h2 n
    rw [upd_ne this]; exact h1
  keep := fun b x _ e => by rw [upd_ne (ne_of_none e n)]; exact e
  there := fun b h => by
    by_cases e : b = p
    · subst e; rw [upd_same]; simp
    · rw [upd_ne e]; exact h
/-- a new object, not frozen -/
theorem Ext.tmp {mu : Addr → Prop} {F H : Hp} {p : Addr} {o : HO} (l : Le F H) (n : H p = none) : Ext mu F H F (upd H p o) where
  le := Le.refl
  sub := le_updR l (l.none n)
  new := fun b h1 h2 => h1
  keep := fun b x _ e => by rw [upd_ne (ne_of_none e n)]; exact e
  there := fun b h => by
    by_cases e : b = p
    · subst e; rw [upd_same]; simp
    · rw [upd_ne e]; exact h
/-- what was made since F, H is frozen -/
theorem Ext.freeze {mu : Addr → Prop} {F H F1 H1 : Hp} (x : Ext mu F H F1 H1) {p : Addr} {o : HO} (n : H p = none) (h : H1 p = some o) (n1 : F1 p = none) : Ext mu F H (upd F1 p o) H1 where
  le := x.le.trans (le_upd n1)
  sub := fun b u e => by
    by_cases q : b = p
    · subst q; rw [upd_same] at e; cases e; exact h
    · rw [upd_ne q] at e; exact x.sub _ _ e
  new := fun b h1 h2 => by
    have : b ≠ p := fun e => by subst e; exact h2 n
    rw [upd_ne this]; exact x.new b h1 h2
  keep := x.keep
  there := x.there
/-! ### the state of the draws -/
structure Dr where
  ad : Addr
  ns : List Int
  pos : Int
  big : Int
  lcg : Int
inductive Res (α : Type) where
  | ok (a : α) (st : Option Dr)
  | err (c : Str) (w : Option Str) (st : Option Dr)
  | stuck
abbrev Md (α : Type) := Option Dr → Res α
def Res.bind {α β : Type} : Res α → (α → Md β) → Res β
  | .ok a st, g => g a st
  | .err c w st, _ => .err c w st
  | .stuck, _ => .stuck
def Md.bind {α β : Type} (f : Md α) (g : α → Md β) : Md β := fun st => (f st).bind g
def Md.pure {α : Type} (a : α) : Md α := fun st => .ok a st
def Md.stuck {α : Type} : Md α := fun _ => .stuck
def Md.ofO {α : Type} : Option α → Md α
  | some a => Md.pure a
  | none => Md.stuck
theorem Md.bind_pure {α β : Type} (a : α) (g : α → Md β) : Md.bind (Md.pure a) g = g a := rfl
theorem Md.bind_assoc {α β γ : Type} (f : Md α) (g : α → Md β) (h : β → Md γ) : Md.bind (Md.bind f g) h = Md.bind f fun a => Md.bind (g a) h := by
  funext st; unfold Md.bind; cases f st <;> rfl
inductive Slot where
  | un | val (d : D) | own (xs : List D) | owd (ks vs : List D)
abbrev DEnv := List Slot
structure Ctx where
  F0 : Hp
  H0 : Hp
  mu : Addr → Prop
  ad : Addr
  W : WX
def DrOk (K : PySem.W.Frag) (mu : Addr → Prop) (ad : Addr) (st : Option Dr) (F H : Hp) : Prop := match st with
  | none => True
  | some d => mu ad ∧ ∃ as, H ad = some (.lst [.ref as, .int d.pos, .int d.big, .int d.lcg]) ∧ F ad = none ∧ F as = some (.lst (d.ns.map V.int)) ∧ d.ad = ad
theorem DrOk.step {K : PySem.W.Frag} {mu : Addr → Prop} {ad : Addr} {st : Option Dr} {F H F' H' : Hp} (h : DrOk K mu ad st F H) (x : Ext0 F H F' H') : DrOk K mu ad st F' H' := by
  cases st with
  | none => trivial
  | some d =>
    obtain ⟨m, as, h1, h2, h3⟩ := h
    exact ⟨m, as, x.keep _ _ (fun z => z) h1, x.new _ h2 (by rw [h1]; simp), x.le _ _ h3.1, h3.2⟩
def KV1 (mg : Str → Option Value) (K : PySem.W.Frag) (F : Hp) (ks ws : List D) (o : HO) : Prop :=
  (∃ kvs : List (Key × V), o = .dK kvs ∧ ks = kvs.map (fun p => kD p.1) ∧ Reps K mg F ws (kvs.map (·.2))) ∨
      ∃ kvs : List (List Key × V), o = .dT kvs ∧ ks = kvs.map (fun p => .tup (p.1.map kD)) ∧ Reps K mg F ws (kvs.map (·.2))
theorem KV1.le {mg : Str → Option Value} {K : PySem.W.Frag} {F G : Hp} (l : Le F G) {ks ws : List D} {o : HO} (h : KV1 mg K F ks ws o) : KV1 mg K G ks ws o := by
  rcases h with ⟨kvs, e, k, r⟩ | ⟨kvs, e, k, r⟩
  · exact .inl ⟨kvs, e, k, Reps.le l _ _ r⟩
  · exact .inr ⟨kvs, e, k, Reps.le l _ _ r⟩
def Slot.isOwn : Slot → Bool
  | .own _ => true
  | .owd _ _ => true
  | _ => false
structure Ws (K : PySem.W.Frag) (mg : Str → Option Value) (C : Ctx) (σ : L2.St) (δ : DEnv) (st : Option Dr) (F H : Hp) : Prop where
  ext : Ext C.mu C.F0 C.H0 F H
  muv : ∀ b, C.mu b → C.F0 b = none ∧ C.H0 b ≠ none
  sl : δ.length = σ.length
  val : ∀ (i : Nat) (d : D), δ[i]? = some (Slot.val d) → ∃ v, σ[i]? = some (some v) ∧ Rep K mg F d v
  own : ∀ (i : Nat) (ds : List D), δ[i]? = some (Slot.own ds) → ∃ a vs, σ[i]? = some (some (V.ref a)) ∧ H a = some (HO.lst vs) ∧ F a = none ∧ C.H0 a = none ∧ Reps K mg F ds vs
  owd : ∀ (i : Nat) (ks ws : List D), δ[i]? = some (Slot.owd ks ws) → ∃ a o, σ[i]? = some (some (V.ref a)) ∧ H a = some o ∧ F a = none ∧ C.H0 a = none ∧ KV1 mg K F ks ws o
  inj : ∀ (i j : Nat) (s t : Slot) (a : Addr), δ[i]? = some s → δ[j]? = some t → s.isOwn = true → t.isOwn = true → σ[i]? = some (some (V.ref a)) → σ[j]? = some (some (V.ref a)) → i = j
  dr : DrOk K C.mu C.ad st F H
section
variable {K : PySem.W.Frag} {mg : Str → Option Value} {C : Ctx} {σ : L2.St} {δ : DEnv} {st st' : Option Dr} {F H F' H' : Hp}
theorem Ws.sub (w : Ws K mg C σ δ st F H) : Le F H := w.ext.sub
theorem Ws.nomu (w : Ws K mg C σ δ st F H) {a : Addr} (n : C.H0 a = none) : ¬ C.mu a := fun m => (w.muv a m).2 n
theorem Ws.step' (w : Ws K mg C σ δ st F H) (x : Ext C.mu F H F' H') (d : DrOk K C.mu C.ad st' F' H') : Ws K mg C σ δ st' F' H' where
  ext := w.ext.trans x
  muv := w.muv
  sl := w.sl
  val := fun i d h => let ⟨v, e, r⟩ := w.val i d h; ⟨v, e, Rep.le x.le _ _ r⟩
  own := fun i ds h => by
    obtain ⟨a, vs, e, h1, h2, h3, h4⟩ := w.own i ds h
    exact ⟨a, vs, e, x.keep _ _ (w.nomu h3) h1, x.new _ h2 (by rw [h1]; simp), h3, Reps.le x.le _ _ h4⟩
  owd := fun i ks ws h => by
    obtain ⟨a, o, e, h1, h2, h3, h4⟩ := w.owd i ks ws h
    exact ⟨a, o, e, x.keep _ _ (w.nomu h3) h1, x.new _ h2 (by rw [h1]; simp), h3, h4.le x.le⟩
  inj := w.inj
  dr := d
theorem Ws.step (w : Ws K mg C σ δ st F H) (x : Ext0 F H F' H') : Ws K mg C σ δ st F' H' := w.step' x.weak (w.dr.step x)
/-- forgetting slots -/
theorem Ws.weak {σ' : L2.St} {δ' : DEnv} (w : Ws K mg C σ δ st F H) (hl : δ'.length = σ'.length) (h : ∀ (i : Nat) (s : Slot), δ'[i]? = some s → s ≠ Slot.un → δ[i]? = some s ∧ σ'[i]? = σ[i]?) : Ws K mg C σ' δ' st F H where
  ext := w.ext
  muv := w.muv
  sl := hl
  val := fun i d e => by obtain ⟨e1, e2⟩ := h i _ e (by simp); rw [e2]; exact w.val i d e1
  own := fun i d e => by obtain ⟨e1, e2⟩ := h i _ e (by simp); rw [e2]; exact w.own i d e1
  owd := fun i d u e => by obtain ⟨e1, e2⟩ := h i _ e (by simp); rw [e2]; exact w.owd i d u e1
  inj := fun i j s t a e1 e2 o1 o2 s1 s2 => by
    obtain ⟨f1, g1⟩ := h i s e1 (fun z => by rw [z] at o1; cases o1)
    obtain ⟨f2, g2⟩ := h j t e2 (fun z => by rw [z] at o2; cases o2)
    rw [g1] at s1; rw [g2] at s2
    exact w.inj i j s t a f1 f2 o1 o2 s1 s2
  dr := w.dr
/-- a slot gets a value -/
theorem Ws.setVal {i : Nat} {d : D} {v : V} (w : Ws K mg C σ δ st F H) (r : Rep K mg F d v) : Ws K mg C (σ.set i (some v)) (δ.set i (.val d)) st F H where
  ext := w.ext
  muv := w.muv
  sl := by rw [List.length_set, List.length_set]; exact w.sl
  val := fun j e h => by
    by_cases q : i = j
    · subst q
      rw [List.getElem?_set] at h
      rw [if_pos rfl] at h
      split at h <;> cases h
      rename_i hi
      rw [w.sl] at hi
      rw [List.getElem?_set_self hi]
      exact ⟨v, rfl, r⟩
    · rw [List.getElem?_set_ne q] at h ⊢; exact w.val j e h
  own := fun j e h => by
    by_cases q : i = j
    · subst q
      rw [List.getElem?_set] at h
      rw [if_pos rfl] at h
      split at h <;> cases h
    · rw [List.getElem?_set_ne q] at h ⊢; exact w.own j e h
  owd := fun j e f h => by
    by_cases q : i = j
    · subst q
      rw [List.getElem?_set] at h
      rw [if_pos rfl] at h
      split at h <;> cases h
    · rw [List.getElem?_set_ne q] at h ⊢; exact w.owd j e f h
  inj := fun j l s t a e1 e2 o1 o2 s1 s2 => by
    by_cases q : i = j
    · subst q
      rw [List.getElem?_set] at e1
      rw [if_pos rfl] at e1
      split at e1 <;> cases e1
      cases o1
    · by_cases q2 : i = l
      · subst q2
        rw [List.getElem?_set] at e2
        rw [if_pos rfl] at e2
        split at e2 <;> cases e2
        cases o2
      · rw [List.getElem?_set_ne q] at e1 s1
        rw [List.getElem?_set_ne q2] at e2 s2
        exact w.inj j l s t a e1 e2 o1 o2 s1 s2
  dr := w.dr
/-- a slot gets a new list of its own -/
theorem Ws.setOwn {i : Nat} {ds : List D} {a : Addr} {vs : List V} (w : Ws K mg C σ δ st F H) (h1 : H a = some (HO.lst vs)) (h2 : F a = none) (h3 : C.H0 a = none) (r : Reps K mg F ds vs)
    (hn : ∀ (j : Nat) (s : Slot), δ[j]? = some s → s.isOwn = true → σ[j]? ≠ some (some (V.ref a))) : Ws K mg C (σ.set i (some (.ref a))) (δ.set i (.own ds)) st F H where
  ext := w.ext
  muv := w.muv
  sl := by rw [List.length_set, List.length_set]; exact w.sl
  val := fun j e h => by
    by_cases q : i = j
    · subst q
      rw [List.getElem?_set] at h
      rw [if_pos rfl] at h
      split at h <;> cases h
    · rw [List.getElem?_set_ne q] at h ⊢; exact w.val j e h
  own := fun j e h => by
    by_cases q : i = j
    · subst q
      rw [List.getElem?_set] at h
      rw [if_pos rfl] at h
      split at h <;> cases h
      rename_i hi
      rw [w.sl] at hi
      rw [List.getElem?_set_self hi]
      exact ⟨a, vs, rfl, h1, h2, h3, r⟩
    · rw [List.getElem?_set_ne q] at h ⊢; exact w.own j e h
  owd := fun j e f h => by
    by_cases q : i = j
    · subst q
      rw [List.getElem?_set] at h
      rw [if_pos rfl] at h
      split at h <;> cases h
    · rw [List.getElem?_set_ne q] at h ⊢; exact w.owd j e f h
  inj := fun j l s t b e1 e2 o1 o2 s1 s2 => by
    by_cases q : i = j
    · subst q
      have hi : i < σ.length := by
        rw [← w.sl]
        have := (List.getElem?_eq_some_iff.mp e1).1
        rw [List.length_set] at this; exact this
      rw [List.getElem?_set_self hi] at s1; cases s1
      by_cases q2 : i = l
      · exact q2
      · rw [List.getElem?_set_ne q2] at e2 s2
        exact absurd s2 (hn l t e2 o2)
    · by_cases q2 : i = l
      · subst q2
        have hi : i < σ.length := by
          rw [← w.sl]
          have := (List.getElem?_eq_some_iff.mp e2).1
          rw [List.length_set] at this; exact this
        rw [List.getElem?_set_self hi] at s2; cases s2
        rw [List.getElem?_set_ne q] at e1 s1
        exact absurd s1 (hn j s e1 o1)
      · rw [List.getElem?_set_ne q] at e1 s1
        rw [List.getElem?_set_ne q2] at e2 s2
        exact w.inj j l s t b e1 e2 o1 o2 s1 s2
  dr := w.dr
end
/-- an exception: its class by name, its word -/
def Exc (mg : Str → Option Value) (c : Str) (w : Option Str) (cls : Value) (dd : Option Addr) (H : Hp) : Prop :=
  (∃ Ca, mg c = some (.ref Ca) ∧ cls = .ref Ca) ∧ ∀ x, w = some x → ∃ d, dd = some d ∧ H d = some (.xd [(("word" : Str), .str x)])
def PostG {α : Type} (K : PySem.W.Frag) (mg : Str → Option Value) (C : Ctx) (σ : L2.St) (δ : DEnv) (F H : Hp) (r : Res α) (k : α → Option Dr → Hp → Hp → Prop) : Prop := match r with
  | .ok a st' => ∀ F' H', Ext C.mu F H F' H' → Ws K mg C σ δ st' F' H' → k a st' F' H'
  | .err c w st' => ∀ cls dd F' H', Ext C.mu F H F' H' → Ws K mg C σ δ st' F' H' → Exc mg c w cls dd H' → C.W cls dd σ H'
  | .stuck => False
section
variable {K : PySem.W.Frag} {mg : Str → Option Value} {C : Ctx} {σ : L2.St} {δ : DEnv} {F H F' H' : Hp} {α β : Type}
theorem PostG.imp {r : Res α} {k k' : α → Option Dr → Hp → Hp → Prop} (p : PostG K mg C σ δ F H r k)
    (h : ∀ a st' F' H', Ext C.mu F H F' H' → Ws K mg C σ δ st' F' H' → k a st' F' H' → k' a st' F' H') : PostG K mg C σ δ F H r k' := by
  cases r with
  | ok a st => exact fun F' H' x w => h a st F' H' x w (p F' H' x w)
  | err c w st => exact p
  | stuck => exact p
theorem PostG.bind {r : Res α} {g : α → Md β} {k : β → Option Dr → Hp → Hp → Prop} (p : PostG K mg C σ δ F H (r.bind g) k) :
    PostG K mg C σ δ F H r fun a st1 F1 H1 => PostG K mg C σ δ F1 H1 (g a st1) k := by
  cases r with
  | ok a st =>
    intro F1 H1 x1 w1
    have p' : PostG K mg C σ δ F H (g a st) k := p
    show PostG K mg C σ δ F1 H1 (g a st) k
    cases e : g a st with
    | ok b st2 => rw [e] at p'; exact fun F2 H2 x2 w2 => p' F2 H2 (x1.trans x2) w2
    | err c w st2 => rw [e] at p'; exact fun cls dd F2 H2 x2 w2 z => p' cls dd F2 H2 (x1.trans x2) w2 z
    | stuck => rw [e] at p'; exact p'
  | err c w st => exact p
  | stuck => exact p
theorem PostG.pure {a : α} {st : Option Dr} {k : α → Option Dr → Hp → Hp → Prop} (p : PostG K mg C σ δ F H (Md.pure a st) k) (w : Ws K mg C σ δ st F H) : k a st F H :=
  p F H (Ext.refl w.sub) w
end
/-! ### readings -/
section
variable (K : PySem.W.Frag) (mg : Str → Option Value) (C : Ctx)
/-- a value or a list that a slot owns -/
def RepQ (mu : Addr → Prop) (F H : Hp) (d : D) (v : V) : Prop := Rep K mg F d v ∨ (∃ a vs ds, ¬ mu a ∧ d = .lst ds ∧ v = .ref a ∧ H a = some (HO.lst vs) ∧ Reps K mg F ds vs) ∨ ∃ a o ks ws, ¬ mu a ∧ d = .dic ks ws ∧ v = .ref a ∧ H a = some o ∧ KV1 mg K F ks ws o
def tE (f : DEnv → Md D) : TE := fun σ H Q => ∃ F δ st, Ws K mg C σ δ st F H ∧ PostG K mg C σ δ F H (f δ st) fun d _ F' H' => ∀ v, Rep K mg F' d v → Q v H'
def tQ (f : DEnv → Md D) : TE := fun σ H Q => ∃ F δ st, Ws K mg C σ δ st F H ∧ PostG K mg C σ δ F H (f δ st) fun d _ F' H' => ∀ v, RepQ K mg C.mu F' H' d v → Q v H'
/-- a new list -/
def tN (f : DEnv → Md (List D)) : TE := fun σ H Q => ∃ F δ st, Ws K mg C σ δ st F H ∧ PostG K mg C σ δ F H (f δ st) fun ds _ F' H' => ∀ a vs, H a = none → H' a = some (HO.lst vs) → F' a = none → Reps K mg F' ds vs → Q (.ref a) H'
def tT (f : DEnv → Md Bool) : TT := fun σ H Q => ∃ F δ st, Ws K mg C σ δ st F H ∧ PostG K mg C σ δ F H (f δ st) fun b _ _ H' => Q b H'
def tA (f : DEnv → Md (List D)) : TA := fun σ H Q => ∃ F δ st, Ws K mg C σ δ st F H ∧ PostG K mg C σ δ F H (f δ st) fun ds _ F' H' => ∀ vs, Reps K mg F' ds vs → Q vs H'
end
abbrev DE (X : Cx) (C : Ctx) (e : Expr) (f : DEnv → Md D) : Prop := PE X e (tE X.K X.mg C f)
abbrev DQ (X : Cx) (C : Ctx) (e : Expr) (f : DEnv → Md D) : Prop := PE X e (tQ X.K X.mg C f)
abbrev DN (X : Cx) (C : Ctx) (e : Expr) (f : DEnv → Md (List D)) : Prop := PE X e (tN X.K X.mg C f)
abbrev DT (X : Cx) (C : Ctx) (e : Expr) (f : DEnv → Md Bool) : Prop := PT X e (tT X.K X.mg C f)
abbrev DAr (X : Cx) (C : Ctx) (es : List Expr) (f : DEnv → Md (List D)) : Prop := PA X es (tA X.K X.mg C f)
theorem PE.imp {X : Cx} {e : Expr} {t t' : TE} (h : PE X e t) (i : ∀ σ H Q, t' σ H Q → t σ H Q) : PE X e t' := ⟨fun pins s σ H Q I q => h.run pins s σ H Q I (i _ _ _ q)⟩
theorem PT.imp {X : Cx} {e : Expr} {t t' : TT} (h : PT X e t) (i : ∀ σ H Q, t' σ H Q → t σ H Q) : PT X e t' := ⟨fun pins s σ H Q I q => h.run pins s σ H Q I (i _ _ _ q)⟩
theorem PA.imp {X : Cx} {e : List Expr} {t t' : TA} (h : PA X e t) (i : ∀ σ H Q, t' σ H Q → t σ H Q) : PA X e t' := ⟨fun pos pins s σ H Q I q => h.run pos pins s σ H Q I (i _ _ _ q)⟩
section
variable {X : Cx} {C : Ctx} {e : Expr}
theorem DE.q {f : DEnv → Md D} (h : DE X C e f) : DQ X C e f := PE.imp h fun σ H Q ⟨F, δ, st, w, p⟩ => ⟨F, δ, st, w, p.imp fun a st' F' H' x w' k v r => k v (.inl r)⟩
end
section
variable {K : PySem.W.Frag} {mg : Str → Option Value} {mu nu : Addr → Prop} {F H F' H' : Hp}
theorem RepQ.step {d : D} {v : V} (r : RepQ K mg mu F H d v) (x : Ext mu F H F' H') : RepQ K mg mu F' H' d v := by
  rcases r with r | ⟨a, vs, ds, m, e, e2, h, r⟩ | ⟨a, o, ks, ws, m, e, e2, h, r⟩
  · exact .inl (Rep.le x.le _ _ r)
  · exact .inr (.inl ⟨a, vs, ds, m, e, e2, x.keep _ _ m h, Reps.le x.le _ _ r⟩)
  · exact .inr (.inr ⟨a, o, ks, ws, m, e, e2, x.keep _ _ m h, r.le x.le⟩)
theorem RepQ.weak {d : D} {v : V} (r : RepQ K mg mu F H d v) (h : ∀ a, nu a → mu a) : RepQ K mg nu F H d v := by
  rcases r with r | ⟨a, vs, ds, m, e, e2, z, r⟩ | ⟨a, o, ks, ws, m, e, e2, z, r⟩
  · exact .inl r
  · exact .inr (.inl ⟨a, vs, ds, fun q => m (h a q), e, e2, z, r⟩)
  · exact .inr (.inr ⟨a, o, ks, ws, fun q => m (h a q), e, e2, z, r⟩)
abbrev RepQ0 (K : PySem.W.Frag) (mg : Str → Option Value) (F H : Hp) (d : D) (v : V) : Prop := RepQ K mg (fun _ => False) F H d v
theorem RepQ.z {d : D} {v : V} (r : RepQ K mg mu F H d v) : RepQ0 K mg F H d v := r.weak fun _ z => z.elim
theorem RepQ.lst {ds : List D} {v : V} (r : RepQ K mg mu F H (.lst ds) v) (l : Le F H) : ∃ a vs, v = .ref a ∧ H a = some (.lst vs) ∧ Reps K mg F ds vs := by
  rcases r with ⟨a, vs, e, h, r⟩ | ⟨a, vs, ds', m, e, e2, z, r⟩ | ⟨a, o, ks, ws, m, e, e2, z, r⟩
  · exact ⟨a, vs, e, l _ _ h, r⟩
  · cases e; exact ⟨a, vs, e2, z, r⟩
  · cases e
theorem RepQ.tup {ds : List D} {v : V} (r : RepQ K mg mu F H (.tup ds) v) (l : Le F H) : ∃ a vs, v = .ref a ∧ SqT K H a vs ∧ Reps K mg F ds vs := by
  rcases r with ⟨a, vs, e, h, r⟩ | ⟨a, vs, ds', m, e, e2, z, r⟩ | ⟨a, o, ks, ws, m, e, e2, z, r⟩
  · exact ⟨a, vs, e, sqT_le l h, r⟩
  · cases e
  · cases e
theorem RepQ.int {i : Int} {v : V} (r : RepQ K mg mu F H (.int i) v) : v = .int i := by
  rcases r with r | ⟨a, vs, ds', m, e, e2, z, r⟩ | ⟨a, o, ks, ws, m, e, e2, z, r⟩
  · exact r
  · cases e
  · cases e
theorem RepQ.bl {i : Bool} {v : V} (r : RepQ K mg mu F H (.bl i) v) : v = .bl i := by
  rcases r with r | ⟨a, vs, ds', m, e, e2, z, r⟩ | ⟨a, o, ks, ws, m, e, e2, z, r⟩
  · exact r
  · cases e
  · cases e
theorem RepQ.str {i : Str} {v : V} (r : RepQ K mg mu F H (.str i) v) : v = .str i := by
  rcases r with r | ⟨a, vs, ds', m, e, e2, z, r⟩ | ⟨a, o, ks, ws, m, e, e2, z, r⟩
  · exact r
  · cases e
  · cases e
theorem RepQ.non {v : V} (r : RepQ K mg mu F H .non v) : v = .non := by
  rcases r with r | ⟨a, vs, ds', m, e, e2, z, r⟩ | ⟨a, o, ks, ws, m, e, e2, z, r⟩
  · exact r
  · cases e
  · cases e
end
end DL

set_option Elab.async false
set_option linter.all false
set_option maxRecDepth 100000
set_option maxHeartbeats 4000000
namespace DL
open PySem PySem.Spec PyProof.Rows L2
/-! ### by values -/
def rD1 (K : PySem.W.Frag) (mg : Str → Option Value) (g : D → Option D) : V → Hp → VK → Prop := fun x H Q => ∃ F d z, Le F H ∧ g d = some z ∧ RepQ0 K mg F H d x ∧ ∀ v F' H', Ext0 F H F' H' → Rep K mg F' z v → Q v H'
def rD2 (K : PySem.W.Frag) (mg : Str → Option Value) (g : D → D → Option D) : R2 := fun x y H Q => ∃ F d e z, Le F H ∧ g d e = some z ∧ RepQ0 K mg F H d x ∧ RepQ0 K mg F H e y ∧ ∀ v F' H', Ext0 F H F' H' → Rep K mg F' z v → Q v H'
/-- results that are new lists -/
def rN2 (K : PySem.W.Frag) (mg : Str → Option Value) (g : D → D → Option (List D)) : R2 := fun x y H Q => ∃ F d e z, Le F H ∧ g d e = some z ∧ RepQ0 K mg F H d x ∧ RepQ0 K mg F H e y ∧ ∀ p vs, H p = none → Reps K mg F z vs → Q (.ref p) (upd H p (.lst vs))
def RepQs (K : PySem.W.Frag) (mg : Str → Option Value) (mu : Addr → Prop) (F H : Hp) : List D → List V → Prop
  | [], vs => vs = []
  | d :: ds, vs => ∃ v ws, vs = v :: ws ∧ RepQ K mg mu F H d v ∧ RepQs K mg mu F H ds ws
theorem RepQs.step {K : PySem.W.Frag} {mg : Str → Option Value} {mu : Addr → Prop} {F H F' H' : Hp} (x : Ext mu F H F' H') : ∀ {ds : List D} {vs : List V}, RepQs K mg mu F H ds vs → RepQs K mg mu F' H' ds vs
  | [], _, h => h
  | d :: ds, _, ⟨v, ws, e, r, rs⟩ => ⟨v, ws, e, r.step x, RepQs.step x rs⟩
theorem RepQs.z {K : PySem.W.Frag} {mg : Str → Option Value} {mu : Addr → Prop} {F H : Hp} : ∀ {ds : List D} {vs : List V}, RepQs K mg mu F H ds vs → RepQs K mg (fun _ => False) F H ds vs
  | [], _, h => h
  | d :: ds, _, ⟨v, ws, e, r, rs⟩ => ⟨v, ws, e, r.z, RepQs.z rs⟩
def rDn (K : PySem.W.Frag) (mg : Str → Option Value) (g : List D → Option D) : List V → Hp → VK → Prop := fun xs H Q => ∃ F ds z, Le F H ∧ g ds = some z ∧ RepQs K mg (fun _ => False) F H ds xs ∧ ∀ v F' H', Ext0 F H F' H' → Rep K mg F' z v → Q v H'
def rNn (K : PySem.W.Frag) (mg : Str → Option Value) (g : List D → Option (List D)) : List V → Hp → VK → Prop := fun xs H Q => ∃ F ds z, Le F H ∧ g ds = some z ∧ RepQs K mg (fun _ => False) F H ds xs ∧ ∀ p vs H', Ext0 F H F H' → H p = none → H' p = some (.lst vs) → Reps K mg F z vs → Q (.ref p) H'
/-! ### data as PyData -/
mutual
def toPy : D → Option PyData
  | .non => some .none
  | .bl b => some (.bool b)
  | .int i => some (.int i)
  | .str x => some (.str x)
  | .tup ds => (toPys ds).map .tuple
  | .lst ds => (toPys ds).map .list
  | _ => none
def toPys : List D → Option (List PyData)
  | [] => some []
  | d :: ds => (toPy d).bind fun p => (toPys ds).map fun ps => p :: ps
end
section
variable {K : PySem.W.Frag} {mg : Str → Option Value} {F H : Hp}
mutual
theorem Rep.dp (l : Le F H) : ∀ (d : D) (v : V) (p : PyData), Rep K mg F d v → toPy d = some p → Dp K H v p
  | .non, v, p, r, e => by cases r; cases e; exact .non
  | .bl b, v, p, r, e => by cases r; cases e; exact .bl b
  | .int b, v, p, r, e => by cases r; cases e; exact .int b
  | .str b, v, p, r, e => by cases r; cases e; exact .str b
  | .tup ds, v, p, r, e => by
    obtain ⟨a, vs, rfl, h, rs⟩ := r
    unfold toPy at e
    obtain ⟨ps, e1, rfl⟩ := Option.map_eq_some_iff.mp e
    exact .tup (sqT_le l h) (Reps.dp l ds vs ps rs e1)
  | .lst ds, v, p, r, e => by
    obtain ⟨a, vs, rfl, h, rs⟩ := r
    unfold toPy at e
    obtain ⟨ps, e1, rfl⟩ := Option.map_eq_some_iff.mp e
    exact .lst (SqL.of (l _ _ h)) (Reps.dp l ds vs ps rs e1)
  | .dic _ _, v, p, r, e => by cases e
  | .obj _ _ _, v, p, r, e => by cases e
  | .ref _, v, p, r, e => by cases e
theorem Reps.dp (l : Le F H) : ∀ (ds : List D) (vs : List V) (ps : List PyData), Reps K mg F ds vs → toPys ds = some ps → DpAll K H vs ps
  | [], vs, ps, r, e => by cases r; cases e; exact .nil
  | d :: ds, vs, ps, r, e => by
    obtain ⟨v, ws, rfl, r1, rs⟩ := r
    unfold toPys at e
    obtain ⟨p, e1, e2⟩ := Option.bind_eq_some_iff.mp e
    obtain ⟨qs, e3, rfl⟩ := Option.map_eq_some_iff.mp e2
    exact .cons (Rep.dp l d v p r1 e1) (Reps.dp l ds ws qs rs e3)
end
theorem RepQ.dp {mu : Addr → Prop} (l : Le F H) {d : D} {v : V} {p : PyData} (r : RepQ K mg mu F H d v) (e : toPy d = some p) : Dp K H v p := by
  rcases r with r | ⟨a, vs, ds, m, rfl, rfl, h, r⟩ | ⟨a, o, ks, ws, m, rfl, rfl, h, r⟩
  · exact r.dp l d v p e
  · unfold toPy at e
    obtain ⟨ps, e1, rfl⟩ := Option.map_eq_some_iff.mp e
    exact .lst (SqL.of h) (Reps.dp l ds vs ps r e1)
  · cases e
end
/-! ### operators -/
abbrev lim : Nat := 1000000
theorem lim_le : lim ≤ sizeLine := by rw [sizeLine_eq]; decide
def dAdd : D → D → Option D
  | .int a, .int b => some (.int (a + b))
  | .tup a, .tup b => if a.length + b.length ≤ lim then some (.tup (a ++ b)) else none
  | _, _ => none
def dSub : D → D → Option D
  | .int a, .int b => some (.int (a - b))
  | _, _ => none
def dMul : D → D → Option D
  | .int a, .int b => if a.natAbs < 2 ^ 64 ∨ b.natAbs < 2 ^ 64 then some (.int (a * b)) else none
  | _, _ => none
def dDiv : D → D → Option D
  | .int a, .int b => if b ≠ 0 ∧ b.natAbs < 1073741824 then some (.int (a.fdiv b)) else none
  | _, _ => none
def dMod : D → D → Option D
  | .int a, .int b => if b ≠ 0 then some (.int (a.fmod b)) else none
  | _, _ => none
def dEqB : D → D → Option Bool
  | .int a, .int b => some (decide (a = b))
  | .str a, .str b => some (decide (a = b))
  | .bl a, .bl b => some (decide (a = b))
  | d, e => match toPy d, toPy e with
    | some p, some q => if SeqAt.shaped p && SeqAt.shaped q then some (PyData.eqv p q) else none
    | _, _ => none
def dEq (d e : D) : Option D := (dEqB d e).map .bl
def dNe (d e : D) : Option D := (dEqB d e).map fun b => .bl (!b)
def dLt : D → D → Option D
  | .int a, .int b => some (.bl (decide (a < b)))
  | _, _ => none
def dLe : D → D → Option D
  | .int a, .int b => some (.bl (decide (a ≤ b)))
  | _, _ => none
def dGt : D → D → Option D
  | .int a, .int b => some (.bl (decide (b < a)))
  | _, _ => none
def dGe : D → D → Option D
  | .int a, .int b => some (.bl (decide (b ≤ a)))
  | _, _ => none
def dIs : D → D → Option D
  | .bl a, .bl b => some (.bl (decide (a = b)))
  | d, .non => match d with
    | .non => some (.bl true)
    | _ => some (.bl false)
  | _, _ => none
def dIsN : D → D → Option D
  | .bl a, .bl b => some (.bl (!decide (a = b)))
  | d, .non => match d with
    | .non => some (.bl false)
    | _ => some (.bl true)
  | _, _ => none
def dInB : D → D → Option Bool
  | d, .lst es => match toPy d, toPys es with
    | some p, some qs => if SeqAt.shaped p && SeqAt.shaped (.list qs) then some (qs.any fun z => PyData.eqv z p) else none
    | _, _ => none
  | .int i, .tup es => match toPys es with
    | some qs => if qs.all (fun z => match z with | .int _ => true | _ => false) then some (qs.any fun z => PyData.eqv z (.int i)) else none
    | _ => none
  | .str i, .tup es => match toPys es with
    | some qs => if qs.all (fun z => match z with | .str _ => true | _ => false) then some (qs.any fun z => PyData.eqv z (.str i)) else none
    | _ => none
  | _, _ => none
def dIn (d e : D) : Option D := (dInB d e).map .bl
def dNotIn (d e : D) : Option D := (dInB d e).map fun b => .bl (!b)
section
variable {X : Cx}
theorem op_of {f : Value → Value → Sem Value} {g : D → D → Option D} {r : R2} (h : OpR X f r) (i : ∀ x y H Q, rD2 X.K X.mg g x y H Q → r x y H Q) : OpR X f (rD2 X.K X.mg g) :=
  fun pins s σ H x y v u Q I rx ry q => h pins s σ H x y v u Q I rx ry (i _ _ _ _ q)
theorem od_add : OpR X (binaryOp .Add) (rD2 X.K X.mg dAdd) := by
  refine op_of (OpR.or op_add op_catA) fun x y H Q ⟨F, d, e, z, l, g, rx, ry, k⟩ => ?_
  unfold dAdd at g
  split at g
  · cases g
    exact .inl ⟨_, _, rx.int, ry.int, k _ _ _ (Ext.refl l) rfl⟩
  · rename_i a b
    split at g
    · cases g
      rename_i hz
      obtain ⟨p, vs, rfl, h1, r1⟩ := rx.tup l
      obtain ⟨q, ws, rfl, h2, r2⟩ := ry.tup l
      have hz' : vs.length + ws.length ≤ sizeLine := by rw [r1.length, r2.length]; exact Nat.le_trans hz lim_le
      obtain ⟨p', vs', e1, g1, s1⟩ : Rep X.K X.mg F (.tup a) (.ref p) := by
        rcases rx with r | ⟨_, _, _, _, z, _⟩ | ⟨_, _, _, _, _, z, _⟩
        · exact r
        · cases z
        · cases z
      obtain ⟨q', ws', e2, g2, s2⟩ : Rep X.K X.mg F (.tup b) (.ref q) := by
        rcases ry with r | ⟨_, _, _, _, z, _⟩ | ⟨_, _, _, _, _, z, _⟩
        · exact r
        · cases z
        · cases z
      cases e1
      cases e2
      have hz2 : vs'.length + ws'.length ≤ sizeLine := by rw [s1.length, s2.length]; exact Nat.le_trans hz lim_le
      refine .inr ⟨p, q, vs', ws', rfl, rfl, sqT_le l g1, sqT_le l g2, hz2, fun ev => ?_, fun _ ew => ?_, fun _ _ t ht => ?_⟩
      · have ea : a = [] := List.eq_nil_of_length_eq_zero (by rw [← s1.length, ev]; rfl)
        subst ea
        exact k _ _ _ (Ext.refl l) ⟨q, ws', rfl, g2, s2⟩
      · have eb : b = [] := List.eq_nil_of_length_eq_zero (by rw [← s2.length, ew]; rfl)
        subst eb
        rw [List.append_nil] at k
        exact k _ _ _ (Ext.refl l) ⟨p, vs', rfl, g1, s1⟩
      · exact k _ _ _ (Ext.fresh (p := t) (o := .tup (vs' ++ ws')) l ht) ⟨t, _, rfl, SqT.of upd_same, (s1.le (le_upd (l.none ht)) _ _).append (s2.le (le_upd (l.none ht)) _ _)⟩
    · cases g
  · cases g
theorem od_sub : OpR X (binaryOp .Sub) (rD2 X.K X.mg dSub) := by
  refine op_of op_sub fun x y H Q ⟨F, d, e, z, l, g, rx, ry, k⟩ => ?_
  unfold dSub at g
  split at g
  · cases g
    exact ⟨_, _, rx.int, ry.int, k _ _ _ (Ext.refl l) rfl⟩
  · cases g
theorem cmul_of {a : Int} (h : a.natAbs < 2 ^ 64) : -(2 ^ 64) < a ∧ a < 2 ^ 64 := by omega
theorem od_mul : OpR X (binaryOp .Mult) (rD2 X.K X.mg dMul) := by
  refine op_of op_mul fun x y H Q ⟨F, d, e, z, l, g, rx, ry, k⟩ => ?_
  unfold dMul at g
  split at g
  · split at g
    · cases g
      rename_i hc
      exact ⟨_, _, rx.int, ry.int, hc.elim (fun h => .inl (cmul_of h)) (fun h => .inr (cmul_of h)), k _ _ _ (Ext.refl l) rfl⟩
    · cases g
  · cases g
theorem od_div : OpR X (binaryOp .FloorDiv) (rD2 X.K X.mg dDiv) := by
  refine op_of op_fdivN fun x y H Q ⟨F, d, e, z, l, g, rx, ry, k⟩ => ?_
  unfold dDiv at g
  split at g
  · split at g
    · cases g
      rename_i hc
      exact ⟨_, _, rx.int, ry.int, hc, k _ _ _ (Ext.refl l) rfl⟩
    · cases g
  · cases g
theorem od_mod : OpR X (binaryOp .Mod) (rD2 X.K X.mg dMod) := by
  refine op_of op_modN fun x y H Q ⟨F, d, e, z, l, g, rx, ry, k⟩ => ?_
  unfold dMod at g
  split at g
  · split at g
    · cases g
      rename_i hc
      exact ⟨_, _, rx.int, ry.int, hc, k _ _ _ (Ext.refl l) rfl⟩
    · cases g
  · cases g
theorem od_lt : OpR X (compareOp .Lt) (rD2 X.K X.mg dLt) := by
  refine op_of op_lt fun x y H Q ⟨F, d, e, z, l, g, rx, ry, k⟩ => ?_
  unfold dLt at g
  split at g
  · cases g
    exact ⟨_, _, rx.int, ry.int, k _ _ _ (Ext.refl l) rfl⟩
  · cases g
theorem od_le : OpR X (compareOp .LtE) (rD2 X.K X.mg dLe) := by
  refine op_of op_le fun x y H Q ⟨F, d, e, z, l, g, rx, ry, k⟩ => ?_
  unfold dLe at g
  split at g
  · cases g
    exact ⟨_, _, rx.int, ry.int, k _ _ _ (Ext.refl l) rfl⟩
  · cases g
theorem od_gt : OpR X (compareOp .Gt) (rD2 X.K X.mg dGt) := by
  refine op_of op_gt fun x y H Q ⟨F, d, e, z, l, g, rx, ry, k⟩ => ?_
  unfold dGt at g
  split at g
  · cases g
    exact ⟨_, _, rx.int, ry.int, k _ _ _ (Ext.refl l) rfl⟩
  · cases g
theorem od_ge : OpR X (compareOp .GtE) (rD2 X.K X.mg dGe) := by
  refine op_of op_ge fun x y H Q ⟨F, d, e, z, l, g, rx, ry, k⟩ => ?_
  unfold dGe at g
  split at g
  · cases g
    exact ⟨_, _, rx.int, ry.int, k _ _ _ (Ext.refl l) rfl⟩
  · cases g
theorem RepQ.nonIff {K : PySem.W.Frag} {mg : Str → Option Value} {mu : Addr → Prop} {F H : Hp} {d : D} {v : V} (r : RepQ K mg mu F H d v) : (v = .non) ↔ d = .non := by
  rcases r with r | ⟨a, vs, ds, m, rfl, rfl, h, r⟩ | ⟨a, o, ks, ws, m, rfl, rfl, h, r⟩
  · cases d with
    | non => exact ⟨fun _ => rfl, fun _ => r⟩
    | bl _ => cases r; exact ⟨fun z => (nomatch z), fun z => (nomatch z)⟩
    | int _ => cases r; exact ⟨fun z => (nomatch z), fun z => (nomatch z)⟩
    | str _ => cases r; exact ⟨fun z => (nomatch z), fun z => (nomatch z)⟩
    | ref _ => cases r; exact ⟨fun z => (nomatch z), fun z => (nomatch z)⟩
    | tup _ => obtain ⟨a, _, rfl, _⟩ := r; exact ⟨fun z => (nomatch z), fun z => (nomatch z)⟩
    | lst _ => obtain ⟨a, _, rfl, _⟩ := r; exact ⟨fun z => (nomatch z), fun z => (nomatch z)⟩
    | dic _ _ => obtain ⟨a, rfl, _⟩ := r; exact ⟨fun z => (nomatch z), fun z => (nomatch z)⟩
    | obj _ _ _ => obtain ⟨a, _, _, _, rfl, _⟩ := r; exact ⟨fun z => (nomatch z), fun z => (nomatch z)⟩
  · exact ⟨fun z => (nomatch z), fun z => (nomatch z)⟩
  · exact ⟨fun z => (nomatch z), fun z => (nomatch z)⟩
theorem od_is : OpR X (compareOp .Is) (rD2 X.K X.mg dIs) := by
  refine op_of (OpR.or op_isBl op_isN) fun x y H Q ⟨F, d, e, z, l, g, rx, ry, k⟩ => ?_
  unfold dIs at g
  split at g
  · cases g
    exact .inl ⟨_, _, rx.bl, ry.bl, k _ _ _ (Ext.refl l) rfl⟩
  · refine .inr ⟨ry.non, ?_⟩
    split at g
    · cases g
      rw [rx.non]
      exact k _ _ _ (Ext.refl l) rfl
    · cases g
      rename_i hn
      have : decide (x = V.non) = false := decide_eq_false fun q => hn (rx.nonIff.mp q)
      rw [this]
      exact k _ _ _ (Ext.refl l) rfl
  · cases g
theorem od_isN : OpR X (compareOp .IsNot) (rD2 X.K X.mg dIsN) := by
  refine op_of (OpR.or op_notBl op_notN) fun x y H Q ⟨F, d, e, z, l, g, rx, ry, k⟩ => ?_
  unfold dIsN at g
  split at g
  · cases g
    exact .inl ⟨_, _, rx.bl, ry.bl, k _ _ _ (Ext.refl l) rfl⟩
  · refine .inr ⟨ry.non, ?_⟩
    split at g
    · cases g
      rw [rx.non]
      exact k _ _ _ (Ext.refl l) rfl
    · cases g
      rename_i hn
      have : decide (x = V.non) = false := decide_eq_false fun q => hn (rx.nonIff.mp q)
      rw [this]
      exact k _ _ _ (Ext.refl l) rfl
  · cases g
theorem dEqB_cases {d e : D} {b : Bool} (h : dEqB d e = some b) {x y : V} {K : PySem.W.Frag} {mg : Str → Option Value} {F H : Hp} (l : Le F H) (rx : RepQ0 K mg F H d x) (ry : RepQ0 K mg F H e y) :
    (scal x y = true ∧ b = decide (x = y)) ∨ ∃ p q, Dp K H x p ∧ Dp K H y q ∧ SeqAt.shaped p = true ∧ SeqAt.shaped q = true ∧ b = PyData.eqv p q := by
  unfold dEqB at h
  split at h
  · cases h
    rw [rx.int, ry.int]
    exact .inl ⟨rfl, by simp⟩
  · cases h
    rw [rx.str, ry.str]
    exact .inl ⟨rfl, by simp⟩
  · cases h
    rw [rx.bl, ry.bl]
    exact .inl ⟨rfl, by simp⟩
  · split at h
    · rename_i p q e1 e2
      split at h
      · cases h
        rename_i hs
        rw [Bool.and_eq_true] at hs
        exact .inr ⟨p, q, rx.dp l e1, ry.dp l e2, hs.1, hs.2, rfl⟩
      · cases h
    · cases h
theorem od_eq (hu : X.A.units + 64 < cLine) : OpR X (compareOp .Eq) (rD2 X.K X.mg dEq) := by
  refine op_of (OpR.or op_eq (op_eqD hu)) fun x y H Q ⟨F, d, e, z, l, g, rx, ry, k⟩ => ?_
  obtain ⟨b, e1, rfl⟩ := Option.map_eq_some_iff.mp g
  rcases dEqB_cases e1 l rx ry with ⟨h1, rfl⟩ | ⟨p, q, h1, h2, h3, h4, rfl⟩
  · exact .inl ⟨h1, k _ _ _ (Ext.refl l) rfl⟩
  · exact .inr ⟨p, q, h1, h2, h3, h4, k _ _ _ (Ext.refl l) rfl⟩
theorem od_ne (hu : X.A.units + 64 < cLine) : OpR X (compareOp .NotEq) (rD2 X.K X.mg dNe) := by
  refine op_of (OpR.or op_ne (op_neD hu)) fun x y H Q ⟨F, d, e, z, l, g, rx, ry, k⟩ => ?_
  obtain ⟨b, e1, rfl⟩ := Option.map_eq_some_iff.mp g
  rcases dEqB_cases e1 l rx ry with ⟨h1, rfl⟩ | ⟨p, q, h1, h2, h3, h4, rfl⟩
  · exact .inl ⟨h1, k _ _ _ (Ext.refl l) rfl⟩
  · exact .inr ⟨p, q, h1, h2, h3, h4, k _ _ _ (Ext.refl l) rfl⟩
theorem toPys_ints {K : PySem.W.Frag} {mg : Str → Option Value} {F : Hp} {i : Int} : ∀ {es : List D} {vs : List V} {qs : List PyData}, Reps K mg F es vs → toPys es = some qs → qs.all (fun z => match z with | .int _ => true | _ => false) = true →
    vs.all flatV = true ∧ inV (.int i) vs = qs.any fun z => PyData.eqv z (.int i)
  | [], _, _, r, e, _ => by cases r; cases e; exact ⟨rfl, rfl⟩
  | d :: ds, _, qs, ⟨v, ws, rfl, r1, rs⟩, e, h => by
    unfold toPys at e
    obtain ⟨p, e1, e2⟩ := Option.bind_eq_some_iff.mp e
    obtain ⟨ps, e3, rfl⟩ := Option.map_eq_some_iff.mp e2
    rw [List.all_cons, Bool.and_eq_true] at h
    obtain ⟨i1, i2⟩ := toPys_ints (i := i) rs e3 h.2
    cases d with
    | int j =>
      cases r1
      cases e1
      refine ⟨by rw [List.all_cons, i1]; rfl, ?_⟩
      show (eqV (.int j) (.int i) || inV (.int i) ws) = _
      rw [i2]
      rfl
    | non => cases e1; cases h.1
    | bl _ => cases e1; cases h.1
    | str _ => cases e1; cases h.1
    | tup _ => unfold toPy at e1; obtain ⟨_, _, rfl⟩ := Option.map_eq_some_iff.mp e1; cases h.1
    | lst _ => unfold toPy at e1; obtain ⟨_, _, rfl⟩ := Option.map_eq_some_iff.mp e1; cases h.1
    | dic _ _ => cases e1
    | obj _ _ _ => cases e1
    | ref _ => cases e1
theorem toPys_strs {K : PySem.W.Frag} {mg : Str → Option Value} {F : Hp} {i : Str} : ∀ {es : List D} {vs : List V} {qs : List PyData}, Reps K mg F es vs → toPys es = some qs → qs.all (fun z => match z with | .str _ => true | _ => false) = true →
    vs.all flatV = true ∧ inV (.str i) vs = qs.any fun z => PyData.eqv z (.str i)
  | [], _, _, r, e, _ => by cases r; cases e; exact ⟨rfl, rfl⟩
  | d :: ds, _, qs, ⟨v, ws, rfl, r1, rs⟩, e, h => by
    unfold toPys at e
    obtain ⟨p, e1, e2⟩ := Option.bind_eq_some_iff.mp e
    obtain ⟨ps, e3, rfl⟩ := Option.map_eq_some_iff.mp e2
    rw [List.all_cons, Bool.and_eq_true] at h
    obtain ⟨i1, i2⟩ := toPys_strs (i := i) rs e3 h.2
    cases d with
    | str j =>
      cases r1
      cases e1
      refine ⟨by rw [List.all_cons, i1]; rfl, ?_⟩
      show (eqV (.str j) (.str i) || inV (.str i) ws) = _
      rw [i2]
      rfl
    | non => cases e1; cases h.1
    | bl _ => cases e1; cases h.1
    | int _ => cases e1; cases h.1
    | tup _ => unfold toPy at e1; obtain ⟨_, _, rfl⟩ := Option.map_eq_some_iff.mp e1; cases h.1
    | lst _ => unfold toPy at e1; obtain ⟨_, _, rfl⟩ := Option.map_eq_some_iff.mp e1; cases h.1
    | dic _ _ => cases e1
    | obj _ _ _ => cases e1
    | ref _ => cases e1
theorem dInB_cases {d e : D} {b : Bool} (h : dInB d e = some b) {x y : V} {K : PySem.W.Frag} {mg : Str → Option Value} {F H : Hp} (l : Le F H) (rx : RepQ0 K mg F H d x) (ry : RepQ0 K mg F H e y) :
    (∃ p xs, y = .ref p ∧ (SqL K H p xs ∨ SqT K H p xs) ∧ flatV x = true ∧ xs.all flatV = true ∧ b = inV x xs) ∨
      ∃ p qs, Dp K H x p ∧ Dp K H y (.list qs) ∧ SeqAt.shaped p = true ∧ SeqAt.shaped (.list qs) = true ∧ b = qs.any fun z => PyData.eqv z p := by
  unfold dInB at h
  split at h
  · rename_i es
    split at h
    · rename_i p qs e1 e2
      split at h
      · cases h
        rename_i hs
        rw [Bool.and_eq_true] at hs
        exact .inr ⟨p, qs, rx.dp l e1, ry.dp l (by unfold toPy; rw [e2]; rfl), hs.1, hs.2, rfl⟩
      · cases h
    · cases h
  · rename_i i es
    split at h
    · rename_i qs e2
      split at h
      · cases h
        rename_i hs
        obtain ⟨a, vs, rfl, h1, r1⟩ := ry.tup l
        obtain ⟨f, e⟩ := toPys_ints (i := i) r1 e2 hs
        rw [rx.int]
        exact .inl ⟨a, vs, rfl, .inr h1, rfl, f, e.symm⟩
      · cases h
    · cases h
  · rename_i i es
    split at h
    · rename_i qs e2
      split at h
      · cases h
        rename_i hs
        obtain ⟨a, vs, rfl, h1, r1⟩ := ry.tup l
        obtain ⟨f, e⟩ := toPys_strs (i := i) r1 e2 hs
        rw [rx.str]
        exact .inl ⟨a, vs, rfl, .inr h1, rfl, f, e.symm⟩
      · cases h
    · cases h
  · cases h
theorem od_in (hu : X.A.units + 65 < cLine) : OpR X (compareOp .In) (rD2 X.K X.mg dIn) := by
  refine op_of (OpR.or op_in_seq (op_inD hu)) fun x y H Q ⟨F, d, e, z, l, g, rx, ry, k⟩ => ?_
  obtain ⟨b, e1, rfl⟩ := Option.map_eq_some_iff.mp g
  rcases dInB_cases e1 l rx ry with ⟨p, xs, h1, h2, h3, h4, rfl⟩ | ⟨p, q, h1, h2, h3, h4, rfl⟩
  · exact .inl ⟨p, xs, h1, h2, h3, h4, k _ _ _ (Ext.refl l) rfl⟩
  · exact .inr ⟨p, q, h1, h2, h3, h4, k _ _ _ (Ext.refl l) rfl⟩
theorem od_notIn (hu : X.A.units + 65 < cLine) : OpR X (compareOp .NotIn) (rD2 X.K X.mg dNotIn) := by
  refine op_of (OpR.or op_notIn_seq (op_notInD hu)) fun x y H Q ⟨F, d, e, z, l, g, rx, ry, k⟩ => ?_
  obtain ⟨b, e1, rfl⟩ := Option.map_eq_some_iff.mp g
  rcases dInB_cases e1 l rx ry with ⟨p, xs, h1, h2, h3, h4, rfl⟩ | ⟨p, q, h1, h2, h3, h4, rfl⟩
  · exact .inl ⟨p, xs, h1, h2, h3, h4, k _ _ _ (Ext.refl l) rfl⟩
  · exact .inr ⟨p, q, h1, h2, h3, h4, k _ _ _ (Ext.refl l) rfl⟩
end
end DL

set_option Elab.async false
set_option linter.all false
set_option maxRecDepth 100000
set_option maxHeartbeats 4000000
namespace DL
open PySem PySem.Spec PyProof.Rows L2
/-! ### expressions by the slots -/
def eVar (i : Nat) : DEnv → Md D := fun δ st => match δ[i]? with
  | some (.val d) => .ok d st
  | _ => .stuck
def qVar (i : Nat) : DEnv → Md D := fun δ st => match δ[i]? with
  | some (.val d) => .ok d st
  | some (.own ds) => .ok (.lst ds) st
  | some (.owd ks ws) => .ok (.dic ks ws) st
  | _ => .stuck
def eC (d : D) : DEnv → Md D := fun _ => Md.pure d
def eBin (g : D → D → Option D) (fa fb : DEnv → Md D) : DEnv → Md D := fun δ => Md.bind (fa δ) fun x => Md.bind (fb δ) fun y => Md.ofO (g x y)
def eUn (g : D → Option D) (fa : DEnv → Md D) : DEnv → Md D := fun δ => Md.bind (fa δ) fun x => Md.ofO (g x)
def eCons (fa : DEnv → Md D) (fr : DEnv → Md (List D)) : DEnv → Md (List D) := fun δ => Md.bind (fa δ) fun x => Md.bind (fr δ) fun xs => Md.pure (x :: xs)
def eNil : DEnv → Md (List D) := fun _ => Md.pure []
def eTup (f : DEnv → Md (List D)) : DEnv → Md D := fun δ => Md.bind (f δ) fun ds => if ds.length ≤ lim then Md.pure (.tup ds) else Md.stuck
def eLst (f : DEnv → Md (List D)) : DEnv → Md (List D) := fun δ => Md.bind (f δ) fun ds => if ds.length ≤ lim then Md.pure ds else Md.stuck
def eL (f : DEnv → Md (List D)) : DEnv → Md D := fun δ => Md.bind (f δ) fun ds => Md.pure (.lst ds)
def eN (g : List D → Option D) (f : DEnv → Md (List D)) : DEnv → Md D := fun δ => Md.bind (f δ) fun ds => Md.ofO (g ds)
def eNN (g : List D → Option (List D)) (f : DEnv → Md (List D)) : DEnv → Md (List D) := fun δ => Md.bind (f δ) fun ds => Md.ofO (g ds)
def eBinN (g : D → D → Option (List D)) (fa fb : DEnv → Md D) : DEnv → Md (List D) := fun δ => Md.bind (fa δ) fun x => Md.bind (fb δ) fun y => Md.ofO (g x y)
/-- a truth value as a bool -/
def mB (f : DEnv → Md D) : DEnv → Md Bool := fun δ => Md.bind (f δ) fun d => match d with
  | .bl b => Md.pure b
  | _ => Md.stuck
def mD (f : DEnv → Md Bool) : DEnv → Md D := fun δ => Md.bind (f δ) fun b => Md.pure (.bl b)
def mAnd (f g : DEnv → Md Bool) : DEnv → Md Bool := fun δ => Md.bind (f δ) fun b => if b = true then g δ else Md.pure false
def mOr (f g : DEnv → Md Bool) : DEnv → Md Bool := fun δ => Md.bind (f δ) fun b => if b = true then Md.pure true else g δ
def mNot (f : DEnv → Md Bool) : DEnv → Md Bool := fun δ => Md.bind (f δ) fun b => Md.pure (!b)
def mIf (c : DEnv → Md Bool) (f g : DEnv → Md D) : DEnv → Md D := fun δ => Md.bind (c δ) fun b => if b = true then f δ else g δ
def eAndV (f g : DEnv → Md D) : DEnv → Md D := fun δ => Md.bind (f δ) fun d => match d with
  | .bl true => g δ
  | .bl false => Md.pure (.bl false)
  | _ => Md.stuck
def eOrV (f g : DEnv → Md D) : DEnv → Md D := fun δ => Md.bind (f δ) fun d => match d with
  | .bl false => g δ
  | .bl true => Md.pure (.bl true)
  | _ => Md.stuck
section
variable {X : Cx} {C : Ctx} {e a b : Expr} {fa fb : DEnv → Md D} {pos : Pos}
theorem PostG.ofO {K : PySem.W.Frag} {mg : Str → Option Value} {σ : L2.St} {δ : DEnv} {F H : Hp} {α : Type} {o : Option α} {st : Option Dr} {k : α → Option Dr → Hp → Hp → Prop} (p : PostG K mg C σ δ F H (Md.ofO o st) k) (w : Ws K mg C σ δ st F H) :
    ∃ z, o = some z ∧ ∀ F' H', Ext0 F H F' H' → k z st F' H' := by
  cases o with
  | none => exact p.elim
  | some z => exact ⟨z, rfl, fun F' H' x => p F' H' x.weak (w.step x)⟩
theorem PostG.map {K : PySem.W.Frag} {mg : Str → Option Value} {σ : L2.St} {δ : DEnv} {F H : Hp} {α β : Type} {r : Res α} {h : α → β} {k : β → Option Dr → Hp → Hp → Prop} (p : PostG K mg C σ δ F H (r.bind fun a => Md.pure (h a)) k) :
    PostG K mg C σ δ F H r fun a st1 _ _ => ∀ F' H', Ext C.mu F H F' H' → Ws K mg C σ δ st1 F' H' → k (h a) st1 F' H' := by
  cases r with
  | ok a st => exact fun _ _ _ _ => p
  | err c w st => exact p
  | stuck => exact p
theorem de_var (i : Nat) {x : Str} (hN : X.N[i]? = some x := by rfl) (hv : Vis X.env.scope x := by first | exact Or.inl rfl | exact Or.inr (Or.inl rfl) | exact Or.inr (Or.inr rfl)) (hd : (x == ("__debug__" : Str)) = false := by decide)
    (hcd : (x == ("__classdict__" : Str)) = false := by decide) : DE X C (.Name x pos) (eVar i) := by
  refine PE.imp (pv i hN hv hd hcd) fun σ H Q ⟨F, δ, st, w, p⟩ => ?_
  unfold eVar at p
  split at p
  · rename_i d e
    obtain ⟨v, e1, r⟩ := w.val i d e
    exact ⟨v, e1, p F H (Ext.refl w.sub) w v r⟩
  · exact p.elim
theorem dq_var (i : Nat) {x : Str} (hN : X.N[i]? = some x := by rfl) (hv : Vis X.env.scope x := by first | exact Or.inl rfl | exact Or.inr (Or.inl rfl) | exact Or.inr (Or.inr rfl)) (hd : (x == ("__debug__" : Str)) = false := by decide)
    (hcd : (x == ("__classdict__" : Str)) = false := by decide) : DQ X C (.Name x pos) (qVar i) := by
  refine PE.imp (pv i hN hv hd hcd) fun σ H Q ⟨F, δ, st, w, p⟩ => ?_
  unfold qVar at p
  split at p
  · rename_i d e
    obtain ⟨v, e1, r⟩ := w.val i d e
    exact ⟨v, e1, p F H (Ext.refl w.sub) w v (.inl r)⟩
  · rename_i ds e
    obtain ⟨a, vs, e1, h1, h2, h3, r⟩ := w.own i ds e
    exact ⟨_, e1, p F H (Ext.refl w.sub) w _ (.inr (.inl ⟨a, vs, ds, w.nomu h3, rfl, rfl, h1, r⟩))⟩
  · rename_i ks ws e
    obtain ⟨a, o, e1, h1, h2, h3, r⟩ := w.owd i ks ws e
    exact ⟨_, e1, p F H (Ext.refl w.sub) w _ (.inr (.inr ⟨a, o, ks, ws, w.nomu h3, rfl, rfl, h1, r⟩))⟩
  · exact p.elim
theorem de_int {i j} : DE X C (.Constant (.int i) j pos) (eC (.int i)) := PE.imp pe_int fun σ H Q ⟨F, δ, st, w, p⟩ => p F H (Ext.refl w.sub) w _ rfl
theorem de_bl {i j} : DE X C (.Constant (.bool i) j pos) (eC (.bl i)) := PE.imp pe_bl fun σ H Q ⟨F, δ, st, w, p⟩ => p F H (Ext.refl w.sub) w _ rfl
theorem de_non {j} : DE X C (.Constant .none j pos) (eC .non) := PE.imp pe_non fun σ H Q ⟨F, δ, st, w, p⟩ => p F H (Ext.refl w.sub) w _ rfl
theorem de_str {i j} : DE X C (.Constant (.str i) j pos) (eC (.str i)) := PE.imp pe_str fun σ H Q ⟨F, δ, st, w, p⟩ => p F H (Ext.refl w.sub) w _ rfl
/-- a constant of the module -/
def Glob (K : PySem.W.Frag) (mg : Str → Option Value) (x : Str) (d : D) : Prop := ∃ v u, mg x = some u ∧ RelV v u ∧ ∀ F, Rep K mg F d v
theorem de_glob {x : Str} {d : D} (g : Glob X.K X.mg x d) (hg : Gl X x := by rfl) (hd : (x == ("__debug__" : Str)) = false := by decide) : DE X C (.Name x pos) (eC d) := by
  obtain ⟨v, u, hm, r, rr⟩ := g
  exact PE.imp (pe_glob hg hm r hd) fun σ H Q ⟨F, δ, st, w, p⟩ => p F H (Ext.refl w.sub) w _ (rr F)
/-- two in a row -/
theorem two {X : Cx} {C : Ctx} {fa fb : DEnv → Md D} {K : PySem.W.Frag} {mg : Str → Option Value} {α : Type} {g : D → D → Option α} {σ : L2.St} {H : Hp} {F : Hp} {δ : DEnv} {st : Option Dr} {k : α → Option Dr → Hp → Hp → Prop}
    (w : Ws K mg C σ δ st F H) (p : PostG K mg C σ δ F H (Md.bind (fa δ) (fun x => Md.bind (fb δ) fun y => Md.ofO (g x y)) st) k) {R : V → V → Hp → Prop}
    (h : ∀ x y d e z F2 H2 st2, Ext C.mu F H F2 H2 → Ws K mg C σ δ st2 F2 H2 → g d e = some z → RepQ K mg C.mu F2 H2 d x → RepQ K mg C.mu F2 H2 e y → (∀ F' H', Ext0 F2 H2 F' H' → k z st2 F' H') → R x y H2) :
    tQ K mg C fa σ H fun x H1 => tQ K mg C fb σ H1 fun y H2 => R x y H2 := by
  refine ⟨F, δ, st, w, (PostG.bind p).imp fun d st1 F1 H1 x1 w1 p1 x rx => ?_⟩
  refine ⟨F1, δ, st1, w1, (PostG.bind p1).imp fun e st2 F2 H2 x2 w2 p2 y ry => ?_⟩
  obtain ⟨z, g1, k1⟩ := PostG.ofO p2 w2
  exact h x y d e z F2 H2 st2 (x1.trans x2) w2 g1 (rx.step x2) ry k1
theorem de_op {op : Operator} {g : D → D → Option D} (ho : OpR X (binaryOp op) (rD2 X.K X.mg g)) (ha : DQ X C a fa) (hb : DQ X C b fb) : DE X C (.BinOp a op b pos) (eBin g fa fb) := by
  refine PE.imp (pe_op ho ha hb) fun σ H Q ⟨F, δ, st, w, p⟩ => ?_
  exact two (X := X) (g := g) w p fun x y d e z F2 H2 st2 x2 w2 g1 rx ry k => ⟨F2, d, e, z, w2.sub, g1, rx.z, ry.z, fun v F' H' xx r => k F' H' xx v r⟩
theorem de_cmp {op : CmpOp} {g : D → D → Option D} (ho : OpR X (compareOp op) (rD2 X.K X.mg g)) (ha : DQ X C a fa) (hb : DQ X C b fb) (hm : behindInMarks op b = false := by first | exact nomark _ | rfl) : DE X C (.Compare a [op] [b] pos) (eBin g fa fb) := by
  refine PE.imp (pe_cmpR ho ha hb hm) fun σ H Q ⟨F, δ, st, w, p⟩ => ?_
  exact two (X := X) (g := g) w p fun x y d e z F2 H2 st2 x2 w2 g1 rx ry k => ⟨F2, d, e, z, w2.sub, g1, rx.z, ry.z, fun v F' H' xx r => k F' H' xx v r⟩
theorem dt_cmp {op : CmpOp} {g : D → D → Option D} (ho : OpR X (compareOp op) (rD2 X.K X.mg g)) (ha : DQ X C a fa) (hb : DQ X C b fb) (hm : behindInMarks op b = false := by first | exact nomark _ | rfl) : DT X C (.Compare a [op] [b] pos) (mB (eBin g fa fb)) := by
  refine PT.imp (pt_cmpR ho ha hb hm) fun σ H Q ⟨F, δ, st, w, p⟩ => ?_
  have p' := PostG.bind p
  exact two (X := X) (g := g) w p' fun x y d e z F2 H2 st2 x2 w2 g1 rx ry k => ⟨F2, d, e, z, w2.sub, g1, rx.z, ry.z, fun v F' H' xx r => by
    have q := k F' H' xx
    cases z with
    | bl c => exact ⟨c, r, PostG.pure q (w2.step xx)⟩
    | non => exact q.elim
    | int _ => exact q.elim
    | str _ => exact q.elim
    | tup _ => exact q.elim
    | lst _ => exact q.elim
    | dic _ _ => exact q.elim
    | obj _ _ _ => exact q.elim
    | ref _ => exact q.elim⟩
/-- a < b < c -/
def eChain (g g' : D → D → Option D) (fa fb fc : DEnv → Md D) : DEnv → Md D := fun δ => Md.bind (fa δ) fun x => Md.bind (fb δ) fun y => Md.bind (Md.ofO (g x y)) fun z => match z with
  | .bl true => Md.bind (fc δ) fun w => Md.ofO (g' y w)
  | .bl false => Md.pure (.bl false)
  | _ => Md.stuck
theorem chain_red {X : Cx} {C : Ctx} {K : PySem.W.Frag} {mg : Str → Option Value} {fa fb fc : DEnv → Md D} {g g' : D → D → Option D} {σ : L2.St} {H : Hp} {F : Hp} {δ : DEnv} {st : Option Dr} {k : D → Option Dr → Hp → Hp → Prop} (w : Ws K mg C σ δ st F H)
    (p : PostG K mg C σ δ F H (eChain g g' fa fb fc δ st) k) {Q : VK} (hk : ∀ d st2 F2 H2 v, k d st2 F2 H2 → Ws K mg C σ δ st2 F2 H2 → Rep K mg F2 d v → Q v H2) : tChain (rD2 K mg g) (rD2 K mg g') (tQ K mg C fa) (tQ K mg C fb) (tQ K mg C fc) σ H Q := by
  refine ⟨F, δ, st, w, (PostG.bind p).imp fun d st1 F1 H1 x1 w1 p1 x rx => ?_⟩
  refine ⟨F1, δ, st1, w1, (PostG.bind p1).imp fun e st2 F2 H2 x2 w2 p2 y ry => ?_⟩
  obtain ⟨z, g1, k1⟩ := PostG.ofO (PostG.bind p2) w2
  refine ⟨F2, d, e, z, w2.sub, g1, (rx.step x2).z, ry.z, fun v F' H' xx r => ?_⟩
  have q := k1 F' H' xx
  cases z with
  | bl c =>
    refine ⟨c, r, ?_⟩
    cases c with
    | true =>
      rw [if_pos rfl]
      refine ⟨F', δ, st2, w2.step xx, (PostG.bind q).imp fun e3 st3 F3 H3 x3 w3 p3 y3 ry3 => ?_⟩
      obtain ⟨z3, g3, k3⟩ := PostG.ofO p3 w3
      exact ⟨F3, e, e3, z3, w3.sub, g3, ((ry.step xx.weak).step x3).z, ry3.z, fun v4 F4 H4 x4 r4 => hk _ _ _ _ v4 (k3 F4 H4 x4) (w3.step x4) r4⟩
    | false =>
      rw [if_neg Bool.false_ne_true]
      exact hk _ _ _ _ _ (PostG.pure q (w2.step xx)) (w2.step xx) rfl
  | non => exact q.elim
  | int _ => exact q.elim
  | str _ => exact q.elim
  | tup _ => exact q.elim
  | lst _ => exact q.elim
  | dic _ _ => exact q.elim
  | obj _ _ _ => exact q.elim
  | ref _ => exact q.elim
theorem de_chain {op op' : CmpOp} {c : Expr} {fc : DEnv → Md D} {g g' : D → D → Option D} (ho : OpR X (compareOp op) (rD2 X.K X.mg g)) (ho' : OpR X (compareOp op') (rD2 X.K X.mg g')) (ha : DQ X C a fa) (hb : DQ X C b fb) (hc : DQ X C c fc) (hm : lastMarks [op, op'] [b, c] = false := by rfl) :
    DE X C (.Compare a [op, op'] [b, c] pos) (eChain g g' fa fb fc) :=
  PE.imp (pe_chain ho ho' ha hb hc hm) fun σ H Q ⟨F, δ, st, w, p⟩ => chain_red (X := X) w p fun d st2 F2 H2 v k _ r => k v r
theorem dt_chain {op op' : CmpOp} {c : Expr} {fc : DEnv → Md D} {g g' : D → D → Option D} (ho : OpR X (compareOp op) (rD2 X.K X.mg g)) (ho' : OpR X (compareOp op') (rD2 X.K X.mg g')) (ha : DQ X C a fa) (hb : DQ X C b fb) (hc : DQ X C c fc) (hm : lastMarks [op, op'] [b, c] = false := by rfl) :
    DT X C (.Compare a [op, op'] [b, c] pos) (mB (eChain g g' fa fb fc)) :=
  PT.imp (pt_chain ho ho' ha hb hc hm) fun σ H Q ⟨F, δ, st, w, p⟩ => chain_red (X := X) w (PostG.bind p) fun d st2 F2 H2 v q w2 r => by
    cases d with
    | bl c => exact ⟨c, r, PostG.pure q w2⟩
    | non => exact q.elim
    | int _ => exact q.elim
    | str _ => exact q.elim
    | tup _ => exact q.elim
    | lst _ => exact q.elim
    | dic _ _ => exact q.elim
    | obj _ _ _ => exact q.elim
    | ref _ => exact q.elim
theorem de_neg (ha : DE X C a fa) : DE X C (.UnaryOp .USub a pos) (eUn (fun d => match d with | .int i => some (.int (-i)) | _ => none) fa) := by
  refine PE.imp (pe_un un_neg ha) fun σ H Q ⟨F, δ, st, w, p⟩ => ?_
  refine ⟨F, δ, st, w, (PostG.bind p).imp fun d st1 F1 H1 x1 w1 p1 x rx => ?_⟩
  obtain ⟨z, g1, k1⟩ := PostG.ofO p1 w1
  cases d with
  | int i => cases g1; exact ⟨i, rx, k1 _ _ (Ext.refl w1.sub) _ rfl⟩
  | _ => cases g1
/-! ### tests -/
theorem dt_val (h : DE X C e fa) (he : ∀ whole, isTrue e X.env whole = (do let v ← whole; standAt e.pos; holding [v] (truthy v)) := by intro _; rfl) : DT X C e (mB fa) := by
  refine PT.imp (pt_val h he) fun σ H Q ⟨F, δ, st, w, p⟩ => ?_
  refine ⟨F, δ, st, w, (PostG.bind p).imp fun d st1 F1 H1 x1 w1 q v r => ?_⟩
  cases d with
  | bl c => exact ⟨c, r, PostG.pure q w1⟩
  | non => exact q.elim
  | int _ => exact q.elim
  | str _ => exact q.elim
  | tup _ => exact q.elim
  | lst _ => exact q.elim
  | dic _ _ => exact q.elim
  | obj _ _ _ => exact q.elim
  | ref _ => exact q.elim
abbrev DW (X : Cx) (C : Ctx) (e : Expr) (f : DEnv → Md Bool) : Prop := PW X e (tT X.K X.mg C f)
theorem PW.imp {X : Cx} {e : Expr} {t t' : TT} (h : PW X e t) (i : ∀ σ H Q, t' σ H Q → t σ H Q) : PW X e t' := ⟨fun wh pins s σ H Q I q => h.run wh pins s σ H Q I (i _ _ _ q)⟩
variable {rest : List Expr} {f g : DEnv → Md Bool}
theorem dw_and1 (ha : DT X C a f) : DW X C (.BoolOp .And [a] pos) f := pw_and1 ha
theorem dw_or1 (ha : DT X C a f) : DW X C (.BoolOp .Or [a] pos) f := pw_or1 ha
theorem dw_and (ha : DT X C a f) (hb : DW X C (.BoolOp .And (b :: rest) pos) g) : DW X C (.BoolOp .And (a :: b :: rest) pos) (mAnd f g) := by
  refine PW.imp (pw_and ha hb) fun σ H Q ⟨F, δ, st, w, p⟩ => ?_
  refine ⟨F, δ, st, w, (PostG.bind p).imp fun c st1 F1 H1 x1 w1 q => ?_⟩
  cases c with
  | true => rw [if_pos rfl] at q ⊢; exact ⟨F1, δ, st1, w1, q⟩
  | false => rw [if_neg Bool.false_ne_true] at q ⊢; exact PostG.pure q w1
theorem dw_or (ha : DT X C a f) (hb : DW X C (.BoolOp .Or (b :: rest) pos) g) : DW X C (.BoolOp .Or (a :: b :: rest) pos) (mOr f g) := by
  refine PW.imp (pw_or ha hb) fun σ H Q ⟨F, δ, st, w, p⟩ => ?_
  refine ⟨F, δ, st, w, (PostG.bind p).imp fun c st1 F1 H1 x1 w1 q => ?_⟩
  cases c with
  | false => rw [if_neg Bool.false_ne_true] at q ⊢; exact ⟨F1, δ, st1, w1, q⟩
  | true => rw [if_pos rfl] at q ⊢; exact PostG.pure q w1
theorem dt_not (ha : DT X C a f) : DT X C (.UnaryOp .Not a pos) (mNot f) := by
  refine PT.imp (pt_not ha) fun σ H Q ⟨F, δ, st, w, p⟩ => ?_
  exact ⟨F, δ, st, w, (PostG.bind p).imp fun c st1 F1 H1 x1 w1 q => PostG.pure q w1⟩
theorem de_one {op} (h : DE X C a fa) : DE X C (.BoolOp op [a] pos) fa := pe_one h
theorem de_and (ha : DE X C a fa) (hb : DE X C (.BoolOp .And (b :: rest) pos) fb) : DE X C (.BoolOp .And (a :: b :: rest) pos) (eAndV fa fb) := by
  refine PE.imp (pe_and ha hb) fun σ H Q ⟨F, δ, st, w, p⟩ => ?_
  refine ⟨F, δ, st, w, (PostG.bind p).imp fun d st1 F1 H1 x1 w1 q v r => ?_⟩
  cases d with
  | bl c =>
    refine ⟨c, r, ?_⟩
    cases c with
    | true => rw [if_pos rfl]; exact ⟨F1, δ, st1, w1, q⟩
    | false => rw [if_neg Bool.false_ne_true]; exact PostG.pure q w1 _ rfl
  | non => exact q.elim
  | int _ => exact q.elim
  | str _ => exact q.elim
  | tup _ => exact q.elim
  | lst _ => exact q.elim
  | dic _ _ => exact q.elim
  | obj _ _ _ => exact q.elim
  | ref _ => exact q.elim
theorem de_or (ha : DE X C a fa) (hb : DE X C (.BoolOp .Or (b :: rest) pos) fb) : DE X C (.BoolOp .Or (a :: b :: rest) pos) (eOrV fa fb) := by
  refine PE.imp (pe_or ha hb) fun σ H Q ⟨F, δ, st, w, p⟩ => ?_
  refine ⟨F, δ, st, w, (PostG.bind p).imp fun d st1 F1 H1 x1 w1 q v r => ?_⟩
  cases d with
  | bl c =>
    refine ⟨c, r, ?_⟩
    cases c with
    | false => rw [if_neg Bool.false_ne_true]; exact ⟨F1, δ, st1, w1, q⟩
    | true => rw [if_pos rfl]; exact PostG.pure q w1 _ rfl
  | non => exact q.elim
  | int _ => exact q.elim
  | str _ => exact q.elim
  | tup _ => exact q.elim
  | lst _ => exact q.elim
  | dic _ _ => exact q.elim
  | obj _ _ _ => exact q.elim
  | ref _ => exact q.elim
def eNot (fa : DEnv → Md D) : DEnv → Md D := fun δ => Md.bind (fa δ) fun d => match d with
  | .bl b => Md.pure (.bl (!b))
  | _ => Md.stuck
theorem de_not (ha : DE X C a fa) : DE X C (.UnaryOp .Not a pos) (eNot fa) := by
  refine PE.imp (pe_not ha) fun σ H Q ⟨F, δ, st, w, p⟩ => ?_
  refine ⟨F, δ, st, w, (PostG.bind p).imp fun d st1 F1 H1 x1 w1 q v r => ?_⟩
  cases d with
  | bl c => exact ⟨c, r, PostG.pure q w1 _ rfl⟩
  | non => exact q.elim
  | int _ => exact q.elim
  | str _ => exact q.elim
  | tup _ => exact q.elim
  | lst _ => exact q.elim
  | dic _ _ => exact q.elim
  | obj _ _ _ => exact q.elim
  | ref _ => exact q.elim
theorem de_if {c : Expr} (hc : DT X C c f) (ha : DE X C a fa) (hb : DE X C b fb) : DE X C (.IfExp c a b pos) (mIf f fa fb) := by
  refine PE.imp (pe_ifExp hc ha hb) fun σ H Q ⟨F, δ, st, w, p⟩ => ?_
  refine ⟨F, δ, st, w, (PostG.bind p).imp fun c st1 F1 H1 x1 w1 q => ?_⟩
  cases c with
  | true => rw [if_pos rfl] at q ⊢; exact ⟨F1, δ, st1, w1, q⟩
  | false => rw [if_neg Bool.false_ne_true] at q ⊢; exact ⟨F1, δ, st1, w1, q⟩
/-! ### argument lists, displays -/
theorem da_nil : DAr X C [] eNil := PA.imp pa_nil fun σ H Q ⟨F, δ, st, w, p⟩ => PostG.pure p w _ rfl
theorem da_cons {fr : DEnv → Md (List D)} (ha : DE X C a fa) (hr : DAr X C rest fr) (hs : starEach (a :: rest) X.env = (false, eval a X.env) :: starEach rest X.env := by rfl) : DAr X C (a :: rest) (eCons fa fr) := by
  refine PA.imp (pa_cons ha hr hs) fun σ H Q ⟨F, δ, st, w, p⟩ => ?_
  refine ⟨F, δ, st, w, (PostG.bind p).imp fun d st1 F1 H1 x1 w1 p1 x rx => ?_⟩
  refine ⟨F1, δ, st1, w1, (PostG.bind p1).imp fun es st2 F2 H2 x2 w2 p2 ys ry => ?_⟩
  exact PostG.pure p2 w2 _ ⟨x, ys, rfl, Rep.le x2.le _ _ rx, ry⟩
def tAq (K : PySem.W.Frag) (mg : Str → Option Value) (C : Ctx) (f : DEnv → Md (List D)) : TA := fun σ H Q => ∃ F δ st, Ws K mg C σ δ st F H ∧ PostG K mg C σ δ F H (f δ st) fun ds _ F' H' => ∀ vs, RepQs K mg C.mu F' H' ds vs → Q vs H'
abbrev DAq (X : Cx) (C : Ctx) (es : List Expr) (f : DEnv → Md (List D)) : Prop := PA X es (tAq X.K X.mg C f)
theorem dq_nil : DAq X C [] eNil := PA.imp pa_nil fun σ H Q ⟨F, δ, st, w, p⟩ => PostG.pure p w _ rfl
theorem dq_cons {fr : DEnv → Md (List D)} (ha : DQ X C a fa) (hr : DAq X C rest fr) (hs : starEach (a :: rest) X.env = (false, eval a X.env) :: starEach rest X.env := by rfl) : DAq X C (a :: rest) (eCons fa fr) := by
  refine PA.imp (pa_cons ha hr hs) fun σ H Q ⟨F, δ, st, w, p⟩ => ?_
  refine ⟨F, δ, st, w, (PostG.bind p).imp fun d st1 F1 H1 x1 w1 p1 x rx => ?_⟩
  refine ⟨F1, δ, st1, w1, (PostG.bind p1).imp fun es st2 F2 H2 x2 w2 p2 ys ry => ?_⟩
  exact PostG.pure p2 w2 _ ⟨x, ys, rfl, rx.step x2, ry⟩
variable {es : List Expr} {fs : DEnv → Md (List D)}
theorem de_tup {k : Nat} (h : DAr X C es fs) : DE X C (.Tuple es k pos) (eTup fs) := by
  refine PE.imp (pe_tup h) fun σ H Q ⟨F, δ, st, w, p⟩ => ?_
  refine ⟨F, δ, st, w, (PostG.bind p).imp fun ds st1 F1 H1 x1 w1 p1 vs r => ?_⟩
  split at p1
  · rename_i hz
    refine ⟨by rw [r.length]; exact Nat.le_trans hz lim_le, fun q hq => ?_⟩
    have xx := Ext.fresh (mu := fun _ => False) (o := .tup vs) w1.sub hq
    exact p1 _ _ xx.weak (w1.step xx) _ ⟨q, vs, rfl, SqT.of upd_same, r.le xx.le _ _⟩
  · exact p1.elim
theorem dn_lst (h : DAr X C es fs) : DN X C (.List es pos) (eLst fs) := by
  refine PE.imp (pe_lst h) fun σ H Q ⟨F, δ, st, w, p⟩ => ?_
  refine ⟨F, δ, st, w, (PostG.bind p).imp fun ds st1 F1 H1 x1 w1 p1 vs r => ?_⟩
  split at p1
  · rename_i hz
    refine ⟨by rw [r.length]; exact Nat.le_trans hz lim_le, fun q hq => ?_⟩
    have xx := Ext.tmp (mu := fun _ => False) (o := .lst vs) w1.sub hq
    have hH : H q = none := by
      cases e : H q with
      | none => rfl
      | some o => exact absurd hq (x1.there q (by rw [e]; simp))
    exact p1 _ _ xx.weak (w1.step xx) _ vs hH upd_same (w1.sub.none hq) r
  · exact p1.elim
/-- a new list, frozen at once -/
theorem DN.fz {ex : Expr} (h : DN X C ex fs) : DE X C ex (eL fs) := by
  refine PE.imp h fun σ H Q ⟨F, δ, st, w, p⟩ => ?_
  refine ⟨F, δ, st, w, (PostG.map p).imp fun ds st1 F1 H1 x1 w1 p1 a vs n h1 n1 r => ?_⟩
  have x2 : Ext C.mu F H (upd F1 a (.lst vs)) H1 := x1.freeze n h1 n1
  have w2 : Ws X.K X.mg C σ δ st1 (upd F1 a (.lst vs)) H1 := by
    refine w.step' x2 ?_
    have d := w1.dr
    cases st1 with
    | none => trivial
    | some z =>
      obtain ⟨m, as, e1, e2, e3⟩ := d
      refine ⟨m, as, e1, ?_, le_upd n1 _ _ e3.1, e3.2⟩
      have ne : C.ad ≠ a := fun q => by
        have h0 := (w.muv _ m).2
        have h1 := w.ext.there _ h0
        rw [q] at h1
        exact h1 n
      rw [upd_ne ne]; exact e2
  exact p1 _ _ x2 w2 _ ⟨a, vs, rfl, upd_same, r.le (le_upd n1) _ _⟩
end
end DL

set_option Elab.async false
set_option linter.all false
set_option maxRecDepth 100000
set_option maxHeartbeats 4000000
namespace DL
open PySem PySem.Spec PyProof.Rows L2
/-! ### subscripts -/
def dIx : D → D → Option D
  | .tup ds, .int i => atI ds i
  | .lst ds, .int i => atI ds i
  | _, _ => none
theorem Reps.at {K : PySem.W.Frag} {mg : Str → Option Value} {F : Hp} {ds : List D} {vs : List V} {i : Int} {d : D} (r : Reps K mg F ds vs) (h : atI ds i = some d) : ∃ v, atI vs i = some v ∧ Rep K mg F d v := by
  unfold atI at h ⊢
  rw [← r.length] at h
  cases e : ixN vs.length i with
  | none => rw [e] at h; cases h
  | some j =>
    rw [e] at h
    exact r.get' (show ds[j]? = some d from h)
section
variable {X : Cx} {C : Ctx} {a b : Expr} {fa fb : DEnv → Md D} {pos : Pos}
theorem ixr : IxR X (rD2 X.K X.mg dIx) := by
  intro value slice pins s σ H x y v u Q I rx ry ⟨F, d, e, z, l, g, qx, qy, k⟩ hs
  unfold dIx at g
  split at g
  · obtain ⟨p, vs, rfl, h, r⟩ := qx.tup l
    obtain ⟨w, hw, rw'⟩ := r.at g
    exact ix_tup value slice pins s σ H _ _ v u Q I rx ry ⟨p, vs, _, w, rfl, qy.int, h, hw, k _ _ _ (Ext.refl l) rw'⟩ hs
  · obtain ⟨p, vs, rfl, h, r⟩ := qx.lst l
    obtain ⟨w, hw, rw'⟩ := r.at g
    exact ix_list value slice pins s σ H _ _ v u Q I rx ry ⟨p, vs, _, w, rfl, qy.int, SqL.of h, hw, k _ _ _ (Ext.refl l) rw'⟩ hs
  · cases g
theorem de_ix (ha : DQ X C a fa) (hb : DQ X C b fb) (hs : PlainIx b) : DE X C (.Subscript a b pos) (eBin dIx fa fb) := by
  refine PE.imp (pe_ix ixr ha hb hs) fun σ H Q ⟨F, δ, st, w, p⟩ => ?_
  exact two (X := X) (g := dIx) w p fun x y d e z F2 H2 st2 x2 w2 g1 rx ry k => ⟨F2, d, e, z, w2.sub, g1, rx.z, ry.z, fun v F' H' xx r => k F' H' xx v r⟩
/-! ### slices -/
def cutD (xs : List D) (lo hi : Option Int) : List D := (xs.drop (HT.sIx xs.length 0 lo)).take (HT.sIx xs.length xs.length hi - HT.sIx xs.length 0 lo)
def dSl (d : D) (lo hi : Option Int) : Option D := match d with
  | .tup ds => some (.tup (cutD ds lo hi))
  | .lst ds => some (.lst (cutD ds lo hi))
  | _ => none
def rDs (K : PySem.W.Frag) (mg : Str → Option Value) : V → Option Int → Option Int → Hp → VK → Prop := fun x lo hi H Q => ∃ F d z, Le F H ∧ dSl d lo hi = some z ∧ RepQ0 K mg F H d x ∧ ∀ v F' H', Ext0 F H F' H' → Rep K mg F' z v → Q v H'
theorem Reps.cut {K : PySem.W.Frag} {mg : Str → Option Value} {F : Hp} {ds : List D} {vs : List V} (r : Reps K mg F ds vs) (lo hi : Option Int) : Reps K mg F (cutD ds lo hi) (cutV vs lo hi) := by
  unfold cutD cutV
  rw [r.length]
  exact (r.drop _).take _
theorem slr : SlR X (rDs X.K X.mg) := by
  intro pins s σ H x v vl vu lo hi sl Q I rx hs pl pu ⟨F, d, z, l, g, qx, k⟩
  unfold dSl at g
  split at g
  · cases g
    rename_i ds
    obtain ⟨p, vs, rfl, h, r⟩ : Rep X.K X.mg F (.tup ds) x := by
      rcases qx with r | ⟨_, _, _, _, z, _⟩ | ⟨_, _, _, _, _, z, _⟩
      · exact r
      · cases z
      · cases z
    refine sl_tupA pins s σ H _ v vl vu lo hi sl Q I rx hs pl pu ⟨p, vs, rfl, sqT_le l h, fun ⟨h1, h2⟩ => ?_, fun _ q hq => ?_⟩
    · have e : cutV vs lo hi = vs := by unfold cutV; rw [h1, h2]; simp
      have rc := r.cut lo hi
      rw [e] at rc
      exact k _ _ _ (Ext.refl l) ⟨p, vs, rfl, h, rc⟩
    · have xx := Ext.fresh (mu := fun _ => False) (o := .tup (cutV vs lo hi)) l hq
      exact k _ _ _ xx ⟨q, _, rfl, SqT.of upd_same, (r.cut lo hi).le xx.le _ _⟩
  · cases g
    obtain ⟨p, vs, rfl, h, r⟩ := qx.lst l
    refine sl_list pins s σ H _ v vl vu lo hi sl Q I rx hs pl pu ⟨p, vs, rfl, SqL.of h, fun q hq => ?_⟩
    have xx := Ext.fresh (mu := fun _ => False) (o := .lst (cutV vs lo hi)) l hq
    exact k _ _ _ xx ⟨q, _, rfl, upd_same, (r.cut lo hi).le xx.le _ _⟩
  · cases g
def tO (K : PySem.W.Frag) (mg : Str → Option Value) (C : Ctx) (f : DEnv → Md (Option Int)) : TO := fun σ H Q => ∃ F δ st, Ws K mg C σ δ st F H ∧ PostG K mg C σ δ F H (f δ st) fun o _ _ H' => Q o H'
abbrev DO (X : Cx) (C : Ctx) (e : Option Expr) (f : DEnv → Md (Option Int)) : Prop := PO X e (tO X.K X.mg C f)
theorem PO.imp {X : Cx} {e : Option Expr} {t t' : TO} (h : PO X e t) (i : ∀ σ H Q, t' σ H Q → t σ H Q) : PO X e t' := ⟨fun pins s σ H Q I q => h.run pins s σ H Q I (i _ _ _ q)⟩
def oNone : DEnv → Md (Option Int) := fun _ => Md.pure none
def oSome (f : DEnv → Md D) : DEnv → Md (Option Int) := fun δ => Md.bind (f δ) fun d => match d with
  | .int i => Md.pure (some i)
  | _ => Md.stuck
theorem do_none : DO X C none oNone := PO.imp po_none fun σ H Q ⟨F, δ, st, w, p⟩ => PostG.pure p w
theorem do_some (h : DE X C a fa) : DO X C (some a) (oSome fa) := by
  refine PO.imp (po_some h) fun σ H Q ⟨F, δ, st, w, p⟩ => ?_
  refine ⟨F, δ, st, w, (PostG.bind p).imp fun d st1 F1 H1 x1 w1 q v r => ?_⟩
  cases d with
  | int i => exact ⟨i, r, PostG.pure q w1⟩
  | non => exact q.elim
  | bl _ => exact q.elim
  | str _ => exact q.elim
  | tup _ => exact q.elim
  | lst _ => exact q.elim
  | dic _ _ => exact q.elim
  | obj _ _ _ => exact q.elim
  | ref _ => exact q.elim
def eSl (f : DEnv → Md D) (lo hi : DEnv → Md (Option Int)) : DEnv → Md D := fun δ => Md.bind (f δ) fun d => Md.bind (lo δ) fun l => Md.bind (hi δ) fun h => Md.ofO (dSl d l h)
theorem de_sl {lo hi : Option Expr} {p2 : Pos} {fl fh : DEnv → Md (Option Int)} (ha : DQ X C a fa) (hl : DO X C lo fl) (hh : DO X C hi fh) : DE X C (.Subscript a (.Slice lo hi none p2) pos) (eSl fa fl fh) := by
  refine PE.imp (pe_slice slr ha hl hh) fun σ H Q ⟨F, δ, st, w, p⟩ => ?_
  refine ⟨F, δ, st, w, (PostG.bind p).imp fun d st1 F1 H1 x1 w1 p1 x rx => ?_⟩
  refine ⟨F1, δ, st1, w1, (PostG.bind p1).imp fun l st2 F2 H2 x2 w2 p2 => ?_⟩
  refine ⟨F2, δ, st2, w2, (PostG.bind p2).imp fun h st3 F3 H3 x3 w3 p3 => ?_⟩
  obtain ⟨z, g1, k1⟩ := PostG.ofO p3 w3
  exact ⟨F3, d, z, w3.sub, g1, ((rx.step x2).step x3).z, fun v F' H' xx r => k1 F' H' xx v r⟩
/-! ### built-ins -/
variable {es : List Expr} {fs : DEnv → Md (List D)}
theorem de_bi {id : String} {x : Str} {g : List D → Option D} {p : Pos} (hc : CallR X (.builtin id) (rDn X.K X.mg g)) (hm : X.mg x = none) (ha : DAq X C (a :: es) fs) (hg : Gl X x := by rfl) (hv : bootBuiltins x = some (.builtin id) := by decide +kernel)
    (hn : x ≠ "__name__" := by decide) (hdb : (x == ("__debug__" : Str)) = false := by decide) (he : starEach (a :: es) X.env = (false, eval a X.env) :: starEach es X.env := by rfl) (hpl : (backTo pos (starEach es X.env)).any (·.1) = false := by rfl) :
    DE X C (.Call (.Name x p) (a :: es) [] pos) (eN g fs) := by
  refine PE.imp (pe_callB hc hg hm hv ha hn hdb he hpl) fun σ H Q ⟨F, δ, st, w, p⟩ => ?_
  refine ⟨F, δ, st, w, (PostG.bind p).imp fun ds st1 F1 H1 x1 w1 p1 vs r => ?_⟩
  obtain ⟨z, g1, k1⟩ := PostG.ofO p1 w1
  exact ⟨F1, ds, z, w1.sub, g1, r.z, fun v F' H' xx r => k1 F' H' xx v r⟩
theorem de_ty {T : String} {x : Str} {g : List D → Option D} {p : Pos} (hc : CallR X (.type T) (rDn X.K X.mg g)) (hm : X.mg x = none) (ha : DAq X C (a :: es) fs) (hg : Gl X x := by rfl) (hv : bootBuiltins x = some (.type T) := by decide +kernel)
    (hn : x ≠ "__name__" := by decide) (hdb : (x == ("__debug__" : Str)) = false := by decide) (he : starEach (a :: es) X.env = (false, eval a X.env) :: starEach es X.env := by rfl) (hpl : (backTo pos (starEach es X.env)).any (·.1) = false := by rfl) :
    DE X C (.Call (.Name x p) (a :: es) [] pos) (eN g fs) := by
  refine PE.imp (pe_callTy hc hg hm hv ha hn hdb he hpl) fun σ H Q ⟨F, δ, st, w, p⟩ => ?_
  refine ⟨F, δ, st, w, (PostG.bind p).imp fun ds st1 F1 H1 x1 w1 p1 vs r => ?_⟩
  obtain ⟨z, g1, k1⟩ := PostG.ofO p1 w1
  exact ⟨F1, ds, z, w1.sub, g1, r.z, fun v F' H' xx r => k1 F' H' xx v r⟩
theorem PostG.ofN {K : PySem.W.Frag} {mg : Str → Option Value} {σ : L2.St} {δ : DEnv} {F H : Hp} {o : Option (List D)} {st : Option Dr} {k : List D → Option Dr → Hp → Hp → Prop} (p : PostG K mg C σ δ F H (Md.ofO o st) k) (w : Ws K mg C σ δ st F H) :
    ∃ z, o = some z ∧ ∀ F' H', Ext0 F H F' H' → k z st F' H' := PostG.ofO p w
theorem gone {mu : Addr → Prop} {F H F1 H1 : Hp} (x : Ext mu F H F1 H1) {q : Addr} (hq : H1 q = none) : H q = none := by
  cases e : H q with
  | none => rfl
  | some o => exact absurd hq (x.there q (by rw [e]; simp))
theorem dn_ty {T : String} {x : Str} {g : List D → Option (List D)} {p : Pos} (hc : CallR X (.type T) (rNn X.K X.mg g)) (hm : X.mg x = none) (ha : DAq X C (a :: es) fs) (hg : Gl X x := by rfl) (hv : bootBuiltins x = some (.type T) := by decide +kernel)
    (hn : x ≠ "__name__" := by decide) (hdb : (x == ("__debug__" : Str)) = false := by decide) (he : starEach (a :: es) X.env = (false, eval a X.env) :: starEach es X.env := by rfl) (hpl : (backTo pos (starEach es X.env)).any (·.1) = false := by rfl) :
    DN X C (.Call (.Name x p) (a :: es) [] pos) (eNN g fs) := by
  refine PE.imp (pe_callTy hc hg hm hv ha hn hdb he hpl) fun σ H Q ⟨F, δ, st, w, p⟩ => ?_
  refine ⟨F, δ, st, w, (PostG.bind p).imp fun ds st1 F1 H1 x1 w1 p1 vs r => ?_⟩
  obtain ⟨z, g1, k1⟩ := PostG.ofO p1 w1
  exact ⟨F1, ds, z, w1.sub, g1, r.z, fun q ws H' xx n e rr => k1 F1 H' xx q ws (gone x1 n) e (w1.sub.none n) rr⟩
theorem dn_bi {id : String} {x : Str} {g : List D → Option (List D)} {p : Pos} (hc : CallR X (.builtin id) (rNn X.K X.mg g)) (hm : X.mg x = none) (ha : DAq X C (a :: es) fs) (hg : Gl X x := by rfl) (hv : bootBuiltins x = some (.builtin id) := by decide +kernel)
    (hn : x ≠ "__name__" := by decide) (hdb : (x == ("__debug__" : Str)) = false := by decide) (he : starEach (a :: es) X.env = (false, eval a X.env) :: starEach es X.env := by rfl) (hpl : (backTo pos (starEach es X.env)).any (·.1) = false := by rfl) :
    DN X C (.Call (.Name x p) (a :: es) [] pos) (eNN g fs) := by
  refine PE.imp (pe_callB hc hg hm hv ha hn hdb he hpl) fun σ H Q ⟨F, δ, st, w, p⟩ => ?_
  refine ⟨F, δ, st, w, (PostG.bind p).imp fun ds st1 F1 H1 x1 w1 p1 vs r => ?_⟩
  obtain ⟨z, g1, k1⟩ := PostG.ofO p1 w1
  exact ⟨F1, ds, z, w1.sub, g1, r.z, fun q ws H' xx n e rr => k1 F1 H' xx q ws (gone x1 n) e (w1.sub.none n) rr⟩
theorem RepQs.one {K : PySem.W.Frag} {mg : Str → Option Value} {mu : Addr → Prop} {F H : Hp} {d : D} {vs : List V} (r : RepQs K mg mu F H [d] vs) : ∃ v, vs = [v] ∧ RepQ K mg mu F H d v := by
  obtain ⟨v, ws, rfl, r1, rfl⟩ := r
  exact ⟨v, rfl, r1⟩
theorem RepQs.two {K : PySem.W.Frag} {mg : Str → Option Value} {mu : Addr → Prop} {F H : Hp} {d e : D} {vs : List V} (r : RepQs K mg mu F H [d, e] vs) : ∃ v w, vs = [v, w] ∧ RepQ K mg mu F H d v ∧ RepQ K mg mu F H e w := by
  obtain ⟨v, ws, rfl, r1, w, us, rfl, r2, rfl⟩ := r
  exact ⟨v, w, rfl, r1, r2⟩
def dLen : List D → Option D
  | [.lst ds] => some (.int ds.length)
  | [.tup ds] => some (.int ds.length)
  | _ => none
theorem cd_len : CallR X (.builtin "len") (rDn X.K X.mg dLen) := by
  intro pins s σ H xs us Q I rs ⟨F, ds, z, l, g, r, k⟩
  unfold dLen at g
  split at g
  · cases g
    obtain ⟨v, rfl, rv⟩ := r.one
    obtain ⟨p, vs, rfl, h, q⟩ := rv.lst l
    exact call_len_seq pins s σ H _ us Q I rs ⟨p, vs, rfl, .inl (SqL.of h), k _ _ _ (Ext.refl l) (by rw [q.length]; exact rfl)⟩
  · cases g
    obtain ⟨v, rfl, rv⟩ := r.one
    obtain ⟨p, vs, rfl, h, q⟩ := rv.tup l
    exact call_len_seq pins s σ H _ us Q I rs ⟨p, vs, rfl, .inr h, k _ _ _ (Ext.refl l) (by rw [q.length]; exact rfl)⟩
  · cases g
def dTuple : List D → Option D
  | [.lst ds] => some (.tup ds)
  | [.tup ds] => some (.tup ds)
  | _ => none
theorem cd_tuple : CallR X (.type "tuple") (rDn X.K X.mg dTuple) := by
  intro pins s σ H xs us Q I rs ⟨F, ds, z, l, g, r, k⟩
  unfold dTuple at g
  split at g
  · cases g
    obtain ⟨v, rfl, rv⟩ := r.one
    obtain ⟨p, vs, rfl, h, q⟩ := rv.lst l
    refine call_tuple_of pins s σ H _ us Q I rs ⟨p, vs, rfl, .inl ⟨SqL.of h, fun t ht => ?_⟩⟩
    have xx := Ext.fresh (mu := fun _ => False) (o := .tup vs) l ht
    exact k _ _ _ xx ⟨t, vs, rfl, SqT.of upd_same, q.le xx.le _ _⟩
  · cases g
    obtain ⟨v, rfl, rv⟩ := r.one
    rcases rv with rv | ⟨_, _, _, _, z, _⟩ | ⟨_, _, _, _, _, z, _⟩
    · obtain ⟨p, vs, rfl, h, q⟩ := id rv
      exact call_tuple_of pins s σ H _ us Q I rs ⟨p, vs, rfl, .inr ⟨sqT_le l h, k _ _ _ (Ext.refl l) rv⟩⟩
    · cases z
    · cases z
  · cases g
def dList : List D → Option (List D)
  | [.lst ds] => some ds
  | [.tup ds] => some ds
  | _ => none
theorem cd_list : CallR X (.type "list") (rNn X.K X.mg dList) := by
  intro pins s σ H xs us Q I rs ⟨F, ds, z, l, g, r, k⟩
  unfold dList at g
  split at g
  · cases g
    obtain ⟨v, rfl, rv⟩ := r.one
    obtain ⟨p, vs, rfl, h, q⟩ := rv.lst l
    exact call_list_of pins s σ H _ us Q I rs ⟨p, vs, rfl, .inl (SqL.of h), fun t ht => k t vs _ (Ext.tmp l ht) ht upd_same q⟩
  · cases g
    obtain ⟨v, rfl, rv⟩ := r.one
    obtain ⟨p, vs, rfl, h, q⟩ := rv.tup l
    exact call_list_of pins s σ H _ us Q I rs ⟨p, vs, rfl, .inr h, fun t ht => k t vs _ (Ext.tmp l ht) ht upd_same q⟩
  · cases g
def asInts : List D → Option (List Int)
  | [] => some []
  | .int i :: r => (asInts r).map fun l => i :: l
  | _ => none
theorem asInts_eq : ∀ {ds : List D} {ns : List Int}, asInts ds = some ns → ds = ns.map D.int
  | [], ns, h => by cases h; rfl
  | .int i :: r, ns, h => by
    obtain ⟨l, e, rfl⟩ := Option.map_eq_some_iff.mp (show (asInts r).map (fun l => i :: l) = some ns from h)
    rw [asInts_eq e]; rfl
theorem asInts_map : ∀ ns : List Int, asInts (ns.map D.int) = some ns
  | [] => rfl
  | n :: ns => by
    show (asInts (ns.map D.int)).map _ = _
    rw [asInts_map ns]; rfl
def asBls : List D → Option (List Bool)
  | [] => some []
  | .bl i :: r => (asBls r).map fun l => i :: l
  | _ => none
theorem asBls_eq : ∀ {ds : List D} {ns : List Bool}, asBls ds = some ns → ds = ns.map D.bl
  | [], ns, h => by cases h; rfl
  | .bl i :: r, ns, h => by
    obtain ⟨l, e, rfl⟩ := Option.map_eq_some_iff.mp (show (asBls r).map (fun l => i :: l) = some ns from h)
    rw [asBls_eq e]; rfl
theorem asBls_map : ∀ ns : List Bool, asBls (ns.map D.bl) = some ns
  | [] => rfl
  | n :: ns => by
    show (asBls (ns.map D.bl)).map _ = _
    rw [asBls_map ns]; rfl
def dSum : List D → Option D
  | [.lst ds] => (asInts ds).map fun ns => .int ns.sum
  | _ => none
theorem cd_sum (hc : X.calm = true) : CallR X (.builtin "sum") (rDn X.K X.mg dSum) := by
  intro pins s σ H xs us Q I rs ⟨F, ds, z, l, g, r, k⟩
  unfold dSum at g
  split at g
  · obtain ⟨ns, e, rfl⟩ := Option.map_eq_some_iff.mp g
    have e' := asInts_eq e
    subst e'
    obtain ⟨v, rfl, rv⟩ := r.one
    obtain ⟨p, vs, rfl, h, q⟩ := rv.lst l
    rw [q.ints_inv] at h
    exact cr_sum hc pins s σ H _ us Q I rs ⟨p, ns, rfl, SqL.of h, k _ _ _ (Ext.refl l) rfl⟩
  · cases g
def dAll : List D → Option D
  | [.lst ds] => (asBls ds).map fun ns => .bl (ns.all id)
  | _ => none
theorem cd_all (hc : X.calm = true) : CallR X (.builtin "all") (rDn X.K X.mg dAll) := by
  intro pins s σ H xs us Q I rs ⟨F, ds, z, l, g, r, k⟩
  unfold dAll at g
  split at g
  · obtain ⟨ns, e, rfl⟩ := Option.map_eq_some_iff.mp g
    have e' := asBls_eq e
    subst e'
    obtain ⟨v, rfl, rv⟩ := r.one
    obtain ⟨p, vs, rfl, h, q⟩ := rv.lst l
    rw [q.bls_inv] at h
    exact cr_all hc pins s σ H _ us Q I rs ⟨p, ns, rfl, SqL.of h, k _ _ _ (Ext.refl l) rfl⟩
  · cases g
def dAny : List D → Option D
  | [.lst ds] => (asBls ds).map fun ns => .bl (ns.any id)
  | _ => none
theorem cd_any (hc : X.calm = true) : CallR X (.builtin "any") (rDn X.K X.mg dAny) := by
  intro pins s σ H xs us Q I rs ⟨F, ds, z, l, g, r, k⟩
  unfold dAny at g
  split at g
  · obtain ⟨ns, e, rfl⟩ := Option.map_eq_some_iff.mp g
    have e' := asBls_eq e
    subst e'
    obtain ⟨v, rfl, rv⟩ := r.one
    obtain ⟨p, vs, rfl, h, q⟩ := rv.lst l
    rw [q.bls_inv] at h
    exact cr_any hc pins s σ H _ us Q I rs ⟨p, ns, rfl, SqL.of h, k _ _ _ (Ext.refl l) rfl⟩
  · cases g
def dAbs : List D → Option D
  | [.int i] => some (.int (if i < 0 then -i else i))
  | _ => none
theorem cd_abs : CallR X (.builtin "abs") (rDn X.K X.mg dAbs) := by
  intro pins s σ H xs us Q I rs ⟨F, ds, z, l, g, r, k⟩
  unfold dAbs at g
  split at g
  · cases g
    obtain ⟨v, rfl, rv⟩ := r.one
    rw [rv.int] at rs
    exact call_abs pins s σ H _ us Q I rs ⟨_, rfl, k _ _ _ (Ext.refl l) rfl⟩
  · cases g
def dInt : List D → Option D
  | [.int i] => some (.int i)
  | [.bl b] => some (.int (if b then 1 else 0))
  | _ => none
theorem cd_int : CallR X (.type "int") (rDn X.K X.mg dInt) := by
  intro pins s σ H xs us Q I rs ⟨F, ds, z, l, g, r, k⟩
  unfold dInt at g
  split at g
  · cases g
    obtain ⟨v, rfl, rv⟩ := r.one
    rw [rv.int] at rs
    exact call_int1 pins s σ H _ us Q I rs (.inl ⟨_, rfl, k _ _ _ (Ext.refl l) rfl⟩)
  · cases g
    obtain ⟨v, rfl, rv⟩ := r.one
    rw [rv.bl] at rs
    exact call_int1 pins s σ H _ us Q I rs (.inr ⟨_, rfl, k _ _ _ (Ext.refl l) rfl⟩)
  · cases g
def dMax2 : List D → Option D
  | [.int i, .int j] => some (.int (if j > i then j else i))
  | [.lst ds] => match asInts ds with
    | some (n :: ns) => some (.int (ns.foldl (fun a b => if a < b then b else a) n))
    | _ => none
  | _ => none
theorem foldmax : ∀ (ns : List Int) (n : Int), (ns.foldl (fun a b => if a < b then b else a) n) ∈ n :: ns ∧ ∀ y ∈ n :: ns, y ≤ ns.foldl (fun a b => if a < b then b else a) n
  | [], n => ⟨List.mem_cons_self, fun y h => by simp at h; subst h; exact Int.le_refl _⟩
  | m :: ns, n => by
    obtain ⟨t, ht⟩ : ∃ t, t = if n < m then m else n := ⟨_, rfl⟩
    obtain ⟨h1, h2⟩ := foldmax ns t
    have hn : n ≤ t ∧ m ≤ t ∧ (t = n ∨ t = m) := by rw [ht]; split <;> omega
    show (ns.foldl _ (if n < m then m else n)) ∈ _ ∧ ∀ y ∈ _, y ≤ ns.foldl _ (if n < m then m else n)
    rw [← ht]
    have h0 := h2 _ List.mem_cons_self
    refine ⟨?_, fun y hy => ?_⟩
    · rcases List.mem_cons.mp h1 with e | e
      · rw [e]
        rcases hn.2.2 with e | e <;> rw [e] <;> simp
      · exact List.mem_cons_of_mem _ (List.mem_cons_of_mem _ e)
    · rcases List.mem_cons.mp hy with e | e
      · subst e; omega
      · rcases List.mem_cons.mp e with e | e
        · subst e; omega
        · exact h2 y (List.mem_cons_of_mem _ e)
theorem cd_max2 (hc : X.calm = true) : CallR X (.builtin "max") (rDn X.K X.mg dMax2) := by
  intro pins s σ H xs us Q I rs ⟨F, ds, z, l, g, r, k⟩
  unfold dMax2 at g
  split at g
  · cases g
    obtain ⟨v, w, rfl, rv, rw'⟩ := r.two
    rw [rv.int, rw'.int] at rs
    exact call_max2 hc pins s σ H _ us Q I rs ⟨_, _, rfl, k _ _ _ (Ext.refl l) rfl⟩
  · split at g
    · cases g
      rename_i n ns e
      have e' := asInts_eq e
      subst e'
      obtain ⟨v, rfl, rv⟩ := r.one
      obtain ⟨p, vs, rfl, h, q⟩ := rv.lst l
      rw [q.ints_inv] at h
      refine cr_max hc pins s σ H _ us Q I rs ⟨p, n :: ns, rfl, SqL.of h, by simp, fun m hm hle => ?_⟩
      obtain ⟨h1, h2⟩ := foldmax ns n
      have em : m = ns.foldl (fun a b => if a < b then b else a) n := Int.le_antisymm (h2 m hm) (hle _ h1)
      rw [em]
      exact k _ _ _ (Ext.refl l) rfl
    · cases g
  · cases g
def dMin2 : List D → Option D
  | [.int i, .int j] => some (.int (if j < i then j else i))
  | _ => none
theorem cd_min2 (hc : X.calm = true) : CallR X (.builtin "min") (rDn X.K X.mg dMin2) := by
  intro pins s σ H xs us Q I rs ⟨F, ds, z, l, g, r, k⟩
  unfold dMin2 at g
  split at g
  · cases g
    obtain ⟨v, w, rfl, rv, rw'⟩ := r.two
    rw [rv.int, rw'.int] at rs
    exact call_min2 hc pins s σ H _ us Q I rs ⟨_, _, rfl, k _ _ _ (Ext.refl l) rfl⟩
  · cases g
/-- insertion sort -/
def insI (x : Int) : List Int → List Int
  | [] => [x]
  | y :: r => if x ≤ y then x :: y :: r else y :: insI x r
def sortI : List Int → List Int
  | [] => []
  | x :: r => insI x (sortI r)
theorem insI_perm (x : Int) : ∀ l, (insI x l).Perm (x :: l)
  | [] => .refl _
  | y :: r => by
    unfold insI
    split
    · exact .refl _
    · exact ((insI_perm x r).cons y).trans (.swap _ _ _)
theorem sortI_perm : ∀ l, (sortI l).Perm l
  | [] => .refl _
  | x :: r => (insI_perm x _).trans ((sortI_perm r).cons x)
theorem insI_srtd (x : Int) : ∀ l, l.Pairwise (· ≤ ·) → (insI x l).Pairwise (· ≤ ·)
  | [], _ => List.pairwise_singleton _ _
  | y :: r, h => by
    unfold insI
    rw [List.pairwise_cons] at h
    split
    · rename_i hx
      exact List.pairwise_cons.mpr ⟨fun z hz => (List.mem_cons.mp hz).elim (fun e => by rw [e]; exact hx) (fun e => Int.le_trans hx (h.1 z e)), List.pairwise_cons.mpr h⟩
    · rename_i hx
      refine List.pairwise_cons.mpr ⟨fun z hz => ?_, insI_srtd x r h.2⟩
      rcases List.mem_cons.mp ((insI_perm x r).mem_iff.mp hz) with e | e
      · rw [e]; omega
      · exact h.1 z e
theorem sortI_srtd : ∀ l, (sortI l).Pairwise (· ≤ ·)
  | [] => .nil
  | x :: r => insI_srtd x _ (sortI_srtd r)
theorem sort_uniq {a b : List Int} (hp : a.Perm b) (ha : a.Pairwise (· ≤ ·)) (hb : b.Pairwise (· ≤ ·)) : a = b :=
  hp.eq_of_pairwise (fun _ _ _ _ h1 h2 => Int.le_antisymm h1 h2) ha hb
def dSortI : List D → Option (List D)
  | [.lst ds] => (asInts ds).map fun ns => (sortI ns).map D.int
  | _ => none
theorem cd_sortI : CallR X (.builtin "sorted") (rNn X.K X.mg dSortI) := by
  intro pins s σ H xs us Q I rs ⟨F, ds, z, l, g, r, k⟩
  unfold dSortI at g
  split at g
  · obtain ⟨ns, e, rfl⟩ := Option.map_eq_some_iff.mp g
    have e' := asInts_eq e
    subst e'
    obtain ⟨v, rfl, rv⟩ := r.one
    obtain ⟨p, vs, rfl, h, q⟩ := rv.lst l
    rw [q.ints_inv] at h
    refine cr_sortedI pins s σ H _ us Q I rs ⟨p, ns, rfl, SqL.of h, fun ns' t h1 h2 ht => ?_⟩
    have en := sort_uniq (h1.trans (sortI_perm ns).symm) h2 (sortI_srtd ns)
    subst en
    exact k t _ _ (Ext.tmp l ht) ht upd_same Reps.ints
  · cases g
/-! ### isinstance(e, T) -/
def tyName : D → Option String
  | .non => some "NoneType"
  | .bl _ => some "bool"
  | .int _ => some "int"
  | .str _ => some "str"
  | .tup _ => some "tuple"
  | .lst _ => some "list"
  | _ => none
def isT (T a : String) : Bool := a == T || (a == "bool" && T == "int")
def dIsi (T : String) (d : D) : Option D := (tyName d).map fun a => .bl (isT T a)
theorem kit_tbl : ∀ T ∈ ["int", "bool", "str", "tuple", "list"], ∀ a ∈ ["NoneType", "bool", "int", "str", "tuple", "list"], kitB a T = some (isT T a) := by decide +kernel
theorem tyX_of {K : PySem.W.Frag} {mg : Str → Option Value} {mu : Addr → Prop} {F H : Hp} {d : D} {v : V} {a : String} (l : Le F H) (r : RepQ K mg mu F H d v) (h : tyName d = some a) : TyX K H v (.type a) ∧ a ∈ ["NoneType", "bool", "int", "str", "tuple", "list"] := by
  cases d with
  | non => cases h; rw [r.non]; exact ⟨.base .non, by decide⟩
  | bl _ => cases h; rw [r.bl]; exact ⟨.base (.bl _), by decide⟩
  | int _ => cases h; rw [r.int]; exact ⟨.base (.int _), by decide⟩
  | str _ => cases h; rw [r.str]; exact ⟨.base (.str _), by decide⟩
  | tup _ =>
    cases h
    obtain ⟨p, vs, rfl, h, q⟩ := r.tup l
    refine ⟨?_, by decide⟩
    rcases h with (h | ⟨o, h⟩) | ⟨o, its, n, h, hc, _⟩
    · exact .base (.tup h)
    · exact .fTuple h
    · exact .kTuple h hc
  | lst _ =>
    cases h
    obtain ⟨p, vs, rfl, h, q⟩ := r.lst l
    exact ⟨.base (.lst h), by decide⟩
  | dic _ _ => cases h
  | obj _ _ _ => cases h
  | ref _ => cases h
theorem de_isi {T : Str} {T' : String} {p p2 : Pos} (hT : T' ∈ ["int", "bool", "str", "tuple", "list"]) (ha : DQ X C a fa) (hm : X.mg "isinstance" = none) (hmT : X.mg T = none) (hgT : Gl X T := by rfl) (hvT : bootBuiltins T = some (.type T') := by decide +kernel)
    (hg : Gl X "isinstance" := by rfl) (hnT : T ≠ "__name__" := by decide) (hdT : (T == ("__debug__" : Str)) = false := by decide)
    (he1 : starEach [.Name T p2] X.env = (false, eval (.Name T p2) X.env) :: starEach [] X.env := by rfl)
    (he : starEach [a, .Name T p2] X.env = (false, eval a X.env) :: starEach [.Name T p2] X.env := by rfl) (hpl : (backTo pos (starEach [.Name T p2] X.env)).any (·.1) = false := by rfl) :
    DE X C (.Call (.Name "isinstance" p) [a, .Name T p2] [] pos) (eUn (dIsi T') fa) := by
  have hty : PE X (.Name T p2) (tC (.ty T')) := pe_bltn hgT hmT hvT rfl hnT hdT
  refine PE.imp (pe_callB call_isi hg hm (by decide +kernel) (pa_cons ha (pa_cons hty pa_nil he1) he) (by decide) (by decide) he hpl) fun σ H Q ⟨F, δ, st, w, p⟩ => ?_
  refine ⟨F, δ, st, w, (PostG.bind p).imp fun d st1 F1 H1 x1 w1 p1 v r => ?_⟩
  obtain ⟨z, g1, k1⟩ := PostG.ofO p1 w1
  obtain ⟨an, e1, rfl⟩ := Option.map_eq_some_iff.mp g1
  obtain ⟨t1, t2⟩ := tyX_of w1.sub r e1
  exact ⟨v, .ty T', .type an, .type T', _, rfl, .ty T', t1, kit_ty (kit_tbl T' hT an t2), k1 _ _ (Ext.refl w1.sub) _ rfl⟩
end
end DL

set_option Elab.async false
set_option linter.all false
set_option maxRecDepth 100000
set_option maxHeartbeats 4000000
namespace DL
open PySem PySem.Spec PyProof.Rows L2
/-! ### statements -/
inductive Fl where
  | nx (δ : DEnv) | bk (δ : DEnv) | ct (δ : DEnv) | rt (d : D)
def PostS (K : PySem.W.Frag) (mg : Str → Option Value) (C : Ctx) (F : Hp) (r : Res Fl) (E : Ends) : Prop := match r with
  | .ok (.nx δ') st' => ∀ σ' F' H', Le F F' → Ws K mg C σ' δ' st' F' H' → E.nx σ' H'
  | .ok (.bk δ') st' => ∀ σ' F' H', Le F F' → Ws K mg C σ' δ' st' F' H' → E.bk σ' H'
  | .ok (.ct δ') st' => ∀ σ' F' H', Le F F' → Ws K mg C σ' δ' st' F' H' → E.ct σ' H'
  | .ok (.rt d) st' => ∀ v F' H', Ext C.mu C.F0 C.H0 F' H' → DrOk K C.mu C.ad st' F' H' → Rep K mg F' d v → E.rt v H'
  | .err c w st' => ∀ cls dd σ' δ' F' H', Ws K mg C σ' δ' st' F' H' → Exc mg c w cls dd H' → C.W cls dd σ' H'
  | .stuck => False
def tS (K : PySem.W.Frag) (mg : Str → Option Value) (C : Ctx) (f : DEnv → Md Fl) : TS := fun E σ H => ∃ F δ st, Ws K mg C σ δ st F H ∧ PostS K mg C F (f δ st) E
abbrev DS (X : Cx) (C : Ctx) (s : Stmt) (f : DEnv → Md Fl) : Prop := PS X s (tS X.K X.mg C f)
abbrev DSs (X : Cx) (C : Ctx) (s : List Stmt) (f : DEnv → Md Fl) : Prop := PSs X s (tS X.K X.mg C f)
theorem PS.imp {X : Cx} {s : Stmt} {t t' : TS} (h : PS X s t) (i : ∀ E σ H, t' E σ H → t E σ H) : PS X s t' := ⟨fun pins s σ H D I q => h.run pins s σ H D I (i _ _ _ q)⟩
theorem PSs.imp {X : Cx} {s : List Stmt} {t t' : TS} (h : PSs X s t) (i : ∀ E σ H, t' E σ H → t E σ H) : PSs X s t' := ⟨fun pins s σ H D I q => h.run pins s σ H D I (i _ _ _ q)⟩
section
variable {K : PySem.W.Frag} {mg : Str → Option Value} {C : Ctx} {F G : Hp} {E E' : Ends}
theorem PostS.le {r : Res Fl} (p : PostS K mg C F r E) (l : Le F G) : PostS K mg C G r E := by
  cases r with
  | ok fl st => cases fl with
    | nx δ => exact fun σ' F' H' q w => p σ' F' H' (l.trans q) w
    | bk δ => exact fun σ' F' H' q w => p σ' F' H' (l.trans q) w
    | ct δ => exact fun σ' F' H' q w => p σ' F' H' (l.trans q) w
    | rt d => exact p
  | err c w st => exact p
  | stuck => exact p
/-- an expression, then a statement -/
theorem PostG.ofS {α : Type} {σ : L2.St} {δ : DEnv} {H : Hp} {r : Res α} {g : α → Md Fl} (p : PostS K mg C F (r.bind g) E) :
    PostG K mg C σ δ F H r fun a st1 F1 H1 => PostS K mg C F1 (g a st1) E := by
  cases r with
  | ok a st => exact fun F1 H1 x w => PostS.le p x.le
  | err c w st => exact fun cls dd F' H' x w' z => p cls dd σ δ F' H' w' z
  | stuck => exact p
/-- a statement, then another -/
def Fl.then (g : DEnv → Md Fl) : Fl → Md Fl
  | .nx δ => g δ
  | f => Md.pure f
theorem PostS.seq {r : Res Fl} {g : DEnv → Md Fl} (p : PostS K mg C F (r.bind (Fl.then g)) E) : PostS K mg C F r { E with nx := tS K mg C g E } := by
  cases r with
  | ok fl st => cases fl with
    | nx δ => exact fun σ' F' H' l w => ⟨F', δ, st, w, PostS.le p l⟩
    | bk δ => exact p
    | ct δ => exact p
    | rt d => exact p
  | err c w st => exact p
  | stuck => exact p
end
def sNext : DEnv → Md Fl := fun δ => Md.pure (.nx δ)
def sSeq (f g : DEnv → Md Fl) : DEnv → Md Fl := fun δ => Md.bind (f δ) (Fl.then g)
def sDrop (f : DEnv → Md D) : DEnv → Md Fl := fun δ => Md.bind (f δ) fun _ => Md.pure (.nx δ)
def sRet (f : DEnv → Md D) : DEnv → Md Fl := fun δ => Md.bind (f δ) fun d => Md.pure (.rt d)
def sIf (c : DEnv → Md Bool) (f g : DEnv → Md Fl) : DEnv → Md Fl := fun δ => Md.bind (c δ) fun b => if b = true then f δ else g δ
def sNever : DEnv → Md Fl := fun _ => Md.stuck
def sSet (i : Nat) (f : DEnv → Md D) : DEnv → Md Fl := fun δ => Md.bind (f δ) fun d => Md.pure (.nx (δ.set i (.val d)))
def sSetN (i : Nat) (f : DEnv → Md (List D)) : DEnv → Md Fl := fun δ => Md.bind (f δ) fun ds => Md.pure (.nx (δ.set i (.own ds)))
def sBk : DEnv → Md Fl := fun δ => Md.pure (.bk δ)
def sCt : DEnv → Md Fl := fun δ => Md.pure (.ct δ)
section
variable {X : Cx} {C : Ctx} {e a b : Expr} {fa fb : DEnv → Md D} {pos : Pos} {s : Stmt} {rest : List Stmt} {f g : DEnv → Md Fl}
theorem dss_nil : DSs X C [] sNext := PSs.imp pss_nil fun E σ H ⟨F, δ, st, w, p⟩ => p σ F H Le.refl w
theorem dss_cons (h1 : DS X C s f) (h2 : DSs X C rest g) : DSs X C (s :: rest) (sSeq f g) :=
  PSs.imp (pss_cons h1 h2) fun E σ H ⟨F, δ, st, w, p⟩ => ⟨F, δ, st, w, PostS.seq p⟩
theorem dss_one (h1 : DS X C s f) : DSs X C [s] f := pss_one h1
theorem ds_pass : DS X C (.Pass pos) sNext := PS.imp ps_pass fun E σ H ⟨F, δ, st, w, p⟩ => p σ F H Le.refl w
theorem ds_break : DS X C (.Break pos) sBk := PS.imp ps_break fun E σ H ⟨F, δ, st, w, p⟩ => p σ F H Le.refl w
theorem ds_continue : DS X C (.Continue pos) sCt := PS.imp ps_continue fun E σ H ⟨F, δ, st, w, p⟩ => p σ F H Le.refl w
theorem ds_never : DS X C s sNever := PS.imp ps_never fun E σ H ⟨F, δ, st, w, p⟩ => p
theorem dss_never : DSs X C rest sNever := PSs.imp pss_never fun E σ H ⟨F, δ, st, w, p⟩ => p
theorem ds_expr (he : DE X C e fa) (hs : swapsWith e none pos.line X.env = pure false := by rfl) : DS X C (.Expr e pos) (sDrop fa) := by
  refine PS.imp (ps_expr he hs) fun E σ H ⟨F, δ, st, w, p⟩ => ?_
  exact ⟨F, δ, st, w, (PostG.ofS p).imp fun d st1 F1 H1 x1 w1 q v r => q σ F1 H1 Le.refl w1⟩
theorem ds_ret (he : DE X C e fa) : DS X C (.Return (some e) pos) (sRet fa) := by
  refine PS.imp (ps_ret he) fun E σ H ⟨F, δ, st, w, p⟩ => ?_
  exact ⟨F, δ, st, w, (PostG.ofS p).imp fun d st1 F1 H1 x1 w1 q v r => q v F1 H1 w1.ext w1.dr r⟩
def sRetN : DEnv → Md Fl := fun _ => Md.pure (.rt .non)
theorem ds_retN : DS X C (.Return none pos) sRetN := PS.imp ps_retN fun E σ H ⟨F, δ, st, w, p⟩ => p _ F H w.ext w.dr rfl
theorem ds_if {c : Expr} {ss ts : List Stmt} {t : DEnv → Md Bool} (hc : DT X C c t) (ha : DSs X C ss f) (hb : DSs X C ts g) : DS X C (.If c ss ts pos) (sIf t f g) := by
  refine PS.imp (ps_if hc ha hb) fun E σ H ⟨F, δ, st, w, p⟩ => ?_
  refine ⟨F, δ, st, w, (PostG.ofS p).imp fun b st1 F1 H1 x1 w1 q => ?_⟩
  cases b with
  | true => rw [if_pos rfl] at q ⊢; exact ⟨F1, δ, st1, w1, q⟩
  | false => rw [if_neg Bool.false_ne_true] at q ⊢; exact ⟨F1, δ, st1, w1, q⟩
theorem ds_set {i : Nat} {x : Str} {pos' : Pos} (hN : X.N.Nodup) (he : DE X C e fa) (hi : X.N[i]? = some x := by rfl) (hx : Loc X.env.scope x := by first | exact Or.inl rfl | exact Or.inr rfl) (hs : swapsWith e (some (.Name x pos')) pos.line X.env = pure false := by rfl) (hf : X.fn x = true ∨ X.env.scope.names.lookup x = some .local := by first | exact .inl rfl | exact .inr rfl) :
    DS X C (.Assign [.Name x pos'] e pos) (sSet i fa) := by
  refine PS.imp (ps_set hN hi hx he hs hf) fun E σ H ⟨F, δ, st, w, p⟩ => ?_
  exact ⟨F, δ, st, w, (PostG.ofS p).imp fun d st1 F1 H1 x1 w1 q v r => q _ F1 H1 Le.refl (w1.setVal r)⟩
theorem Ws.newOwn {K : PySem.W.Frag} {mg : Str → Option Value} {σ : L2.St} {δ : DEnv} {st st1 : Option Dr} {F H F1 H1 : Hp} {a : Addr} {vs : List V} {ds : List D} {i : Nat} (w : Ws K mg C σ δ st F H) (w1 : Ws K mg C σ δ st1 F1 H1) (n : H a = none)
    (h1 : H1 a = some (.lst vs)) (n1 : F1 a = none) (r : Reps K mg F1 ds vs) : Ws K mg C (σ.set i (some (.ref a))) (δ.set i (.own ds)) st1 F1 H1 := by
  refine w1.setOwn h1 n1 (gone w.ext n) r fun j s e o z => ?_
  cases s with
  | un => cases o
  | val d => cases o
  | own es =>
    obtain ⟨b, us, e1, e2, _⟩ := w.own j es e
    rw [e1] at z; cases z
    rw [n] at e2; cases e2
  | owd ks ws =>
    obtain ⟨b, us, e1, e2, _⟩ := w.owd j ks ws e
    rw [e1] at z; cases z
    rw [n] at e2; cases e2
/-- x = a new list of its own -/
theorem ds_setN {i : Nat} {x : Str} {pos' : Pos} {fs : DEnv → Md (List D)} (hN : X.N.Nodup) (he : DN X C e fs) (hi : X.N[i]? = some x := by rfl) (hx : Loc X.env.scope x := by first | exact Or.inl rfl | exact Or.inr rfl) (hs : swapsWith e (some (.Name x pos')) pos.line X.env = pure false := by rfl) (hf : X.fn x = true ∨ X.env.scope.names.lookup x = some .local := by first | exact .inl rfl | exact .inr rfl) :
    DS X C (.Assign [.Name x pos'] e pos) (sSetN i fs) := by
  refine PS.imp (ps_set hN hi hx he hs hf) fun E σ H ⟨F, δ, st, w, p⟩ => ?_
  exact ⟨F, δ, st, w, (PostG.ofS p).imp fun ds st1 F1 H1 x1 w1 q a vs n h1 n1 r => q _ F1 H1 Le.refl (w.newOwn w1 n h1 n1 r)⟩
/-- a slot's own list is frozen -/
def fz (i : Nat) (δ : DEnv) : DEnv := match δ[i]? with
  | some (.own ds) => δ.set i (.val (.lst ds))
  | some (.owd ks ws) => δ.set i (.val (.dic ks ws))
  | _ => δ
theorem Ws.fz {K : PySem.W.Frag} {mg : Str → Option Value} {σ : L2.St} {δ : DEnv} {st : Option Dr} {F H : Hp} (w : Ws K mg C σ δ st F H) (i : Nat) : ∃ F', Le F F' ∧ Ws K mg C σ (fz i δ) st F' H := by
  have key : ∀ (a : Addr) (o : HO) (d : D) (s : Slot), δ[i]? = some s → s.isOwn = true → σ[i]? = some (some (V.ref a)) → H a = some o → F a = none → C.H0 a = none → (∀ G, Le (upd F a o) G → Rep K mg G d (.ref a)) →
      ∃ F', Le F F' ∧ Ws K mg C σ (δ.set i (.val d)) st F' H := by
    intro a o d s hs ho e h1 h2 h3 hr
    have l := le_upd (o := o) h2
    refine ⟨upd F a o, l, ?_⟩
    have ne : ∀ j t b, δ[j]? = some t → t.isOwn = true → σ[j]? = some (some (V.ref b)) → j ≠ i → b ≠ a := fun j t b ej oj sj hj z => by
      subst z
      exact hj (w.inj j i t s b ej hs oj ho sj e)
    refine ⟨⟨w.ext.le.trans l, fun b u eb => ?_, fun b hb1 hb2 => ?_, w.ext.keep, w.ext.there⟩, w.muv, by rw [List.length_set]; exact w.sl, fun j d' hj => ?_, fun j ds hj => ?_, fun j ks ws hj => ?_, fun j l' s' t' b e1 e2 o1 o2 s1 s2 => ?_, ?_⟩
    · by_cases q : b = a
      · subst q; rw [upd_same] at eb; cases eb; exact h1
      · rw [upd_ne q] at eb; exact w.sub _ _ eb
    · have q : b ≠ a := fun z => by subst z; exact hb2 h3
      rw [upd_ne q]; exact w.ext.new b hb1 hb2
    · by_cases q : i = j
      · subst q
        rw [List.getElem?_set, if_pos rfl] at hj
        split at hj <;> cases hj
        exact ⟨_, e, hr _ Le.refl⟩
      · rw [List.getElem?_set_ne q] at hj
        obtain ⟨v, e1, r⟩ := w.val j d' hj
        exact ⟨v, e1, Rep.le l _ _ r⟩
    · by_cases q : i = j
      · subst q
        rw [List.getElem?_set, if_pos rfl] at hj
        split at hj <;> cases hj
      · rw [List.getElem?_set_ne q] at hj
        obtain ⟨b, vs, e1, g1, g2, g3, g4⟩ := w.own j ds hj
        exact ⟨b, vs, e1, g1, by rw [upd_ne (ne j _ b hj rfl e1 (Ne.symm q))]; exact g2, g3, Reps.le l _ _ g4⟩
    · by_cases q : i = j
      · subst q
        rw [List.getElem?_set, if_pos rfl] at hj
        split at hj <;> cases hj
      · rw [List.getElem?_set_ne q] at hj
        obtain ⟨b, vs, e1, g1, g2, g3, g4⟩ := w.owd j ks ws hj
        exact ⟨b, vs, e1, g1, by rw [upd_ne (ne j _ b hj rfl e1 (Ne.symm q))]; exact g2, g3, g4.le l⟩
    · have n1 : i ≠ j := fun q => by
        subst q
        rw [List.getElem?_set, if_pos rfl] at e1
        split at e1 <;> cases e1
        cases o1
      have n2 : i ≠ l' := fun q => by
        subst q
        rw [List.getElem?_set, if_pos rfl] at e2
        split at e2 <;> cases e2
        cases o2
      rw [List.getElem?_set_ne n1] at e1
      rw [List.getElem?_set_ne n2] at e2
      exact w.inj j l' s' t' b e1 e2 o1 o2 s1 s2
    · have d := w.dr
      cases st with
      | none => trivial
      | some z =>
        obtain ⟨m, as, e1, e2, e3⟩ := d
        refine ⟨m, as, e1, ?_, l _ _ e3.1, e3.2⟩
        have q : C.ad ≠ a := fun z => (w.muv _ m).2 (by rw [z]; exact h3)
        rw [upd_ne q]; exact e2
  unfold DL.fz
  split
  · rename_i ds e
    obtain ⟨a, vs, e1, h1, h2, h3, r⟩ := w.own i ds e
    exact key a _ (.lst ds) _ e rfl e1 h1 h2 h3 fun G l => ⟨a, vs, rfl, l _ _ upd_same, Reps.le ((le_upd h2).trans l) _ _ r⟩
  · rename_i ks ws e
    obtain ⟨a, o, e1, h1, h2, h3, r⟩ := w.owd i ks ws e
    refine key a _ (.dic ks ws) _ e rfl e1 h1 h2 h3 fun G l => ⟨a, rfl, ?_⟩
    have r' := r.le ((le_upd (o := o) h2).trans l)
    rcases r' with ⟨kvs, z, k, rr⟩ | ⟨kvs, z, k, rr⟩
    · exact .inl ⟨kvs, by rw [← z]; exact l _ _ upd_same, k, rr⟩
    · exact .inr ⟨kvs, by rw [← z]; exact l _ _ upd_same, k, rr⟩
  · exact ⟨F, Le.refl, w⟩
def sFz (i : Nat) (f : DEnv → Md Fl) : DEnv → Md Fl := fun δ => f (fz i δ)
theorem ds_fz (i : Nat) (h : DS X C s f) : DS X C s (sFz i f) := PS.imp h fun E σ H ⟨F, δ, st, w, p⟩ => by
  obtain ⟨F', l, w'⟩ := w.fz i
  exact ⟨F', fz i δ, st, w', PostS.le p l⟩
theorem dss_fz (i : Nat) (h : DSs X C rest f) : DSs X C rest (sFz i f) := PSs.imp h fun E σ H ⟨F, δ, st, w, p⟩ => by
  obtain ⟨F', l, w'⟩ := w.fz i
  exact ⟨F', fz i δ, st, w', PostS.le p l⟩
/-! ### targets -/
def Agree (is : List Nat) (σ σ' : L2.St) : Prop := σ'.length = σ.length ∧ ∀ j, j ∉ is → σ'[j]? = σ[j]?
theorem Agree.refl {is : List Nat} {σ : L2.St} : Agree is σ σ := ⟨rfl, fun _ _ => rfl⟩
theorem Agree.trans {is js : List Nat} {σ σ1 σ2 : L2.St} (a : Agree is σ σ1) (b : Agree js σ1 σ2) : Agree (is ++ js) σ σ2 :=
  ⟨b.1.trans a.1, fun j h => by
    rw [List.mem_append, not_or] at h
    rw [b.2 j h.2, a.2 j h.1]⟩
abbrev GD := D → DEnv → Option DEnv
abbrev GDs := List D → DEnv → Option DEnv
def gD (K : PySem.W.Frag) (mg : Str → Option Value) (C : Ctx) (is : List Nat) (g : GD) : TG := fun v σ H Q => ∃ F d δ δ' st, Ws K mg C σ δ st F H ∧ Rep K mg F d v ∧ g d δ = some δ' ∧ ∀ σ', Agree is σ σ' → Ws K mg C σ' δ' st F H → Q σ' H
def gDs (K : PySem.W.Frag) (mg : Str → Option Value) (C : Ctx) (is : List Nat) (g : GDs) : TGs := fun vs σ H Q => ∃ F ds δ δ' st, Ws K mg C σ δ st F H ∧ Reps K mg F ds vs ∧ g ds δ = some δ' ∧ ∀ σ', Agree is σ σ' → Ws K mg C σ' δ' st F H → Q σ' H
abbrev DG (X : Cx) (C : Ctx) (tg : Expr) (is : List Nat) (g : GD) : Prop := PG X tg (gD X.K X.mg C is g)
theorem PG.imp {X : Cx} {e : Expr} {t t' : TG} (h : PG X e t) (i : ∀ v σ H Q, t' v σ H Q → t v σ H Q) : PG X e t' := ⟨fun pins s σ H v u Q I r q => h.run pins s σ H v u Q I r (i _ _ _ _ q)⟩
theorem PGs.imp {X : Cx} {e : List Expr} {t t' : TGs} (h : PGs X e t) (i : ∀ v σ H Q, t' v σ H Q → t v σ H Q) : PGs X e t' := ⟨fun pins s σ H v u Q I r q => h.run pins s σ H v u Q I r (i _ _ _ _ q)⟩
structure DGs (X : Cx) (C : Ctx) (tgs : List Expr) (n : Nat) (is : List Nat) (g : GDs) : Prop where
  len : (assignEach tgs X.env).length = n
  star : (assignEach tgs X.env).findIdx? (·.1) = none
  pg : PGs X tgs (gDs X.K X.mg C is g)
def gdName (i : Nat) : GD := fun d δ => some (δ.set i (.val d))
def gdNil : GDs := fun ds δ => match ds with
  | [] => some δ
  | _ => none
def gdCons (g : GD) (gs : GDs) : GDs := fun ds δ => match ds with
  | d :: r => (g d δ).bind (gs r)
  | [] => none
def gdTup (n : Nat) (gs : GDs) : GD := fun d δ => match d with
  | .tup ds => if ds.length = n then gs ds δ else none
  | _ => none
theorem dg_name (i : Nat) {x : Str} (hN : X.N.Nodup) (hi : X.N[i]? = some x := by rfl) (hx : Loc X.env.scope x := by first | exact Or.inl rfl | exact Or.inr rfl) (hf : X.fn x = true ∨ X.env.scope.names.lookup x = some .local := by first | exact .inl rfl | exact .inr rfl) : DG X C (.Name x pos) [i] (gdName i) := by
  refine PG.imp (pg_name hN hi hx hf) fun v σ H Q ⟨F, d, δ, δ', st, w, r, e, q⟩ => ?_
  cases e
  exact q _ ⟨List.length_set, fun j hj => List.getElem?_set_ne (by simpa using Ne.symm (by simpa using hj))⟩ (w.setVal r)
theorem dgs_nil : DGs X C [] 0 [] gdNil := by
  refine ⟨rfl, rfl, PGs.imp pgs_nil fun vs σ H Q ⟨F, ds, δ, δ', st, w, r, e, q⟩ => ?_⟩
  cases ds with
  | nil => cases r; cases e; exact ⟨rfl, q _ .refl w⟩
  | cons d r => cases e
theorem dgs_cons {t : Expr} {ts : List Expr} {n : Nat} {is js : List Nat} {g : GD} {gs : GDs} (h1 : DG X C t is g) (h2 : DGs X C ts n js gs)
    (hs : assignEach (t :: ts) X.env = (false, assign t X.env) :: assignEach ts X.env := by rfl) : DGs X C (t :: ts) (n + 1) (is ++ js) (gdCons g gs) := by
  obtain ⟨e1, e2, p2⟩ := h2
  refine ⟨by rw [hs, List.length_cons, e1], by rw [hs, List.findIdx?_cons, e2]; rfl, PGs.imp (pgs_cons h1 p2 (by rw [hs]; rfl)) fun vs σ H Q ⟨F, ds, δ, δ', st, w, r, e, q⟩ => ?_⟩
  cases ds with
  | nil => cases e
  | cons d r' =>
    obtain ⟨v, ws, rfl, rv, rs⟩ := r
    obtain ⟨δ1, h1, h2⟩ := Option.bind_eq_some_iff.mp (show (g d δ).bind (gs r') = some δ' from e)
    exact ⟨v, ws, rfl, F, d, δ, δ1, st, w, rv, h1, fun σ1 a1 w1 => ⟨F, r', δ1, δ', st, w1, rs, h2, fun σ2 a2 w2 => q σ2 (a1.trans a2) w2⟩⟩
theorem dg_tup {ts : List Expr} {k n : Nat} {is : List Nat} {gs : GDs} (hc : X.calm = true) (h : DGs X C ts n is gs) : DG X C (.Tuple ts k pos) is (gdTup n gs) := by
  obtain ⟨e1, e2, p⟩ := h
  refine PG.imp (pg_tup hc p e1 e2) fun v σ H Q ⟨F, d, δ, δ', st, w, r, e, q⟩ => ?_
  unfold gdTup at e
  split at e
  · rename_i ds
    split at e
    · rename_i hn
      obtain ⟨a, vs, rfl, hq, rs⟩ := r
      exact ⟨a, vs, rfl, sqT_le w.sub hq, by rw [rs.length]; exact hn, F, ds, δ, δ', st, w, rs, e, q⟩
    · cases e
  · cases e
def sAsg (g : GD) (f : DEnv → Md D) : DEnv → Md Fl := fun δ => Md.bind (f δ) fun d => Md.bind (Md.ofO (g d δ)) fun δ' => Md.pure (.nx δ')
theorem ds_asg {tg : Expr} {is : List Nat} {g : GD} (he : DE X C e fa) (hg : DG X C tg is g) (hs : swapsWithSole [tg] e pos.line X.env = pure false := by rfl) (hw : swappedStores [tg] e X.env = pure none := by rfl)
    (h1 : (assignEach [tg] X.env).map (·.2) = [assign tg X.env] := by rfl) : DS X C (.Assign [tg] e pos) (sAsg g fa) := by
  refine PS.imp (ps_asg he hg hs hw h1) fun E σ H ⟨F, δ, st, w, q⟩ => ?_
  refine ⟨F, δ, st, w, (PostG.ofS q).imp fun d st1 F1 H1 x1 w1 q1 v r => ?_⟩
  cases e : g d δ with
  | none => rw [e] at q1; exact q1.elim
  | some δ' =>
    rw [e] at q1
    exact ⟨F1, d, δ, δ', st1, w1, r, e, fun σ' a w' => q1 σ' F1 H1 Le.refl w'⟩
/-- a, b = x, y: no pair is made -/
def sPar (i j : Nat) (f : DEnv → Md (List D)) : DEnv → Md Fl := fun δ => Md.bind (f δ) fun ds => match ds with
  | [x, y] => Md.pure (.nx ((δ.set i (.val x)).set j (.val y)))
  | _ => Md.stuck
theorem ds_par {i j : Nat} {x y : Str} {fs : DEnv → Md (List D)} {px py pt : Pos} {kt k2 pt2} (hc : X.calm = true) (hN : X.N.Nodup) (ha : DAr X C [a, b] fs) (hij : i ≠ j) (hi : X.N[i]? = some x := by rfl) (hj : X.N[j]? = some y := by rfl)
    (hx : X.env.scope.names.lookup x = some .local := by rfl) (hy : X.env.scope.names.lookup y = some .local := by rfl)
    (hw : swappedStores [.Tuple [.Name x px, .Name y py] kt pt] (.Tuple [a, b] k2 pt2) X.env = pure (some [x, y]) := by rfl)
    (hs : swapsWithSole [.Tuple [.Name x px, .Name y py] kt pt] (.Tuple [a, b] k2 pt2) pos.line X.env = pure false := by rfl) :
    DS X C (.Assign [.Tuple [.Name x px, .Name y py] kt pt] (.Tuple [a, b] k2 pt2) pos) (sPar i j fs) := by
  refine PS.imp (ps_par hc hN hi hj hij hx hy ha hw hs) fun E σ H ⟨F, δ, st, w, p⟩ => ?_
  refine ⟨F, δ, st, w, (PostG.ofS p).imp fun ds st1 F1 H1 x1 w1 q vs r => ?_⟩
  cases ds with
  | nil => exact q.elim
  | cons d1 t => cases t with
    | nil => exact q.elim
    | cons d2 t => cases t with
      | cons _ _ => exact q.elim
      | nil =>
        obtain ⟨v1, _, rfl, r1, v2, _, rfl, r2, rfl⟩ := r
        exact ⟨v1, v2, rfl, q _ F1 H1 Le.refl ((w1.setVal r1).setVal r2)⟩
/-- x += e, of ints -/
def sAug (i : Nat) (g : D → D → Option D) (f : DEnv → Md D) : DEnv → Md Fl := fun δ => Md.bind (eVar i δ) fun x => Md.bind (f δ) fun y => Md.bind (Md.ofO (g x y)) fun z => Md.pure (.nx (δ.set i (.val z)))
theorem ds_augI {i : Nat} {x : Str} {op : Operator} {h : Int → Int → Int} {gg : D → D → Option D} {pos' : Pos} (hN : X.N.Nodup) (he : DE X C e fa) (ho : PIp X op (ipI h)) (hg : ∀ d1 d2 z, gg d1 d2 = some z → ∃ i j, d1 = .int i ∧ d2 = .int j ∧ z = .int (h i j)) (hi : X.N[i]? = some x := by rfl) (hx : Loc X.env.scope x := by first | exact Or.inl rfl | exact Or.inr rfl) (hf : X.fn x = true ∨ X.env.scope.names.lookup x = some .local := by first | exact .inl rfl | exact .inr rfl) :
    DS X C (.AugAssign (.Name x pos') op e pos) (sAug i gg fa) := by
  refine PS.imp (ps_aug hN hi hx he ho hf) fun E σ H ⟨F, δ, st, w, p⟩ => ?_
  have p1 := PostG.ofS (σ := σ) (δ := δ) (H := H) p
  unfold eVar at p1
  split at p1
  · rename_i d ed
    obtain ⟨v, e1, r⟩ := w.val i d ed
    refine ⟨v, e1, F, δ, st, w, (PostG.ofS (p1 F H (Ext.refl w.sub) w)).imp fun d2 st1 F1 H1 x1 w1 q v2 r2 => ?_⟩
    cases ez : gg d d2 with
    | none => rw [ez] at q; exact q.elim
    | some z =>
      rw [ez] at q
      obtain ⟨i1, j1, rfl, rfl, rfl⟩ := hg d d2 z ez
      exact ⟨i1, j1, r, r2, q _ F1 H1 Le.refl (w1.setVal rfl)⟩
  · exact p1.elim
def dAddI : D → D → Option D
  | .int a, .int b => some (.int (a + b))
  | _, _ => none
theorem dAddI_int : ∀ d1 d2 z, dAddI d1 d2 = some z → ∃ i j, d1 = .int i ∧ d2 = .int j ∧ z = .int ((fun i j => i + j) i j) := fun d1 d2 z h => by
  unfold dAddI at h
  split at h
  · cases h; exact ⟨_, _, rfl, rfl, rfl⟩
  · cases h
theorem dSub_int : ∀ d1 d2 z, dSub d1 d2 = some z → ∃ i j, d1 = .int i ∧ d2 = .int j ∧ z = .int ((fun i j => i - j) i j) := fun d1 d2 z h => by
  unfold dSub at h
  split at h
  · cases h; exact ⟨_, _, rfl, rfl, rfl⟩
  · cases h
end
end DL

set_option Elab.async false
set_option linter.all false
set_option maxRecDepth 100000
set_option maxHeartbeats 4000000
namespace DL
open PySem PySem.Spec PyProof.Rows L2
/-! ### what is walked -/
structure DWalk (K : PySem.W.Frag) (mg : Str → Option Value) (S : Hp → Hp → Prop) (J : It) (ds : List D) : Prop where
  ex : ∃ G Y, Walk J ds.length G Y ∧ (∀ F H, S F H → G H) ∧ ∀ (i : Nat) (x : V) (F H H' : Hp), i < ds.length → S F H → Y i H x H' → ∃ F' d, ds[i]? = some d ∧ Ext0 F H F' H' ∧ Rep K mg F' d x
def iD (K : PySem.W.Frag) (mg : Str → Option Value) (C : Ctx) (f : DEnv → Md (List D)) : TI := fun σ H R => ∃ F δ st, Ws K mg C σ δ st F H ∧ PostG K mg C σ δ F H (f δ st) fun ds st1 F1 H1 => ∀ J, DWalk K mg (fun F2 H2 => Le F1 F2 ∧ Le F2 H2) J ds → R J H1
def jD (K : PySem.W.Frag) (mg : Str → Option Value) (C : Ctx) (f : DEnv → Md (List D)) : TI := fun σ H R => ∃ F δ st, Ws K mg C σ δ st F H ∧ PostG K mg C σ δ F H (f δ st) fun ds st1 F1 H1 => ∀ J, DWalk K mg (fun F2 H2 => Ext C.mu F1 H1 F2 H2) J ds → R J H1
/-- an iterable that stands whatever is done -/
abbrev DI (X : Cx) (C : Ctx) (tg iter : Expr) (f : DEnv → Md (List D)) : Prop := PI X tg iter (iD X.K X.mg C f)
/-- one that stands while nothing of one's own is changed -/
abbrev DJ (X : Cx) (C : Ctx) (tg iter : Expr) (f : DEnv → Md (List D)) : Prop := PI X tg iter (jD X.K X.mg C f)
theorem PI.imp {X : Cx} {tg e : Expr} {t t' : TI} (h : PI X tg e t) (i : ∀ σ H R, t' σ H R → t σ H R) : PI X tg e t' := ⟨fun pins s σ H R I q => h.run pins s σ H R I (i _ _ _ q)⟩
section
variable {X : Cx} {C : Ctx} {tg e a b : Expr} {fa fb : DEnv → Md D} {pos : Pos} {f : DEnv → Md (List D)}
theorem DWalk.mono {K : PySem.W.Frag} {mg : Str → Option Value} {S S' : Hp → Hp → Prop} {J : It} {ds : List D} (w : DWalk K mg S J ds) (h : ∀ F H, S' F H → S F H) : DWalk K mg S' J ds := by
  obtain ⟨G, Y, w1, w2, w3⟩ := w
  exact ⟨G, Y, w1, fun F H q => w2 F H (h F H q), fun i x F H H' hi q y => w3 i x F H H' hi (h F H q) y⟩
theorem DI.j (h : DI X C tg e f) : DJ X C tg e f := by
  exact PI.imp h fun σ H R ⟨F, δ, st, w, q⟩ => ⟨F, δ, st, w, q.imp fun ds st1 F1 H1 x1 w1 g J dw => g J (dw.mono fun F2 H2 x => ⟨x.le, x.sub⟩)⟩
/-- the items of a list or tuple -/
def seqD : D → Option (List D)
  | .tup ds => some ds
  | .lst ds => some ds
  | _ => none
def iSeq (fa : DEnv → Md D) : DEnv → Md (List D) := fun δ => Md.bind (fa δ) fun d => Md.ofO (seqD d)
def iListD : D → Option (List D)
  | .lst ds => some ds
  | _ => none
def iTupD : D → Option (List D)
  | .tup ds => some ds
  | _ => none
def iL (fa : DEnv → Md D) : DEnv → Md (List D) := fun δ => Md.bind (fa δ) fun d => Md.ofO (iListD d)
def iT (fa : DEnv → Md D) : DEnv → Md (List D) := fun δ => Md.bind (fa δ) fun d => Md.ofO (iTupD d)
theorem yat {K : PySem.W.Frag} {mg : Str → Option Value} {ds : List D} {vs : List V} {F1 F H H' : Hp} {i : Nat} {x : V} (r : Reps K mg F1 ds vs) (l : Le F1 F) (l2 : Le F H) (y : YAt vs i H x H') : ∃ F' d, ds[i]? = some d ∧ Ext0 F H F' H' ∧ Rep K mg F' d x := by
  obtain ⟨rfl, e⟩ := y
  obtain ⟨d, h1, h2⟩ := r.get e
  exact ⟨F, d, h1, Ext.refl l2, Rep.le l _ _ h2⟩
theorem di_list (h : DE X C e fa) : DI X C tg e (iL fa) := by
  refine PI.imp (pi_list h) fun σ H R ⟨F, δ, st, w, p⟩ => ?_
  refine ⟨F, δ, st, w, (PostG.bind p).imp fun d st1 F1 H1 x1 w1 q v r => ?_⟩
  obtain ⟨z, g, k⟩ := PostG.ofO q w1
  cases d with
  | lst ds =>
    cases g
    obtain ⟨a, vs, rfl, h, rs⟩ := r
    refine ⟨a, rfl, ⟨vs, SqL.of (w1.sub _ _ h)⟩, k F1 H1 (Ext.refl w1.sub) _ ⟨_, _, (by rw [← rs.length]; exact walk_list), fun F2 H2 s => SqL.of (s.2 _ _ (s.1 _ _ h)), fun i x F2 H2 H3 hi s y => yat rs s.1 s.2 y⟩⟩
  | _ => cases g
theorem di_tup (h : DE X C e fa) : DI X C tg e (iT fa) := by
  refine PI.imp (pi_tup h) fun σ H R ⟨F, δ, st, w, p⟩ => ?_
  refine ⟨F, δ, st, w, (PostG.bind p).imp fun d st1 F1 H1 x1 w1 q v r => ?_⟩
  obtain ⟨z, g, k⟩ := PostG.ofO q w1
  cases d with
  | tup ds =>
    cases g
    obtain ⟨a, vs, rfl, h, rs⟩ := r
    refine ⟨a, rfl, ⟨vs, sqT_le w1.sub h⟩, k F1 H1 (Ext.refl w1.sub) _ ⟨_, _, (by rw [← rs.length]; exact walk_tup), fun F2 H2 s => sqT_le (s.1.trans s.2) h, fun i x F2 H2 H3 hi s y => yat rs s.1 s.2 y⟩⟩
  | _ => cases g
/-- a slot's own list, in a comprehension -/
theorem dj_own (h : DQ X C e fa) : DJ X C tg e (iL fa) := by
  refine PI.imp (pi_list h) fun σ H R ⟨F, δ, st, w, p⟩ => ?_
  refine ⟨F, δ, st, w, (PostG.bind p).imp fun d st1 F1 H1 x1 w1 q v r => ?_⟩
  obtain ⟨z, g, k⟩ := PostG.ofO q w1
  cases d with
  | lst ds =>
    cases g
    rcases r with ⟨a, vs, rfl, h, rs⟩ | ⟨a, vs, ds', m, e, rfl, h, rs⟩ | ⟨a, o, ks, ws, m, e, _⟩
    · refine ⟨a, rfl, ⟨vs, SqL.of (w1.sub _ _ h)⟩, k F1 H1 (Ext.refl w1.sub) _ ⟨_, _, (by rw [← rs.length]; exact walk_list), fun F2 H2 s => SqL.of (s.sub _ _ (s.le _ _ h)), fun i x F2 H2 H3 hi s y => yat rs s.le s.sub y⟩⟩
    · cases e
      refine ⟨a, rfl, ⟨vs, SqL.of h⟩, k F1 H1 (Ext.refl w1.sub) _ ⟨_, _, (by rw [← rs.length]; exact walk_list), fun F2 H2 s => SqL.of (s.keep _ _ m h), fun i x F2 H2 H3 hi s y => yat rs s.le s.sub y⟩⟩
    · cases e
  | _ => cases g
def rgD (lo : Int) (n : Nat) : List D := (List.range n).map fun i => D.int (lo + (i : Nat))
theorem rgD_length (lo : Int) (n : Nat) : (rgD lo n).length = n := by unfold rgD; rw [List.length_map, List.length_range]
theorem rgD_get {lo : Int} {n i : Nat} (h : i < n) : (rgD lo n)[i]? = some (.int (lo + (i : Nat))) := by
  unfold rgD; rw [List.getElem?_map, List.getElem?_range h]; rfl
def iR1 (fa : DEnv → Md D) : DEnv → Md (List D) := fun δ => Md.bind (fa δ) fun d => match d with
  | .int n => if -1000 ≤ n ∧ n ≤ lim then Md.pure (rgD 0 n.toNat) else Md.stuck
  | _ => Md.stuck
def iR2 (fa fb : DEnv → Md D) : DEnv → Md (List D) := fun δ => Md.bind (fa δ) fun d => Md.bind (fb δ) fun e => match d, e with
  | .int m, .int n => if -1000 ≤ n ∧ n ≤ lim ∧ -1000 ≤ m ∧ m ≤ lim then Md.pure (rgD m (n - m).toNat) else Md.stuck
  | _, _ => Md.stuck
theorem range_walk {K : PySem.W.Frag} {mg : Str → Option Value} {S : Hp → Hp → Prop} (hS : ∀ F H, S F H → Le F H) (lo : Int) (n : Nat) : DWalk K mg S (Itr lo n) (rgD lo n) := by
  refine ⟨_, _, (by rw [rgD_length]; exact walk_range), fun _ _ _ => trivial, fun i x F H H' hi s y => ?_⟩
  obtain ⟨rfl, rfl⟩ := y
  exact ⟨F, _, rgD_get (by rw [rgD_length] at hi; exact hi), Ext.refl (hS _ _ s), rfl⟩
theorem di_range1 {p : Pos} (hm : X.mg "range" = none) (ha : DE X C a fa) (hg : Gl X "range" := by rfl) (hs : starEach [a] X.env = [(false, eval a X.env)] := by rfl) : DI X C tg (.Call (.Name "range" p) [a] [] pos) (iR1 fa) := by
  refine PI.imp (pi_range1 hg hm (pa_cons ha pa_nil hs) hs) fun σ H R ⟨F, δ, st, w, q⟩ => ?_
  refine ⟨F, δ, st, w, (PostG.bind q).imp fun d st1 F1 H1 x1 w1 q1 v r => ?_⟩
  cases d with
  | int n =>
    cases r
    have q2 : PostG X.K X.mg C σ δ F1 H1 ((if -1000 ≤ n ∧ n ≤ lim then Md.pure (rgD 0 n.toNat) else Md.stuck) st1) _ := q1
    split at q2
    · rename_i hn
      have hn' : -1000 ≤ n ∧ n ≤ 1000000 := hn
      exact ⟨n, rfl, by omega, by omega, PostG.pure q2 w1 _ (range_walk (fun _ _ s => s.2) 0 n.toNat)⟩
    · exact q2.elim
  | non => exact q1.elim
  | bl _ => exact q1.elim
  | str _ => exact q1.elim
  | tup _ => exact q1.elim
  | lst _ => exact q1.elim
  | dic _ _ => exact q1.elim
  | obj _ _ _ => exact q1.elim
  | ref _ => exact q1.elim
theorem di_range2 {p : Pos} (hm : X.mg "range" = none) (ha : DE X C a fa) (hb : DE X C b fb) (hg : Gl X "range" := by rfl) (hs : starEach [a, b] X.env = [(false, eval a X.env), (false, eval b X.env)] := by rfl) (hs2 : starEach [b] X.env = [(false, eval b X.env)] := by rfl) :
    DI X C tg (.Call (.Name "range" p) [a, b] [] pos) (iR2 fa fb) := by
  refine PI.imp (pi_range2 hg hm (pa_cons ha (pa_cons hb pa_nil hs2) (by rw [hs, hs2])) hs hs2) fun σ H R ⟨F, δ, st, w, q⟩ => ?_
  refine ⟨F, δ, st, w, (PostG.bind q).imp fun d st1 F1 H1 x1 w1 q1 v r => ?_⟩
  refine ⟨F1, δ, st1, w1, (PostG.bind q1).imp fun d2 st2 F2 H2 x2 w2 q2 v2 r2 => ?_⟩
  cases d with
  | int m =>
    cases d2 with
    | int n =>
      cases r
      cases r2
      have q3 : PostG X.K X.mg C σ δ F2 H2 ((if -1000 ≤ n ∧ n ≤ lim ∧ -1000 ≤ m ∧ m ≤ lim then Md.pure (rgD m (n - m).toNat) else Md.stuck) st2) _ := q2
      split at q3
      · rename_i hn
        have hn' : -1000 ≤ n ∧ n ≤ 1000000 ∧ -1000 ≤ m ∧ m ≤ 1000000 := hn
        exact ⟨m, n, rfl, ⟨by omega, by omega, by omega, by omega⟩, PostG.pure q3 w2 _ (range_walk (fun _ _ s => s.2) m (n - m).toNat)⟩
      · exact q3.elim
    | _ => exact q2.elim
  | _ => cases d2 <;> exact q2.elim
/-! ### for -/
def forL (g : GD) (body : DEnv → Md Fl) : List D → DEnv → Md Fl
  | [], δ => Md.pure (.nx δ)
  | d :: ds, δ => match g d δ with
    | none => Md.stuck
    | some δ1 => Md.bind (body δ1) fun fl => match fl with
      | .nx δ2 => forL g body ds δ2
      | .ct δ2 => forL g body ds δ2
      | .bk δ2 => Md.pure (.nx δ2)
      | .rt d => Md.pure (.rt d)
def sFor (f : DEnv → Md (List D)) (g : GD) (body : DEnv → Md Fl) : DEnv → Md Fl := fun δ => Md.bind (f δ) fun ds => forL g body ds δ
theorem ds_for {iter : Expr} {body : List Stmt} {is : List Nat} {g : GD} {fb : DEnv → Md Fl} (hp : PassesOwn (model X.prog X.w) X.A X.env X.xe) (hc : X.calm = true) (hi : DI X C tg iter f) (hg : DG X C tg is g) (hb : DSs X C body fb)
    (hs : ∀ x, foldedSetIterable iter X.env x = pure x := by intro _; rfl) : DS X C (.For tg iter body [] pos) (sFor f g fb) := by
  refine PS.imp (ps_for hp hc hi hg hb hs) fun E σ H ⟨F, δ, st, w, p⟩ => ?_
  refine ⟨F, δ, st, w, (PostG.ofS p).imp fun ds st1 F1 H1 x1 w1 q J dw => ?_⟩
  obtain ⟨G, Y, w0, hG, hY⟩ := dw
  refine for_it w0 (fun i σ2 H2 => ∃ F2 δ2 st2, Ws X.K X.mg C σ2 δ2 st2 F2 H2 ∧ Le F1 F2 ∧ PostS X.K X.mg C F2 (forL g fb (ds.drop i) δ2 st2) E) ⟨F1, δ, st1, w1, Le.refl, q⟩
    (fun i σ2 H2 hi ⟨F2, δ2, st2, w2, l2, _⟩ => hG F2 H2 ⟨l2, w2.sub⟩) (fun i x σ2 H2 H3 hi ⟨F2, δ2, st2, w2, l2, q2⟩ y => ?_) (fun σ2 H2 ⟨F2, δ2, st2, w2, l2, q2⟩ => ?_)
  · obtain ⟨F3, d, ed, x3, r3⟩ := hY i x F2 H2 H3 hi ⟨l2, w2.sub⟩ y
    have edr : ds.drop i = d :: ds.drop (i + 1) := by
      rw [List.drop_eq_getElem_cons hi]
      rw [List.getElem?_eq_getElem hi] at ed
      cases ed; rfl
    rw [edr] at q2
    unfold forL at q2
    have w3 := w2.step x3
    cases eg : g d δ2 with
    | none => rw [eg] at q2; exact q2.elim
    | some δ3 =>
      rw [eg] at q2
      refine ⟨F3, d, δ2, δ3, st2, w3, r3, eg, fun σ3 a3 w4 => ⟨F3, δ3, st2, w4, ?_⟩⟩
      have q3 : PostS X.K X.mg C F3 ((fb δ3 st2).bind fun fl => match fl with
        | .nx δ2 => forL g fb (ds.drop (i + 1)) δ2
        | .ct δ2 => forL g fb (ds.drop (i + 1)) δ2
        | .bk δ2 => Md.pure (.nx δ2)
        | .rt d => Md.pure (.rt d)) E := PostS.le q2 x3.le
      have l3 := l2.trans x3.le
      cases er : fb δ3 st2 with
      | ok fl st4 =>
        rw [er] at q3
        cases fl with
        | nx δ4 => exact fun σ' F' H' l' w' => ⟨F', δ4, st4, w', l3.trans l', PostS.le q3 l'⟩
        | ct δ4 => exact fun σ' F' H' l' w' => ⟨F', δ4, st4, w', l3.trans l', PostS.le q3 l'⟩
        | bk δ4 => exact q3
        | rt d4 => exact q3
      | err c w4 st4 => rw [er] at q3; exact q3
      | stuck => rw [er] at q3; exact q3
  · rw [List.drop_length] at q2
    exact q2 σ2 F2 H2 Le.refl w2
/-! ### while -/
def whileN (c : DEnv → Md Bool) (body : DEnv → Md Fl) : Nat → DEnv → Md Fl
  | 0, _ => Md.stuck
  | n + 1, δ => Md.bind (c δ) fun b => if b = true then Md.bind (body δ) fun fl => match fl with
      | .nx δ2 => whileN c body n δ2
      | .ct δ2 => whileN c body n δ2
      | .bk δ2 => Md.pure (.nx δ2)
      | .rt d => Md.pure (.rt d)
    else Md.pure (.nx δ)
theorem ds_while (n : Nat) {c : Expr} {body : List Stmt} {fc : DEnv → Md Bool} {fb : DEnv → Md Fl} (hp : PassesOwn (model X.prog X.w) X.A X.env X.xe) (hc : DT X C c fc) (hb : DSs X C body fb) : DS X C (.While c body [] pos) (whileN fc fb n) := by
  refine PS.imp (ps_while hp hc hb) fun E σ H ⟨F, δ, st, w, p⟩ => ?_
  refine ⟨fun m σ2 H2 => ∃ F2 δ2 st2, Ws X.K X.mg C σ2 δ2 st2 F2 H2 ∧ PostS X.K X.mg C F2 (whileN fc fb m δ2 st2) E, ⟨n, F, δ, st, w, p⟩, ?_⟩
  rintro m σ2 H2 ⟨F2, δ2, st2, w2, p2⟩
  cases m with
  | zero => exact p2.elim
  | succ m =>
    refine ⟨F2, δ2, st2, w2, (PostG.ofS (σ := σ2) (δ := δ2) (H := H2) p2).imp fun b st3 F3 H3 x3 w3 q => ?_⟩
    cases b with
    | false => rw [if_neg Bool.false_ne_true] at q ⊢; exact q σ2 F3 H3 Le.refl w3
    | true =>
      rw [if_pos rfl] at q ⊢
      refine ⟨fun σ' H' => ∃ F2 δ2 st2, Ws X.K X.mg C σ' δ2 st2 F2 H' ∧ PostS X.K X.mg C F2 (whileN fc fb m δ2 st2) E, fun σ' H' h => ⟨m, Nat.lt_succ_self m, h⟩, F3, δ2, st3, w3, ?_⟩
      have q3 : PostS X.K X.mg C F3 ((fb δ2 st3).bind _) E := q
      cases er : fb δ2 st3 with
      | ok fl st4 =>
        rw [er] at q3
        cases fl with
        | nx δ4 => exact fun σ' F' H' l' w' => ⟨F', δ4, st4, w', PostS.le q3 l'⟩
        | ct δ4 => exact fun σ' F' H' l' w' => ⟨F', δ4, st4, w', PostS.le q3 l'⟩
        | bk δ4 => exact q3
        | rt d4 => exact q3
      | err c w4 st4 => rw [er] at q3; exact q3
      | stuck => rw [er] at q3; exact q3
/-! ### comprehensions -/
abbrev Ctx.nox (C : Ctx) : Ctx := { C with W := fun _ _ _ _ => False }
theorem Ws.nox {K : PySem.W.Frag} {mg : Str → Option Value} {σ : L2.St} {δ : DEnv} {st : Option Dr} {F H : Hp} (w : Ws K mg C σ δ st F H) : Ws K mg C.nox σ δ st F H := ⟨w.ext, w.muv, w.sl, w.val, w.own, w.owd, w.inj, w.dr⟩
theorem Ws.unnox {K : PySem.W.Frag} {mg : Str → Option Value} {σ : L2.St} {δ : DEnv} {st : Option Dr} {F H : Hp} (w : Ws K mg C.nox σ δ st F H) : Ws K mg C σ δ st F H := ⟨w.ext, w.muv, w.sl, w.val, w.own, w.owd, w.inj, w.dr⟩
def wipeD (δ : DEnv) : List Nat → DEnv
  | [] => δ
  | v :: vs => (wipeD δ vs).set v .un
theorem wipeD_length (δ : DEnv) : ∀ vs : List Nat, (wipeD δ vs).length = δ.length
  | [] => rfl
  | v :: vs => by unfold wipeD; rw [List.length_set, wipeD_length δ vs]
theorem wipeD_get {δ : DEnv} {i : Nat} {s : Slot} : ∀ {vs : List Nat}, (wipeD δ vs)[i]? = some s → s ≠ .un → i ∉ vs ∧ δ[i]? = some s
  | [], h, _ => ⟨by simp, h⟩
  | v :: vs, h, n => by
    unfold wipeD at h
    by_cases e : v = i
    · subst e
      rw [List.getElem?_set, if_pos rfl] at h
      split at h
      · cases h; exact absurd rfl n
      · cases h
    · rw [List.getElem?_set_ne e] at h
      obtain ⟨h1, h2⟩ := wipeD_get h n
      exact ⟨by simp only [List.mem_cons, not_or]; exact ⟨fun q => e q.symm, h1⟩, h2⟩
theorem wipe_in {σ : L2.St} {i : Nat} : ∀ {vs : List Nat}, i ∈ vs → (wipe σ vs)[i]? = if i < σ.length then some none else none
  | [], h => by simp at h
  | v :: vs, h => by
    unfold wipe
    rw [List.getElem?_set]
    by_cases e : v = i
    · subst e; rw [if_pos rfl, wipe_length]
    · rw [if_neg e]
      exact wipe_in ((List.mem_cons.mp h).elim (fun z => absurd z.symm e) id)
theorem wipe_agree {σ σ' : L2.St} {is vs : List Nat} (a : Agree is (wipe σ vs) σ') (h : ∀ i ∈ is, i ∈ vs) : wipe σ' vs = wipe σ vs := by
  refine List.ext_getElem? fun j => ?_
  have hl : σ'.length = σ.length := by rw [a.1, wipe_length]
  by_cases hj : j ∈ vs
  · rw [wipe_in hj, wipe_in hj, hl]
  · rw [wipe_out hj, wipe_out hj, a.2 j (fun z => hj (h j z)), wipe_out hj]
theorem Ws.wipe {K : PySem.W.Frag} {mg : Str → Option Value} {σ : L2.St} {δ : DEnv} {st : Option Dr} {F H : Hp} (w : Ws K mg C σ δ st F H) (vs : List Nat) : Ws K mg C (L2.wipe σ vs) (wipeD δ vs) st F H :=
  w.weak (by rw [wipeD_length, wipe_length, w.sl]) fun i s h n => by
    obtain ⟨h1, h2⟩ := wipeD_get h n
    exact ⟨h2, wipe_out h1⟩
def bindS {α β : Type} (f : Md α) (g : α → Md β) : Md β := fun st => match f st with
  | .ok a st' => g a st'
  | _ => .stuck
/-- the turns of a comprehension; an error within is not told -/
def compA (g : GD) (t : DEnv → Md Bool) (e : DEnv → Md D) (δ : DEnv) : List D → List D → Md (List D)
  | [], acc => Md.pure acc
  | d :: ds, acc => match g d δ with
    | none => Md.stuck
    | some δ1 => bindS (t δ1) fun b => if b = true then bindS (e δ1) fun y => compA g t e δ ds (acc ++ [y]) else compA g t e δ ds acc
def eComp (vs : List Nat) (f : DEnv → Md (List D)) (g : GD) (t : DEnv → Md Bool) (e : DEnv → Md D) : DEnv → Md (List D) := fun δ => Md.bind (f δ) fun ds => if ds.length ≤ lim then compA g t e (wipeD δ vs) ds [] else Md.stuck
def tYesD : DEnv → Md Bool := fun _ => Md.pure true
structure DTs (X : Cx) (C : Ctx) (ifs : List Expr) (f : DEnv → Md Bool) : Prop where
  run : PTs X ifs (tT X.K X.mg C f)
theorem dts_nil : DTs X C [] tYesD := ⟨⟨fun pins s σ H Q I ⟨F, δ, st, w, p⟩ => pts_nil.run pins s σ H Q I (PostG.pure p w)⟩⟩
theorem dts_one {c : Expr} {t : DEnv → Md Bool} (h : DT X C c t) : DTs X C [c] t := ⟨pts_one h⟩
theorem PostG.bindS {K : PySem.W.Frag} {mg : Str → Option Value} {σ : L2.St} {δ : DEnv} {F H : Hp} {α β : Type} {r : Md α} {st : Option Dr} {g : α → Md β} {P : Res β → Prop} (hP : ¬ P .stuck) (p : P (bindS r g st)) :
    PostG K mg C.nox σ δ F H (r st) fun a st1 F1 H1 => P (g a st1) := by
  unfold DL.bindS at p
  cases e : r st with
  | ok a st' => rw [e] at p; exact fun _ _ _ _ => p
  | err c w st' => rw [e] at p; exact absurd p hP
  | stuck => rw [e] at p; exact absurd p hP
/-- as bind, the end is asked at the start -/
theorem PostG.bind' {K : PySem.W.Frag} {mg : Str → Option Value} {σ : L2.St} {δ : DEnv} {F H : Hp} {α β : Type} {r : Res α} {g : α → Md β} {k : β → Option Dr → Hp → Hp → Prop} (p : PostG K mg C σ δ F H (r.bind g) k) :
    PostG K mg C σ δ F H r fun a st1 _ _ => PostG K mg C σ δ F H (g a st1) k := by
  cases r with
  | ok a st => exact fun _ _ _ _ => p
  | err c w st => exact p
  | stuck => exact p
theorem Ws.ownNe {K : PySem.W.Frag} {mg : Str → Option Value} {σ : L2.St} {δ : DEnv} {st : Option Dr} {F H : Hp} (w : Ws K mg C σ δ st F H) {A : Addr} (n : H A = none) (j : Nat) (s : Slot) (e : δ[j]? = some s) (o : s.isOwn = true) : σ[j]? ≠ some (some (V.ref A)) := fun z => by
  cases s with
  | un => cases o
  | val d => cases o
  | own es =>
    obtain ⟨b, us, e1, e2, _⟩ := w.own j es e
    rw [e1] at z; cases z
    rw [n] at e2; cases e2
  | owd ks ws =>
    obtain ⟨b, us, e1, e2, _⟩ := w.owd j ks ws e
    rw [e1] at z; cases z
    rw [n] at e2; cases e2
/-- an object that no slot owns is changed -/
theorem Ws.updNew {K : PySem.W.Frag} {mg : Str → Option Value} {σ : L2.St} {δ : DEnv} {st : Option Dr} {F H : Hp} (w : Ws K mg C σ δ st F H) {A : Addr} {o o' : HO} (h : H A = some o') (f : F A = none) (h0 : C.H0 A = none)
    (hn : ∀ (j : Nat) (s : Slot), δ[j]? = some s → s.isOwn = true → σ[j]? ≠ some (some (V.ref A))) : Ws K mg C σ δ st F (upd H A o) where
  ext := ⟨w.ext.le, le_updR w.sub f, w.ext.new, fun b u m e => by
    have q : b ≠ A := fun z => by subst z; rw [h0] at e; cases e
    rw [upd_ne q]; exact w.ext.keep b u m e, fun b e => by
    by_cases q : b = A
    · subst q; rw [upd_same]; simp
    · rw [upd_ne q]; exact w.ext.there b e⟩
  muv := w.muv
  sl := w.sl
  val := w.val
  own := fun j ds e => by
    obtain ⟨a, vs, e1, g1, g2⟩ := w.own j ds e
    have q : a ≠ A := fun z => hn j _ e rfl (by rw [e1, z])
    exact ⟨a, vs, e1, by rw [upd_ne q]; exact g1, g2⟩
  owd := fun j ks ws e => by
    obtain ⟨a, u, e1, g1, g2⟩ := w.owd j ks ws e
    have q : a ≠ A := fun z => hn j _ e rfl (by rw [e1, z])
    exact ⟨a, u, e1, by rw [upd_ne q]; exact g1, g2⟩
  inj := w.inj
  dr := by
    have d := w.dr
    cases st with
    | none => trivial
    | some z =>
      obtain ⟨m, as, e1, e2, e3⟩ := d
      have q : C.ad ≠ A := fun z => (w.muv _ m).2 (by rw [z]; exact h0)
      exact ⟨m, as, by rw [upd_ne q]; exact e1, e2, e3⟩
theorem Ext.updAt {mu : Addr → Prop} {F H F1 H1 : Hp} (x : Ext mu F H F1 H1) {A : Addr} {o : HO} (n : H A = none) (f : F1 A = none) : Ext mu F H F1 (upd H1 A o) where
  le := x.le
  sub := le_updR x.sub f
  new := x.new
  keep := fun b u m e => by rw [upd_ne (ne_of_none e n)]; exact x.keep b u m e
  there := fun b e => by
    by_cases q : b = A
    · subst q; rw [upd_same]; simp
    · rw [upd_ne q]; exact x.there b e
theorem dn_lc {elt iter : Expr} {ifs : List Expr} {scope : Scope} {own : List (Str × Nat)} {is : List Nat} {g : GD} {t : DEnv → Md Bool} {fe : DEnv → Md D} (own_ : own = own) (hc : X.calm = true) (hN : X.N.Nodup) (hi : DJ X C tg iter f) (ok : BlkOk X.N X.env.scope scope own)
    (hg : ∀ (s : Shared) (H : Hp) (D : Addr) (cl : List (Str × Addr)) (fp : List Addr), DG (X.blk s H scope (compEnvC scope cl D X.env) fp) C.nox tg is g)
    (ht : ∀ (s : Shared) (H : Hp) (D : Addr) (cl : List (Str × Addr)) (fp : List Addr), DTs (X.blk s H scope (compEnvC scope cl D X.env) fp) C.nox ifs t)
    (he : ∀ (s : Shared) (H : Hp) (D : Addr) (cl : List (Str × Addr)) (fp : List Addr), DE (X.blk s H scope (compEnvC scope cl D X.env) fp) C.nox elt fe)
    (his : ∀ i ∈ is, i ∈ own.map (·.2) := by decide) (hs : ∀ x, foldedSetIterable iter X.env x = pure x := by intro _; rfl) :
    DN X C (.ListComp elt [⟨tg, iter, ifs, 0⟩] scope pos) (eComp (own.map (·.2)) f g t fe) := by
  have hg' : ∀ (s : Shared) (H : Hp) (D : Addr) (cl : List (Str × Addr)) (fp : List Addr), PG (X.blk s H scope (compEnvC scope cl D X.env) fp) tg (gD X.K X.mg C.nox is g) := hg
  have ht' : ∀ (s : Shared) (H : Hp) (D : Addr) (cl : List (Str × Addr)) (fp : List Addr), PTs (X.blk s H scope (compEnvC scope cl D X.env) fp) ifs (tT X.K X.mg C.nox t) := fun s H D cl fp => (ht s H D cl fp).run
  have he' : ∀ (s : Shared) (H : Hp) (D : Addr) (cl : List (Str × Addr)) (fp : List Addr), PE (X.blk s H scope (compEnvC scope cl D X.env) fp) elt (tE X.K X.mg C.nox fe) := he
  refine PE.imp (pe_lc hc hN hi ok hg' ht' he' hs) fun σ H Q ⟨F, δ, st, w, p⟩ => ?_
  refine ⟨F, δ, st, w, (PostG.bind' p).imp fun ds st1 F1 H1 x1 w1 p1 J dw A hA => ?_⟩
  obtain ⟨hz, p1⟩ : ds.length ≤ lim ∧ PostG X.K X.mg C σ δ F H (compA g t fe (wipeD δ (own.map (·.2))) ds [] st1) _ := by
    by_cases hz : ds.length ≤ lim
    · rw [if_pos hz] at p1; exact ⟨hz, p1⟩
    · rw [if_neg hz] at p1; exact p1.elim
  obtain ⟨G, Y, w0, hG, hY⟩ := dw
  have hHA : H A = none := gone x1 hA
  have wA := w1.step (Ext.tmp (mu := fun _ => False) (o := .lst []) w1.sub hA)
  have xA : Ext C.mu F1 H1 F1 (upd H1 A (.lst [])) := Ext.tmp w1.sub hA
  have h0A : C.H0 A = none := gone w1.ext hA
  refine lc_it w0 (fun i H2 => ∃ F2 st2 acc vs, Ws X.K X.mg C σ δ st2 F2 H2 ∧ Ext C.mu F1 H1 F2 H2 ∧ H2 A = some (.lst vs) ∧ F2 A = none ∧ Reps X.K X.mg F2 acc vs ∧ acc.length ≤ i ∧
      PostG X.K X.mg C σ δ F H (compA g t fe (wipeD δ (own.map (·.2))) (ds.drop i) acc st2) fun ds _ F' H' => ∀ a vs, H a = none → H' a = some (HO.lst vs) → F' a = none → Reps X.K X.mg F' ds vs → Q (.ref a) H')
    ⟨F1, st1, [], [], wA, xA, upd_same, w1.sub.none hA, rfl, Nat.le_refl _, p1⟩ (fun i H2 hi ⟨F2, st2, acc, vs, w2, x2, _⟩ => hG F2 H2 x2)
    (fun i x H2 H3 hi ⟨F2, st2, acc, vs, w2, x2, a2, f2, r2, l2, q2⟩ y => ?_) (fun H2 ⟨F2, st2, acc, vs, w2, x2, a2, f2, r2, l2, q2⟩ => ?_)
  · obtain ⟨F3, d, ed, x3, r3⟩ := hY i x F2 H2 H3 hi x2 y
    have edr : ds.drop i = d :: ds.drop (i + 1) := by
      rw [List.drop_eq_getElem_cons hi]
      rw [List.getElem?_eq_getElem hi] at ed
      cases ed; rfl
    rw [edr] at q2
    unfold compA at q2
    have w3 := (w2.step x3).wipe (own.map (·.2))
    have a3 : H3 A = some (.lst vs) := x3.keep _ _ (fun z => z) a2
    have f3 : F3 A = none := x3.new _ f2 (by rw [a2]; simp)
    cases eg : g d (wipeD δ (own.map (·.2))) with
    | none => rw [eg] at q2; exact q2.elim
    | some δ3 =>
      rw [eg] at q2
      refine ⟨F3, d, _, δ3, st2, w3.nox, r3, eg, fun σ3 ag w4 => ⟨wipe_agree ag his, F3, δ3, st2, w4, ?_⟩⟩
      refine (PostG.bindS (C := C) (P := fun r => PostG X.K X.mg C σ δ F H r _) (fun z => z) q2).imp fun b st5 F5 H5 x5 w5 q5 => ?_
      have nm : ¬ C.mu A := w1.nomu h0A
      have a5 : H5 A = some (.lst vs) := x5.keep _ _ nm a3
      have f5 : F5 A = none := x5.new _ f3 (by rw [a3]; simp)
      have back : ∀ {F6 H6 st6}, Ext C.mu F3 H3 F6 H6 → DrOk X.K C.mu C.ad st6 F6 H6 → Ws X.K X.mg C σ δ st6 F6 H6 := fun {F6 H6 st6} xx dd => (w2.step x3).step' xx dd
      cases b with
      | false =>
        rw [if_neg Bool.false_ne_true] at q5
        refine iteF ?_
        exact ⟨F5, st5, acc, vs, back x5 w5.dr, (x2.trans x3.weak).trans x5, a5, f5, Reps.le (x3.le.trans x5.le) _ _ r2, Nat.le_succ_of_le l2, q5⟩
      | true =>
        rw [if_pos rfl] at q5
        refine iteT ?_
        refine ⟨F5, δ3, st5, w5, ?_⟩
        refine (PostG.bindS (C := C) (P := fun r => PostG X.K X.mg C σ δ F H r _) (fun z => z) q5).imp fun yd st6 F6 H6 x6 w6 q6 yv ry => ?_
        have a6 : H6 A = some (.lst vs) := x6.keep _ _ nm a5
        have f6 : F6 A = none := x6.new _ f5 (by rw [a5]; simp)
        have w7 := back (x5.trans x6) w6.dr
        have x7 : Ext C.mu F1 H1 F6 H6 := ((x2.trans x3.weak).trans x5).trans x6
        have r6 : Reps X.K X.mg F6 acc vs := Reps.le (x3.le.trans (x5.le.trans x6.le)) _ _ r2
        have hl : vs.length < sizeLine := by
          rw [r2.length]
          have : acc.length < lim := Nat.lt_of_le_of_lt l2 (Nat.lt_of_lt_of_le hi hz)
          exact Nat.lt_of_lt_of_le this lim_le
        refine ⟨vs, a6, hl, F6, st6, acc ++ [yd], vs ++ [yv], ?_, ?_, upd_same, f6, r6.append (.one ry), by rw [List.length_append]; exact Nat.succ_le_succ l2, q6⟩
        · exact w7.updNew a6 f6 h0A fun j s e o z => by
            have := w1.ownNe hA j s e o
            exact this z
        · exact x7.updAt hA f6
  · rw [List.drop_length] at q2
    exact q2 F2 H2 (x1.trans x2) w2 A vs hHA a2 f2 r2
end
end DL

set_option Elab.async false
set_option linter.all false
set_option maxRecDepth 100000
set_option maxHeartbeats 4000000
namespace DL
open PySem PySem.Spec PyProof.Rows L2
/-! ### defs -/
def spF (K : PySem.W.Frag) (mg : Str → Option Value) (n : Nat) (f : List D → Md D) : Sp := fun vs H Q E => vs.length = n ∧ ∃ (mu : Addr → Prop) (ad : Addr) (F : Hp) (ds : List D) (st : Option Dr),
  Le F H ∧ Reps K mg F ds vs ∧ (∀ b, mu b → F b = none ∧ H b ≠ none) ∧ DrOk K mu ad st F H ∧ match f ds st with
    | .ok d st' => ∀ v F' H', Ext mu F H F' H' → DrOk K mu ad st' F' H' → Rep K mg F' d v → Q v H'
    | .err c w st' => ∀ cls dd F' H', Ext mu F H F' H' → DrOk K mu ad st' F' H' → Exc mg c w cls dd H' → E cls dd H'
    | .stuck => False
abbrev DF (P : Program) (w : World) (K : PySem.W.Frag) (mg : Str → Option Value) (base : Heap) (k : Nat) (f : Addr) (fd : FuncData) (ps : List Str) (g : List D → Md D) : Prop :=
  FnOk P w K mg base (L2.CX P w) k f fd ps (spF K mg ps.length g)
def startD (n : Nat) (ds : List D) : DEnv := ds.map Slot.val ++ List.replicate (n - ds.length) Slot.un
def runF (n : Nat) (g : DEnv → Md Fl) : List D → Md D := fun ds => Md.bind (g (startD n ds)) fun fl => match fl with
  | .nx _ => Md.pure .non
  | .rt d => Md.pure d
  | _ => Md.stuck
theorem ws_start {K : PySem.W.Frag} {mg : Str → Option Value} {mu : Addr → Prop} {ad : Addr} {W : WX} {F H : Hp} {ds : List D} {vs : List V} {st : Option Dr} {N : List Str} (l : Le F H) (r : Reps K mg F ds vs) (m : ∀ b, mu b → F b = none ∧ H b ≠ none) (d : DrOk K mu ad st F H) :
    Ws K mg ⟨F, H, mu, ad, W⟩ (L2.start N vs) (startD N.length ds) st F H where
  ext := Ext.refl l
  muv := m
  sl := by
    unfold L2.start startD
    rw [List.length_append, List.length_append, List.length_map, List.length_map, List.length_replicate, List.length_replicate, r.length]
  val := fun i d e => by
    unfold startD at e
    unfold L2.start
    by_cases h : i < ds.length
    · rw [List.getElem?_append_left (by rw [List.length_map]; exact h), List.getElem?_map] at e
      rw [List.getElem?_append_left (by rw [List.length_map, r.length]; exact h), List.getElem?_map]
      cases e2 : ds[i]? with
      | none => rw [e2] at e; cases e
      | some d' =>
        rw [e2] at e; cases e
        obtain ⟨v, h1, h2⟩ := r.get' e2
        exact ⟨v, by rw [h1]; rfl, h2⟩
    · rw [List.getElem?_append_right (by rw [List.length_map]; omega), List.getElem?_replicate] at e
      split at e <;> cases e
  own := fun i d e => by
    unfold startD at e
    by_cases h : i < ds.length
    · rw [List.getElem?_append_left (by rw [List.length_map]; exact h), List.getElem?_map] at e
      cases e2 : ds[i]? with
      | none => rw [e2] at e; cases e
      | some d' => rw [e2] at e; cases e
    · rw [List.getElem?_append_right (by rw [List.length_map]; omega), List.getElem?_replicate] at e
      split at e <;> cases e
  owd := fun i d d2 e => by
    unfold startD at e
    by_cases h : i < ds.length
    · rw [List.getElem?_append_left (by rw [List.length_map]; exact h), List.getElem?_map] at e
      cases e2 : ds[i]? with
      | none => rw [e2] at e; cases e
      | some d' => rw [e2] at e; cases e
    · rw [List.getElem?_append_right (by rw [List.length_map]; omega), List.getElem?_replicate] at e
      split at e <;> cases e
  inj := fun i j s t a e e2 o o2 _ _ => by
    unfold startD at e
    by_cases h : i < ds.length
    · rw [List.getElem?_append_left (by rw [List.length_map]; exact h), List.getElem?_map] at e
      cases e2 : ds[i]? with
      | none => rw [e2] at e; cases e
      | some d' => rw [e2] at e; cases e; cases o
    · rw [List.getElem?_append_right (by rw [List.length_map]; omega), List.getElem?_replicate] at e
      split at e <;> cases e
      cases o
  dr := d
theorem df_of {P : Program} {w : World} {K : PySem.W.Frag} {mg : Str → Option Value} {base : Heap} {x qual : Str} {st : Stmt} {f : Addr} {fd : FuncData} {N ps : List Str} {k : Nat} {g : DEnv → Md Fl} (Fn : Fun K x qual st f fd) (S : FnScope N ps (defScope st))
    (hb : ∀ (cdv : Value) (A : Around) (outer : List Env) (s : Shared) (H : Hp) (E : XK) (C : Ctx), C.W = (fun cls d _ H => E cls d H) → Room k (A.deeper (envOfC qual (defScope st) s.heap.objs.size f cdv)) →
      Takes (cxOf (L2.CX P w) P w K mg base N qual (defScope st) f cdv A outer s H E) C.W → DSs (cxOf (L2.CX P w) P w K mg base N qual (defScope st) f cdv A outer s H E) C (defBody st) g) :
    DF P w K mg base (k + 1) f fd ps (runF N.length g) := by
  refine Fn.okX S (fun vs H Q E h => h.1) (fun cdv A outer s H vs Q E hr h => ?_)
  obtain ⟨hl, mu, ad, F, ds, st0, l, r, m, d, q⟩ := h
  refine ⟨_, hb cdv A outer s H E ⟨F, H, mu, ad, fun cls d _ H => E cls d H⟩ rfl hr (takes_of rfl rfl rfl rfl), F, startD N.length ds, st0, ws_start l r m d, ?_⟩
  unfold runF Md.bind at q
  cases e : g (startD N.length ds) st0 with
  | ok fl st' =>
    rw [e] at q
    cases fl with
    | nx δ' => exact fun σ' F' H' _ w' => q _ F' H' w'.ext w'.dr rfl
    | rt d => exact q
    | bk δ' => exact q.elim
    | ct δ' => exact q.elim
  | err c w' st' =>
    rw [e] at q
    exact fun cls dd σ' δ' F' H' w2 z => q cls dd F' H' w2.ext w2.dr z
  | stuck => rw [e] at q; exact q.elim
/-- a call of a def that draws nothing -/
def eCall (n : Nat) (g : List D → Md D) (fs : DEnv → Md (List D)) : DEnv → Md D := fun δ => Md.bind (fs δ) fun ds st => if ds.length = n then match g ds none with
    | .ok d _ => .ok d st
    | .err c w _ => .err c w st
    | .stuck => .stuck
  else .stuck
/-- of one that may draw -/
def eCallS (n : Nat) (g : List D → Md D) (fs : DEnv → Md (List D)) : DEnv → Md D := fun δ => Md.bind (fs δ) fun ds => if ds.length = n then g ds else Md.stuck
section
variable {X : Cx} {C : Ctx} {e a b : Expr} {fa fb : DEnv → Md D} {pos : Pos} {k : Nat} {f : Addr} {fd : FuncData} {ps : List Str} {x : Str} {p : Pos} {es : List Expr} {g : List D → Md D} {fs : DEnv → Md (List D)}
theorem de_call' (Fn : DF X.prog X.w X.K X.mg X.base k f fd ps g) (hr : Room k X.A) (hm : X.mg x = some (.ref f)) (hk : PySem.W.keepIn X.K (.ref f) = true) (hb : Binds X.K fd ps []) (tk : Takes X C.W) (ha : DAr X C (e :: es) fs) (hg : Gl X x := by rfl)
    (hdb : (x == ("__debug__" : Str)) = false := by decide) (he : starEach (e :: es) X.env = (false, eval e X.env) :: starEach es X.env := by rfl) (hpl : (backTo pos (starEach es X.env)).any (·.1) = false := by rfl) :
    DE X C (.Call (.Name x p) (e :: es) [] pos) (eCall ps.length g fs) := by
  refine PE.imp (pe_callS (E := WE C.W) Fn hr hg hm hk hb (fun σ => passAt tk σ) ha hdb he hpl) fun σ H Q ⟨F, δ, st, w, q⟩ => ?_
  refine ⟨F, δ, st, w, (PostG.bind q).imp fun ds st1 F1 H1 x1 w1 q1 vs r => ?_⟩
  split at q1
  · rename_i hl
    refine ⟨by rw [r.length]; exact hl, fun _ => False, C.ad, F1, ds, none, w1.sub, r, fun b z => z.elim, trivial, ?_⟩
    cases eg : g ds none with
    | ok d st2 =>
      rw [eg] at q1
      exact fun v F' H' xx _ rr => q1 F' H' xx.weak (w1.step xx) v rr
    | err c w2 st2 =>
      rw [eg] at q1
      exact fun cls dd F' H' xx _ z => q1 cls dd F' H' xx.weak (w1.step xx) z
    | stuck => rw [eg] at q1; exact q1
  · exact q1.elim
theorem de_call {n : Nat} (Fn : DF X.prog X.w X.K X.mg X.base k f fd ps g) (hr : Room k X.A) (hm : X.mg x = some (.ref f)) (hk : PySem.W.keepIn X.K (.ref f) = true) (hb : Binds X.K fd ps []) (tk : Takes X C.W) (ha : DAr X C (e :: es) fs) (hn : ps.length = n := by rfl) (hg : Gl X x := by rfl)
    (hdb : (x == ("__debug__" : Str)) = false := by decide) (he : starEach (e :: es) X.env = (false, eval e X.env) :: starEach es X.env := by rfl) (hpl : (backTo pos (starEach es X.env)).any (·.1) = false := by rfl) :
    DE X C (.Call (.Name x p) (e :: es) [] pos) (eCall n g fs) := by
  subst hn
  exact de_call' Fn hr hm hk hb tk ha hg hdb he hpl
theorem de_callS' (Fn : DF X.prog X.w X.K X.mg X.base k f fd ps g) (hr : Room k X.A) (hm : X.mg x = some (.ref f)) (hk : PySem.W.keepIn X.K (.ref f) = true) (hb : Binds X.K fd ps []) (tk : Takes X C.W) (ha : DAr X C (e :: es) fs) (hg : Gl X x := by rfl)
    (hdb : (x == ("__debug__" : Str)) = false := by decide) (he : starEach (e :: es) X.env = (false, eval e X.env) :: starEach es X.env := by rfl) (hpl : (backTo pos (starEach es X.env)).any (·.1) = false := by rfl) :
    DE X C (.Call (.Name x p) (e :: es) [] pos) (eCallS ps.length g fs) := by
  refine PE.imp (pe_callS (E := WE C.W) Fn hr hg hm hk hb (fun σ => passAt tk σ) ha hdb he hpl) fun σ H Q ⟨F, δ, st, w, q⟩ => ?_
  refine ⟨F, δ, st, w, (PostG.bind q).imp fun ds st1 F1 H1 x1 w1 q1 vs r => ?_⟩
  split at q1
  · rename_i hl
    refine ⟨by rw [r.length]; exact hl, C.mu, C.ad, F1, ds, st1, w1.sub, r, fun b z => ⟨w1.ext.new b (w1.muv b z).1 (w1.muv b z).2, w1.ext.there b (w1.muv b z).2⟩, w1.dr, ?_⟩
    cases eg : g ds st1 with
    | ok d st2 =>
      rw [eg] at q1
      exact fun v F' H' xx dd rr => q1 F' H' xx (w1.step' xx dd) v rr
    | err c w2 st2 =>
      rw [eg] at q1
      exact fun cls dd F' H' xx d2 z => q1 cls dd F' H' xx (w1.step' xx d2) z
    | stuck => rw [eg] at q1; exact q1
  · exact q1.elim
theorem de_callS {n : Nat} (Fn : DF X.prog X.w X.K X.mg X.base k f fd ps g) (hr : Room k X.A) (hm : X.mg x = some (.ref f)) (hk : PySem.W.keepIn X.K (.ref f) = true) (hb : Binds X.K fd ps []) (tk : Takes X C.W) (ha : DAr X C (e :: es) fs) (hn : ps.length = n := by rfl) (hg : Gl X x := by rfl)
    (hdb : (x == ("__debug__" : Str)) = false := by decide) (he : starEach (e :: es) X.env = (false, eval e X.env) :: starEach es X.env := by rfl) (hpl : (backTo pos (starEach es X.env)).any (·.1) = false := by rfl) :
    DE X C (.Call (.Name x p) (e :: es) [] pos) (eCallS n g fs) := by
  subst hn
  exact de_callS' Fn hr hm hk hb tk ha hg hdb he hpl
/-! ### lists of one's own -/
theorem PostG.mapId {K : PySem.W.Frag} {mg : Str → Option Value} {σ : L2.St} {δ : DEnv} {F H : Hp} {α : Type} {r : Res α} {k : α → Option Dr → Hp → Hp → Prop} (p : PostG K mg C σ δ F H r k) :
    PostG K mg C σ δ F H r fun a st1 _ _ => ∀ F' H', Ext C.mu F H F' H' → Ws K mg C σ δ st1 F' H' → k a st1 F' H' := by
  cases r with
  | ok a st => exact fun _ _ _ _ => p
  | err c w st => exact p
  | stuck => exact p
theorem Ws.updOwn {K : PySem.W.Frag} {mg : Str → Option Value} {σ : L2.St} {δ : DEnv} {st : Option Dr} {F H : Hp} {i : Nat} {ds ds' : List D} {A : Addr} {vs vs' : List V} (w : Ws K mg C σ δ st F H) (e : δ[i]? = some (.own ds)) (h1 : σ[i]? = some (some (V.ref A))) (h : H A = some (.lst vs)) (f : F A = none) (h0 : C.H0 A = none)
    (r : Reps K mg F ds' vs') : Ws K mg C σ (δ.set i (.own ds')) st F (upd H A (.lst vs')) where
  ext := ⟨w.ext.le, le_updR w.sub f, w.ext.new, fun b u m e => by
    have q : b ≠ A := fun z => by subst z; rw [h0] at e; cases e
    rw [upd_ne q]; exact w.ext.keep b u m e, fun b e => by
    by_cases q : b = A
    · subst q; rw [upd_same]; simp
    · rw [upd_ne q]; exact w.ext.there b e⟩
  muv := w.muv
  sl := by rw [List.length_set]; exact w.sl
  val := fun j d ej => by
    by_cases q : i = j
    · subst q
      rw [List.getElem?_set, if_pos rfl] at ej
      split at ej <;> cases ej
    · rw [List.getElem?_set_ne q] at ej; exact w.val j d ej
  own := fun j d ej => by
    by_cases q : i = j
    · subst q
      rw [List.getElem?_set, if_pos rfl] at ej
      split at ej <;> cases ej
      exact ⟨A, vs', h1, upd_same, f, h0, r⟩
    · rw [List.getElem?_set_ne q] at ej
      obtain ⟨a, us, e1, g1, g2⟩ := w.own j d ej
      have qa : a ≠ A := fun z => q (w.inj i j _ _ A e ej rfl rfl h1 (by rw [e1, z]))
      exact ⟨a, us, e1, by rw [upd_ne qa]; exact g1, g2⟩
  owd := fun j ks ws ej => by
    by_cases q : i = j
    · subst q
      rw [List.getElem?_set, if_pos rfl] at ej
      split at ej <;> cases ej
    · rw [List.getElem?_set_ne q] at ej
      obtain ⟨a, us, e1, g1, g2⟩ := w.owd j ks ws ej
      have qa : a ≠ A := fun z => q (w.inj i j _ _ A e ej rfl rfl h1 (by rw [e1, z]))
      exact ⟨a, us, e1, by rw [upd_ne qa]; exact g1, g2⟩
  inj := fun j l s t b e1 e2 o1 o2 s1 s2 => by
    have key : ∀ (j : Nat) (s : Slot), (δ.set i (.own ds'))[j]? = some s → s.isOwn = true → ∃ s', δ[j]? = some s' ∧ s'.isOwn = true := fun j s e1 o1 => by
      by_cases q : i = j
      · subst q; exact ⟨_, e, rfl⟩
      · rw [List.getElem?_set_ne q] at e1; exact ⟨s, e1, o1⟩
    obtain ⟨s', e1', o1'⟩ := key j s e1 o1
    obtain ⟨t', e2', o2'⟩ := key l t e2 o2
    exact w.inj j l s' t' b e1' e2' o1' o2' s1 s2
  dr := by
    have d := w.dr
    cases st with
    | none => trivial
    | some z =>
      obtain ⟨m, as, e1, e2, e3⟩ := d
      have q : C.ad ≠ A := fun z => (w.muv _ m).2 (by rw [z]; exact h0)
      exact ⟨m, as, by rw [upd_ne q]; exact e1, e2, e3⟩
/-- x.append(e) -/
def sApp (i : Nat) (f : DEnv → Md D) : DEnv → Md Fl := fun δ => match δ[i]? with
  | some (.own ds) => Md.bind (f δ) fun d => if ds.length < lim then Md.pure (.nx (δ.set i (.own (ds ++ [d])))) else Md.stuck
  | _ => Md.stuck
theorem ds_app (i : Nat) {x : Str} {px ap cp : Pos} (he : DE X C e fa) (hN : X.N[i]? = some x := by rfl) (hv : Vis X.env.scope x := by first | exact Or.inl rfl | exact Or.inr (Or.inl rfl) | exact Or.inr (Or.inr rfl))
    (hd : (x == ("__debug__" : Str)) = false := by decide) (hcd : (x == ("__classdict__" : Str)) = false := by decide)
    (hst : starEach [e] X.env = (false, eval e X.env) :: starEach [] X.env := by rfl) (hs : swapsWith (.Call (.Attribute (.Name x px) "append" ap) [e] [] cp) none pos.line X.env = pure false := by rfl)
    (hbase : attributeBase (.Name x px) "append" X.env (eval (.Name x px) X.env) = eval (.Name x px) X.env := by rfl)
    (hfew : ((backTo cp (starEach [e] X.env)).all (fun x => !x.1) && (backToKw cp (keywordEach [] X.env)).all (fun x => x.1.isSome)
      && decide (([e] : List Expr).length + ([] : List Keyword).length + (if ([] : List Keyword).isEmpty then 0 else 1) < 30)) = true := by rfl)
    (hline : (ap.endLine == cp.line) = true := by rfl) (hplain : (backTo cp (starEach [] X.env)).any (·.1) = false := by rfl) :
    DS X C (.Expr (.Call (.Attribute (.Name x px) "append" ap) [e] [] cp) pos) (sApp i fa) := by
  refine PS.imp (ps_expr (pe_bm PySem.F.plainAttrs_list PySem.F.slot_list_append PySem.F.type_list_append mt_append (pv i hN hv hd hcd) (pa_cons he pa_nil hst) hbase hfew hline hst hplain) hs) fun E σ H ⟨F, δ, st, w, p⟩ => ?_
  obtain ⟨ds, ed, p⟩ : ∃ ds, δ[i]? = some (Slot.own ds) ∧ PostS X.K X.mg C F (sApp i fa δ st) E := by
    unfold sApp at p ⊢
    cases ed : δ[i]? with
    | none => rw [ed] at p; exact p.elim
    | some s => rw [ed] at p; cases s with
      | own ds => exact ⟨ds, rfl, p⟩
      | un => exact p.elim
      | val _ => exact p.elim
      | owd _ _ => exact p.elim
  unfold sApp at p
  rw [ed] at p
  · skip
    obtain ⟨A, vs, e1, h1, h2, h3, r⟩ := w.own i ds ed
    refine ⟨_, e1, .inl ⟨rfl, _, SqL.of h1⟩, F, δ, st, w, (PostG.ofS p).imp fun d st1 F1 H1 x1 w1 q v rv => ?_⟩
    split at q
    · rename_i hl
      obtain ⟨A', vs', e1', h1', h2', h3', r'⟩ := w1.own i ds ed
      rw [e1] at e1'; cases e1'
      refine ⟨A, vs', v, rfl, rfl, h1', by rw [r'.length]; exact Nat.lt_of_lt_of_le hl lim_le, ?_⟩
      exact q σ F1 _ Le.refl (w1.updOwn ed e1 h1' h2' h3' (r'.append (.one rv)))
    · exact q.elim
/-- x.extend(e), e a list -/
def sExt (i : Nat) (f : DEnv → Md D) : DEnv → Md Fl := fun δ => match δ[i]? with
  | some (.own ds) => Md.bind (f δ) fun d => match d with
    | .lst es => if ds.length + es.length ≤ lim then Md.pure (.nx (δ.set i (.own (ds ++ es)))) else Md.stuck
    | _ => Md.stuck
  | _ => Md.stuck
theorem ds_ext (i : Nat) {x : Str} {px ap cp : Pos} (he : DE X C e fa) (hN : X.N[i]? = some x := by rfl) (hv : Vis X.env.scope x := by first | exact Or.inl rfl | exact Or.inr (Or.inl rfl) | exact Or.inr (Or.inr rfl))
    (hd : (x == ("__debug__" : Str)) = false := by decide) (hcd : (x == ("__classdict__" : Str)) = false := by decide)
    (hst : starEach [e] X.env = (false, eval e X.env) :: starEach [] X.env := by rfl) (hs : swapsWith (.Call (.Attribute (.Name x px) "extend" ap) [e] [] cp) none pos.line X.env = pure false := by rfl)
    (hbase : attributeBase (.Name x px) "extend" X.env (eval (.Name x px) X.env) = eval (.Name x px) X.env := by rfl)
    (hfew : ((backTo cp (starEach [e] X.env)).all (fun x => !x.1) && (backToKw cp (keywordEach [] X.env)).all (fun x => x.1.isSome)
      && decide (([e] : List Expr).length + ([] : List Keyword).length + (if ([] : List Keyword).isEmpty then 0 else 1) < 30)) = true := by rfl)
    (hline : (ap.endLine == cp.line) = true := by rfl) (hplain : (backTo cp (starEach [] X.env)).any (·.1) = false := by rfl) :
    DS X C (.Expr (.Call (.Attribute (.Name x px) "extend" ap) [e] [] cp) pos) (sExt i fa) := by
  refine PS.imp (ps_expr (pe_bm PySem.F.plainAttrs_list PySem.F.slot_list_extend PySem.F.type_list_extend mt_extend (pv i hN hv hd hcd) (pa_cons he pa_nil hst) hbase hfew hline hst hplain) hs) fun E σ H ⟨F, δ, st, w, p⟩ => ?_
  obtain ⟨ds, ed, p⟩ : ∃ ds, δ[i]? = some (Slot.own ds) ∧ PostS X.K X.mg C F (sExt i fa δ st) E := by
    unfold sExt at p ⊢
    cases ed : δ[i]? with
    | none => rw [ed] at p; exact p.elim
    | some s => rw [ed] at p; cases s with
      | own ds => exact ⟨ds, rfl, p⟩
      | un => exact p.elim
      | val _ => exact p.elim
      | owd _ _ => exact p.elim
  unfold sExt at p
  rw [ed] at p
  · skip
    obtain ⟨A, vs, e1, h1, h2, h3, r⟩ := w.own i ds ed
    refine ⟨_, e1, .inl ⟨rfl, _, SqL.of h1⟩, F, δ, st, w, (PostG.ofS p).imp fun d st1 F1 H1 x1 w1 q v rv => ?_⟩
    split at q
    · rename_i es
      split at q
      · rename_i hl
        obtain ⟨A', vs', e1', h1', h2', h3', r'⟩ := w1.own i ds ed
        rw [e1] at e1'; cases e1'
        obtain ⟨B, us, rfl, hB, rB⟩ := rv
        refine ⟨A, B, vs', us, rfl, rfl, h1', w1.sub _ _ hB, by rw [r'.length, rB.length]; exact Nat.le_trans hl lim_le, ?_⟩
        exact q σ F1 _ Le.refl (w1.updOwn ed e1 h1' h2' h3' (r'.append rB))
      · exact q.elim
    · exact q.elim
/-! ### targets that are places of lists -/
def PostM (K : PySem.W.Frag) (mg : Str → Option Value) (C : Ctx) (F : Hp) (r : Res DEnv) (Q : L2.St → Hp → Prop) (P : L2.St → Hp → Value → Option Addr → Prop) : Prop := match r with
  | .ok δ' st' => ∀ σ' F' H', Le F F' → Ws K mg C σ' δ' st' F' H' → Q σ' H'
  | .err c w st' => ∀ cls dd σ' δ' F' H', Ws K mg C σ' δ' st' F' H' → Exc mg c w cls dd H' → C.W cls dd σ' H'
  | .stuck => False
abbrev GM := D → DEnv → Md DEnv
abbrev GMs := List D → DEnv → Md DEnv
def gM (K : PySem.W.Frag) (mg : Str → Option Value) (C : Ctx) (g : GM) : TG := fun v σ H Q => ∃ F d δ st, Ws K mg C σ δ st F H ∧ Rep K mg F d v ∧ PostM K mg C F (g d δ st) Q fun _ _ _ _ => True
def gMs (K : PySem.W.Frag) (mg : Str → Option Value) (C : Ctx) (g : GMs) : TGs := fun v σ H Q => ∃ F d δ st, Ws K mg C σ δ st F H ∧ Reps K mg F d v ∧ PostM K mg C F (g d δ st) Q fun _ _ _ _ => True
abbrev DM (X : Cx) (C : Ctx) (tg : Expr) (g : GM) : Prop := PG X tg (gM X.K X.mg C g)
structure DMs (X : Cx) (C : Ctx) (tgs : List Expr) (n : Nat) (g : GMs) : Prop where
  len : (assignEach tgs X.env).length = n
  star : (assignEach tgs X.env).findIdx? (·.1) = none
  pg : PGs X tgs (gMs X.K X.mg C g)
theorem PostG.ofM {α : Type} {K : PySem.W.Frag} {mg : Str → Option Value} {σ : L2.St} {δ : DEnv} {F H : Hp} {r : Res α} {g : α → Md DEnv} {Q : L2.St → Hp → Prop} {P} (p : PostM K mg C F (r.bind g) Q P) :
    PostG K mg C σ δ F H r fun a st1 F1 H1 => PostM K mg C F1 (g a st1) Q P := by
  cases r with
  | ok a st =>
    intro F1 H1 x w
    have p' : PostM K mg C F (g a st) Q P := p
    show PostM K mg C F1 (g a st) Q P
    cases e : g a st with
    | ok δ' st' => rw [e] at p'; exact fun σ' F' H' l w' => p' σ' F' H' (x.le.trans l) w'
    | err c w' st' => rw [e] at p'; exact p'
    | stuck => rw [e] at p'; exact p'
  | err c w st => exact fun cls dd F' H' x w' z => p cls dd σ δ F' H' w' z
  | stuck => exact p
def gmName (i : Nat) : GM := fun d δ => Md.pure (δ.set i (.val d))
def gmSub (i : Nat) (f : DEnv → Md D) : GM := fun d δ => match δ[i]? with
  | some (.own ds) => Md.bind (f δ) fun j => match j with
    | .int j => match ixN ds.length j with
      | some m => Md.pure (δ.set i (.own (ds.set m d)))
      | none => Md.stuck
    | _ => Md.stuck
  | _ => Md.stuck
def gmNil : GMs := fun ds δ => match ds with
  | [] => Md.pure δ
  | _ => Md.stuck
def gmCons (g : GM) (gs : GMs) : GMs := fun ds δ => match ds with
  | d :: r => Md.bind (g d δ) (gs r)
  | [] => Md.stuck
def gmTup (n : Nat) (gs : GMs) : GM := fun d δ => match d with
  | .tup ds => if ds.length = n then gs ds δ else Md.stuck
  | _ => Md.stuck
theorem dm_name (i : Nat) {x : Str} (hN : X.N.Nodup) (hi : X.N[i]? = some x := by rfl) (hx : Loc X.env.scope x := by first | exact Or.inl rfl | exact Or.inr rfl) (hf : X.fn x = true ∨ X.env.scope.names.lookup x = some .local := by first | exact .inl rfl | exact .inr rfl) : DM X C (.Name x pos) (gmName i) :=
  PG.imp (pg_name hN hi hx hf) fun v σ H Q ⟨F, d, δ, st, w, r, q⟩ => q _ F H Le.refl (w.setVal r)
theorem dm_sub (i : Nat) {x : Str} {px : Pos} {ix : Expr} {fi : DEnv → Md D} (hi : DE X C ix fi) (hN : X.N[i]? = some x := by rfl) (hv : Vis X.env.scope x := by first | exact Or.inl rfl | exact Or.inr (Or.inl rfl) | exact Or.inr (Or.inr rfl))
    (hd : (x == ("__debug__" : Str)) = false := by decide) (hcd : (x == ("__classdict__" : Str)) = false := by decide)
    (ha : ∀ v, assign (.Subscript (.Name x px) ix pos) X.env v = (do
      let ov ← holding [v] (eval (.Name x px) X.env)
      let iv ← holding [v, ov] (eval ix X.env)
      standAt pos
      holding [v, ov, iv] (setItem ov iv v)
      release [v, ov, iv] []) := by intro _; rfl) : DM X C (.Subscript (.Name x px) ix pos) (gmSub i fi) := by
  refine PG.imp (pg_sub (pv i hN hv hd hcd) hi set_list ha) fun v σ H Q ⟨F, d, δ, st, w, r, p⟩ => ?_
  obtain ⟨ds, ed, p⟩ : ∃ ds, δ[i]? = some (Slot.own ds) ∧ PostM X.K X.mg C F (gmSub i fi d δ st) Q fun _ _ _ _ => True := by
    unfold gmSub at p ⊢
    cases ed : δ[i]? with
    | none => rw [ed] at p; exact p.elim
    | some s => rw [ed] at p; cases s with
      | own ds => exact ⟨ds, rfl, p⟩
      | un => exact p.elim
      | val _ => exact p.elim
      | owd _ _ => exact p.elim
  unfold gmSub at p
  rw [ed] at p
  · skip
    obtain ⟨A, vs, e1, h1, h2, h3, rs⟩ := w.own i ds ed
    refine ⟨_, e1, F, δ, st, w, (PostG.ofM p).imp fun j st1 F1 H1 x1 w1 q u ru => ?_⟩
    obtain ⟨A', vs', e1', h1', h2', h3', r'⟩ := w1.own i ds ed
    rw [e1] at e1'; cases e1'
    cases j with
    | int j =>
      dsimp only at q
      cases em : ixN ds.length j with
      | none => rw [em] at q; exact q.elim
      | some m =>
        rw [em] at q
        refine ⟨A, vs', j, m, rfl, ru, h1', by rw [r'.length]; exact em, ?_⟩
        exact q σ F1 _ Le.refl (w1.updOwn ed e1 h1' h2' h3' (r'.set m (Rep.le x1.le _ _ r)))
    | non => exact q.elim
    | bl _ => exact q.elim
    | str _ => exact q.elim
    | tup _ => exact q.elim
    | lst _ => exact q.elim
    | dic _ _ => exact q.elim
    | obj _ _ _ => exact q.elim
    | ref _ => exact q.elim
theorem dms_nil : DMs X C [] 0 gmNil := by
  refine ⟨rfl, rfl, PGs.imp pgs_nil fun vs σ H Q ⟨F, ds, δ, st, w, r, q⟩ => ?_⟩
  cases ds with
  | nil => cases r; exact ⟨rfl, q σ F H Le.refl w⟩
  | cons d r => exact q.elim
theorem dms_cons {t : Expr} {ts : List Expr} {n : Nat} {g : GM} {gs : GMs} (h1 : DM X C t g) (h2 : DMs X C ts n gs)
    (hs : assignEach (t :: ts) X.env = (false, assign t X.env) :: assignEach ts X.env := by rfl) : DMs X C (t :: ts) (n + 1) (gmCons g gs) := by
  obtain ⟨e1, e2, p2⟩ := h2
  refine ⟨by rw [hs, List.length_cons, e1], by rw [hs, List.findIdx?_cons, e2]; rfl, PGs.imp (pgs_cons h1 p2 (by rw [hs]; rfl)) fun vs σ H Q ⟨F, ds, δ, st, w, r, q⟩ => ?_⟩
  cases ds with
  | nil => exact q.elim
  | cons d r' =>
    obtain ⟨v, ws, rfl, rv, rs⟩ := r
    refine ⟨v, ws, rfl, F, d, δ, st, w, rv, ?_⟩
    have q' : PostM X.K X.mg C F ((g d δ st).bind (gs r')) Q _ := q
    cases e : g d δ st with
    | ok δ' st' =>
      rw [e] at q'
      intro σ' F' H' l w'
      refine ⟨F', r', δ', st', w', Reps.le l _ _ rs, ?_⟩
      have q2 : PostM X.K X.mg C F (gs r' δ' st') Q _ := q'
      cases e2 : gs r' δ' st' with
      | ok δ'' st'' => rw [e2] at q2; exact fun σ'' F'' H'' l' w'' => q2 σ'' F'' H'' (l.trans l') w''
      | err c w3 st3 => rw [e2] at q2; exact q2
      | stuck => rw [e2] at q2; exact q2
    | err c w3 st3 => rw [e] at q'; exact q'
    | stuck => rw [e] at q'; exact q'
theorem dm_tup {ts : List Expr} {k n : Nat} {gs : GMs} (hc : X.calm = true) (h : DMs X C ts n gs) : DM X C (.Tuple ts k pos) (gmTup n gs) := by
  obtain ⟨e1, e2, p⟩ := h
  refine PG.imp (pg_tup hc p e1 e2) fun v σ H Q ⟨F, d, δ, st, w, r, q⟩ => ?_
  unfold gmTup at q
  split at q
  · rename_i ds
    split at q
    · rename_i hn
      obtain ⟨a, vs, rfl, hq, rs⟩ := r
      exact ⟨a, vs, rfl, sqT_le w.sub hq, by rw [rs.length]; exact hn, F, ds, δ, st, w, rs, q⟩
    · exact q.elim
  · exact q.elim
def sAsgM (g : GM) (f : DEnv → Md D) : DEnv → Md Fl := fun δ => Md.bind (f δ) fun d => Md.bind (g d δ) fun δ' => Md.pure (.nx δ')
theorem ds_asgM {tg : Expr} {g : GM} (he : DE X C e fa) (hg : DM X C tg g) (hs : swapsWithSole [tg] e pos.line X.env = pure false := by rfl) (hw : swappedStores [tg] e X.env = pure none := by rfl)
    (h1 : (assignEach [tg] X.env).map (·.2) = [assign tg X.env] := by rfl) : DS X C (.Assign [tg] e pos) (sAsgM g fa) := by
  refine PS.imp (ps_asg he hg hs hw h1) fun E σ H ⟨F, δ, st, w, q⟩ => ?_
  refine ⟨F, δ, st, w, (PostG.ofS q).imp fun d st1 F1 H1 x1 w1 q1 v r => ?_⟩
  refine ⟨F1, d, δ, st1, w1, r, ?_⟩
  have q2 : PostS X.K X.mg C F1 ((g d δ st1).bind fun δ' => Md.pure (.nx δ')) E := q1
  cases e : g d δ st1 with
  | ok δ' st' => rw [e] at q2; exact q2
  | err c w3 st3 => rw [e] at q2; exact q2
  | stuck => rw [e] at q2; exact q2
/-! ### more new lists -/
def dCat : D → D → Option (List D)
  | .lst a, .lst b => if a.length + b.length ≤ lim then some (a ++ b) else none
  | _, _ => none
theorem od_cat : OpR X (binaryOp .Add) (rN2 X.K X.mg dCat) := by
  intro pins s σ H x y v u Q I rx ry ⟨F, d, e, z, l, g, qx, qy, kk⟩
  unfold dCat at g
  split at g
  · split at g
    · cases g
      rename_i hz
      obtain ⟨p, vs, rfl, h1, r1⟩ := qx.lst l
      obtain ⟨q, ws, rfl, h2, r2⟩ := qy.lst l
      exact op_cat pins s σ H _ _ v u Q I rx ry ⟨p, q, vs, ws, rfl, rfl, h1, h2, by rw [r1.length, r2.length]; exact Nat.le_trans hz lim_le, fun t ht => kk t _ ht (r1.append r2)⟩
    · cases g
  · cases g
def dRepL : D → D → Option (List D)
  | .lst a, .int k => if 0 ≤ k ∧ k ≤ 1000 ∧ a.length ≤ 100 then some (List.replicate k.toNat a).flatten else none
  | _, _ => none
theorem Reps.rep {K : PySem.W.Frag} {mg : Str → Option Value} {F : Hp} {ds : List D} {vs : List V} (r : Reps K mg F ds vs) : ∀ n : Nat, Reps K mg F (List.replicate n ds).flatten (List.replicate n vs).flatten
  | 0 => rfl
  | n + 1 => by rw [List.replicate_succ, List.replicate_succ, List.flatten_cons, List.flatten_cons]; exact r.append (r.rep n)
theorem od_repL : OpR X (binaryOp .Mult) (rN2 X.K X.mg dRepL) := by
  intro pins s σ H x y v u Q I rx ry ⟨F, d, e, z, l, g, qx, qy, kk⟩
  unfold dRepL at g
  split at g
  · split at g
    · cases g
      rename_i hz
      obtain ⟨p, vs, rfl, h1, r1⟩ := qx.lst l
      refine op_rep pins s σ H _ _ v u Q I rx ry ⟨p, _, vs, rfl, qy.int, h1, by omega, by omega, ?_, fun t ht => kk t _ ht (r1.rep _)⟩
      rw [r1.length, sizeLine_eq]
      rename_i a k
      have h1 : a.length ≤ 100 := hz.2.2
      have h2 : k.toNat ≤ 1000 := by omega
      exact Nat.le_trans (Nat.mul_le_mul h1 h2) (by decide)
    · cases g
  · cases g
theorem dn_op {op : Operator} {g : D → D → Option (List D)} (ho : OpR X (binaryOp op) (rN2 X.K X.mg g)) (ha : DQ X C a fa) (hb : DQ X C b fb) : DN X C (.BinOp a op b pos) (eBinN g fa fb) := by
  refine PE.imp (pe_op ho ha hb) fun σ H Q ⟨F, δ, st, w, p⟩ => ?_
  refine two (X := X) (g := g) w p fun x y d e z F2 H2 st2 x2 w2 g1 rx ry k => ⟨F2, d, e, z, w2.sub, g1, rx.z, ry.z, fun q vs hq r => ?_⟩
  exact k F2 _ (Ext.tmp (o := .lst vs) w2.sub hq) q vs (gone x2 hq) upd_same (w2.sub.none hq) r
/-! ### ranges as values -/
def eRg (f : DEnv → Md (List D)) : DEnv → Md D := fun δ => Md.bind (f δ) fun ds => Md.pure (.tup ds)
def tRgD (K : PySem.W.Frag) (mg : Str → Option Value) (C : Ctx) (f : DEnv → Md (List D)) : L2.St → Hp → (Int → Int → Hp → Prop) → Prop := fun σ H Q => ∃ F δ st, Ws K mg C σ δ st F H ∧ PostG K mg C σ δ F H (f δ st) fun ds _ F' H' => ∀ a b, ds = rgD a (b - a).toNat → RgOk a b → Q a b H'
abbrev DRg (X : Cx) (C : Ctx) (e : Expr) (f : DEnv → Md (List D)) : Prop := PRg X e (tRgD X.K X.mg C f)
theorem drg_1 {p : Pos} (hm : X.mg "range" = none) (ha : DE X C a fa) (hg : Gl X "range" := by rfl) (na : starEach [a] X.env = (false, eval a X.env) :: starEach [] X.env := by rfl) : DRg X C (.Call (.Name "range" p) [a] [] pos) (iR1 fa) := by
  intro pins s σ H Q I ⟨F, δ, st, w, q⟩
  refine prg_1 hg hm ha na pins s σ H Q I ?_
  refine ⟨F, δ, st, w, (PostG.bind q).imp fun d st1 F1 H1 x1 w1 q1 v r => ?_⟩
  cases d with
  | int n =>
    cases r
    have q2 : PostG X.K X.mg C σ δ F1 H1 ((if -1000 ≤ n ∧ n ≤ lim then Md.pure (rgD 0 n.toNat) else Md.stuck) st1) _ := q1
    split at q2
    · rename_i hn
      have hn' : -1000 ≤ n ∧ n ≤ 1000000 := hn
      exact ⟨n, rfl, PostG.pure q2 w1 0 n (by rw [Int.sub_zero]) ⟨by omega, by omega, by omega, by omega, by omega⟩⟩
    · exact q2.elim
  | non => exact q1.elim
  | bl _ => exact q1.elim
  | str _ => exact q1.elim
  | tup _ => exact q1.elim
  | lst _ => exact q1.elim
  | dic _ _ => exact q1.elim
  | obj _ _ _ => exact q1.elim
  | ref _ => exact q1.elim
theorem drg_2 {p : Pos} (hm : X.mg "range" = none) (ha : DE X C a fa) (hb : DE X C b fb) (hg : Gl X "range" := by rfl) (na : starEach [a, b] X.env = (false, eval a X.env) :: starEach [b] X.env := by rfl)
    (nb : starEach [b] X.env = (false, eval b X.env) :: starEach [] X.env := by rfl) (hp : (backTo pos (starEach [b] X.env)).any (·.1) = false := by rfl) : DRg X C (.Call (.Name "range" p) [a, b] [] pos) (iR2 fa fb) := by
  intro pins s σ H Q I ⟨F, δ, st, w, q⟩
  refine prg_2 hg hm ha hb na nb hp pins s σ H Q I ?_
  refine ⟨F, δ, st, w, (PostG.bind q).imp fun d st1 F1 H1 x1 w1 q1 v r => ?_⟩
  refine ⟨F1, δ, st1, w1, (PostG.bind q1).imp fun d2 st2 F2 H2 x2 w2 q2 v2 r2 => ?_⟩
  cases d with
  | int m =>
    cases d2 with
    | int n =>
      cases r
      cases r2
      have q3 : PostG X.K X.mg C σ δ F2 H2 ((if -1000 ≤ n ∧ n ≤ lim ∧ -1000 ≤ m ∧ m ≤ lim then Md.pure (rgD m (n - m).toNat) else Md.stuck) st2) _ := q2
      split at q3
      · rename_i hn
        have hn' : -1000 ≤ n ∧ n ≤ 1000000 ∧ -1000 ≤ m ∧ m ≤ 1000000 := hn
        exact ⟨m, n, rfl, rfl, PostG.pure q3 w2 m n rfl ⟨by omega, by omega, by omega, by omega, by omega⟩⟩
      · exact q3.elim
    | _ => exact q2.elim
  | _ => cases d2 <;> exact q2.elim
theorem reps_rg {K : PySem.W.Frag} {mg : Str → Option Value} {F : Hp} (lo : Int) (n : Nat) : Reps K mg F (rgD lo n) ((List.range n).map fun i => V.int (lo + (i : Nat))) := by
  have h : rgD lo n = ((List.range n).map fun i => lo + (i : Nat)).map D.int := by unfold rgD; rw [List.map_map]; rfl
  have h2 : ((List.range n).map fun i => V.int (lo + (i : Nat))) = ((List.range n).map fun i => lo + (i : Nat)).map V.int := by rw [List.map_map]; rfl
  rw [h, h2]
  exact Reps.ints
theorem de_tupRg {p : Pos} (hc : X.calm = true) (hm : X.mg "tuple" = none) (he : DRg X C e fs) (hg : Gl X "tuple" := by rfl) (na : starEach [e] X.env = (false, eval e X.env) :: starEach [] X.env := by rfl) : DE X C (.Call (.Name "tuple" p) [e] [] pos) (eRg fs) := by
  refine PE.imp (pe_tupRg hc hg hm he na) fun σ H Q ⟨F, δ, st, w, q⟩ => ?_
  refine ⟨F, δ, st, w, (PostG.bind q).imp fun ds st1 F1 H1 x1 w1 q1 a b eds ok => ⟨ok, fun t ht => ?_⟩⟩
  have xx := Ext.fresh (mu := fun _ => False) (o := .tup (rgV a b)) w1.sub ht
  exact q1 _ _ xx.weak (w1.step xx) _ ⟨t, _, rfl, SqT.of upd_same, by rw [eds]; exact reps_rg a _⟩
theorem dn_listRg {p : Pos} (hc : X.calm = true) (hm : X.mg "list" = none) (he : DRg X C e fs) (hg : Gl X "list" := by rfl) (na : starEach [e] X.env = (false, eval e X.env) :: starEach [] X.env := by rfl) : DN X C (.Call (.Name "list" p) [e] [] pos) fs := by
  refine PE.imp (pe_listRg hc hg hm he na) fun σ H Q ⟨F, δ, st, w, q⟩ => ?_
  refine ⟨F, δ, st, w, (PostG.mapId q).imp fun ds st1 F1 H1 x1 w1 q1 a b eds ok => ⟨ok, fun t ht => ?_⟩⟩
  have xx := Ext.tmp (mu := fun _ => False) (o := .lst (rgV a b)) w1.sub ht
  exact q1 _ _ (x1.trans xx.weak) (w1.step xx) t _ (gone x1 ht) upd_same (w1.sub.none ht) (by rw [eds]; exact reps_rg a _)
/-! ### reversed -/
def iRv (fa : DEnv → Md D) : DEnv → Md (List D) := fun δ => Md.bind (fa δ) fun d => Md.ofO ((seqD d).map List.reverse)
theorem di_rev {tg : Expr} {p : Pos} (hm : X.mg "reversed" = none) (h : DE X C a fa) (hg : Gl X "reversed" := by rfl) (hs : starEach [a] X.env = (false, eval a X.env) :: starEach [] X.env := by rfl) : DI X C tg (.Call (.Name "reversed" p) [a] [] pos) (iRv fa) := by
  refine PI.imp (RT.pi_revA hg hm h hs) fun σ H R ⟨F, δ, st, w, q⟩ => ?_
  refine ⟨F, δ, st, w, (PostG.bind q).imp fun d st1 F1 H1 x1 w1 q1 v r => ?_⟩
  obtain ⟨z, g, kk⟩ := PostG.ofO q1 w1
  have rv : ∀ {ds : List D} {vs : List V} {F2 H2 H3 : Hp} {i : Nat} {x : V}, Reps X.K X.mg F1 ds vs → Le F1 F2 → Le F2 H2 → i < ds.length → (H3 = H2 ∧ vs[vs.length - 1 - i]? = some x) → ∃ F' d, ds.reverse[i]? = some d ∧ Ext0 F2 H2 F' H3 ∧ Rep X.K X.mg F' d x := by
    rintro ds vs F2 H2 H3 i x rs l l2 hi ⟨rfl, e⟩
    obtain ⟨d, h1, h2⟩ := rs.get e
    refine ⟨F2, d, ?_, Ext.refl l2, Rep.le l _ _ h2⟩
    rw [List.getElem?_reverse hi, ← rs.length]
    exact h1
  cases d with
  | lst ds =>
    cases g
    obtain ⟨A, vs, rfl, h, rs⟩ := r
    refine ⟨A, vs, rfl, .inl ⟨SqL.of (w1.sub _ _ h), kk F1 H1 (Ext.refl w1.sub) _ ⟨_, _, (by rw [List.length_reverse, ← rs.length]; exact walk_rev), fun F2 H2 s => SqL.of (s.2 _ _ (s.1 _ _ h)), fun i x F2 H2 H3 hi s y => rv rs s.1 s.2 (by rw [List.length_reverse] at hi; exact hi) y⟩⟩⟩
  | tup ds =>
    cases g
    obtain ⟨A, vs, rfl, h, rs⟩ := r
    refine ⟨A, vs, rfl, .inr ⟨sqT_le w1.sub h, kk F1 H1 (Ext.refl w1.sub) _ ⟨fun H => SqT X.K H A vs, fun i H x H' => H' = H ∧ vs[vs.length - 1 - i]? = some x, ?_, fun F2 H2 s => sqT_le (s.1.trans s.2) h, fun i x F2 H2 H3 hi s y => rv rs s.1 s.2 (by rw [List.length_reverse] at hi; exact hi) y⟩⟩⟩
    rw [List.length_reverse, ← rs.length]
    exact ⟨fun i _ hi q => ⟨hi, vs, vs[vs.length - 1 - i]'(by omega), q, by simp [show vs.length - 1 - i < vs.length by omega]⟩, fun _ _ => Nat.le_refl _, fun _ _ _ _ _ q y => ⟨y.1, y.2 vs q⟩⟩
  | _ => cases g
end
end DL

set_option Elab.async false
set_option linter.all false
set_option maxRecDepth 100000
set_option maxHeartbeats 4000000
/-! rules that the layer of the kit has not: t[::-1], enumerate of a tuple -/
namespace DLK
open PySem PySem.Spec PyProof.Rows L2
section
variable {prog : Program} {w : World} {A : Around} {E : Value → Shared → Prop} {s : Shared}
theorem adjust_rev (n : Nat) : Builtin.Slice.sliceAdjust none none (-1) (n : Int) = ((n : Int) - 1, -1) := by
  unfold Builtin.Slice.sliceAdjust
  rfl
theorem places_rev (n : Nat) : Builtin.Slice.slicePlaces ((n : Int) - 1) (-1) (-1) = n := by
  unfold Builtin.Slice.slicePlaces
  rw [if_neg (by decide)]
  by_cases h : (n : Int) - 1 > -1
  · rw [if_pos h]
    have e : -(-1 : Int) = 1 := rfl
    rw [e, Int.ediv_one]
    omega
  · rw [if_neg h]
    omega
theorem fmC {α β : Type} {f g : α → Option β} : ∀ {l : List α}, (∀ m ∈ l, f m = g m) → l.filterMap f = l.filterMap g
  | [], _ => rfl
  | a :: l, h => by
    rw [List.filterMap_cons, List.filterMap_cons, h a List.mem_cons_self, fmC fun m hm => h m (List.mem_cons_of_mem _ hm)]
theorem pick_rev (xs : Array Value) : ((List.range xs.size).filterMap fun (m : Nat) => xs[((xs.size : Int) - 1 + (m : Int) * -1).toNat]?).toArray = xs.toList.reverse.toArray := by
  congr 1
  have h : ∀ (l : List Value), ((List.range l.length).filterMap fun (m : Nat) => l[((l.length : Int) - 1 + (m : Int) * -1).toNat]?) = l.reverse := by
    intro l
    have e : ((List.range l.length).filterMap fun (m : Nat) => l[((l.length : Int) - 1 + (m : Int) * -1).toNat]?) = ((List.range l.length).map fun (m : Nat) => l.reverse[m]?).filterMap id := by
      rw [List.filterMap_map]
      refine fmC fun m hm => ?_
      have hm' : m < l.length := List.mem_range.mp hm
      show _ = l.reverse[m]?
      rw [List.getElem?_reverse hm']
      congr 1
      omega
    rw [e]
    have e2 : ((List.range l.length).map fun (m : Nat) => l.reverse[m]?) = l.reverse.map some := by
      refine List.ext_getElem? fun i => ?_
      rw [List.getElem?_map, List.getElem?_map]
      by_cases hi : i < l.length
      · rw [List.getElem?_range hi]
        have hr : i < l.reverse.length := by rw [List.length_reverse]; exact hi
        rw [Option.map_some, List.getElem?_eq_getElem hr]; rfl
      · rw [List.getElem?_eq_none (by rw [List.length_range]; omega), List.getElem?_eq_none (by rw [List.length_reverse]; omega)]; rfl
    rw [e2, List.filterMap_map]
    show l.reverse.filterMap (fun x => some x) = l.reverse
    exact List.filterMap_some
  have := h xs.toList
  rw [Array.length_toList] at this
  rw [← this]
  refine fmC fun m _ => ?_
  rw [Array.getElem?_toList]
theorem sliceApplied_rev {sl : Addr} {vl vu vs : Value} {n : Nat} {Q : Int × Int × Nat → Shared → Prop} (hs : s.heap.IsSliceOf sl vl vu vs) (pl : IsPart vl none) (pu : IsPart vu none) (ps : IsPart vs (some (-1)))
    (h : Q ((n : Int) - 1, -1, n) s) : wpAny (model prog w) A (Builtin.Slice.sliceApplied (.ref sl) (pure (n : Int))) Q E s := by
  obtain ⟨os, hos, hcs, hds⟩ := id hs
  unfold Builtin.Slice.sliceApplied Builtin.Slice.sliceFields
  refine wpAny_bind (wpAny_bind (wpAny_field hos hds (x := vl) rfl (wpAny_bind (wpAny_field hos hds (x := vu) rfl (wpAny_bind (wpAny_field hos hds (x := vs) rfl (wpAny_pure ?_)))))))
  refine wpAny_bind (HT.slicePart_ ps ?_)
  show wpAny _ _ (if ((-1 : Int) == 0) = true then _ else _) _ _ s
  rw [if_neg (by decide)]
  refine wpAny_bind (HT.slicePart_ pl (wpAny_bind (HT.slicePart_ pu (wpAny_bind (wpAny_pure ?_)))))
  show wpAny _ _ (match Builtin.Slice.sliceAdjust none none (-1) (n : Int) with | (lo, hi) => pure (lo, (-1 : Int), Builtin.Slice.slicePlaces lo hi (-1))) _ _ s
  rw [adjust_rev n]
  show wpAny _ _ (pure ((n : Int) - 1, (-1 : Int), Builtin.Slice.slicePlaces ((n : Int) - 1) (-1) (-1))) _ _ s
  rw [places_rev]
  exact wpAny_pure h
theorem getItem_tuple_rev {t sl : Addr} {items : Array Value} {vl vu vs : Value} {Q : Value → Shared → Prop} (ht : IsTup s.heap t items) (hs : s.heap.IsSliceOf sl vl vu vs) (pl : IsPart vl none) (pu : IsPart vu none) (ps : IsPart vs (some (-1)))
    (h : Q (.ref s.heap.objs.size) { s with heap := s.heap.push { cls := .type "tuple", data := .seq items.toList.reverse.toArray } })
    (hsz : items.size ≤ sizeLine) : wpAny (model prog w) A (getItem (.ref t) (.ref sl)) Q E s := by
  have htake : sizeOk (.seq items.toList.reverse.toArray) := by
    show items.toList.reverse.toArray.size ≤ sizeLine
    rw [List.size_toArray, List.length_reverse, Array.length_toList]
    exact hsz
  obtain ⟨os, hos, hcs, hds⟩ := id hs
  have hTs : s.TypeIs (.ref sl) "slice" := ⟨os, hos, hcs⟩
  unfold getItem
  try with_reducible refine wpAny_holding ?_
  first | refine wpAny_bind (wpAny_pure ?_) | skip
  refine wpAny_bind (wpAny_sequenceKey ht.typeIs (by decide) ?_)
  refine wpAny_bind (wpAny_callSpecial?_slot (name := Str.ofString "__getitem__") ht.typeIs PyProof.Rows.slot_tuple_getitem
    (wpAny_call_entry PyProof.Rows.slot_tuple_getitem ht.typeIs entry_tuple_getitem ?_ (args_tuple_getitem _ _)))
  show wpAny _ _ (Builtin.Tuple.tupleItemsOf (.ref t) >>= _) _ _ s
  refine wpAny_bind (tupleItemsOf_ ht ?_)
  refine wpAny_bind (wpAny_typeOf hTs ?_)
  rw [if_pos (by decide)]
  refine wpAny_bind (sliceApplied_rev hs pl pu ps ?_)
  have hno : ¬ (((((items.size : Int) - 1) == 0 && (-1 : Int) == 1 && items.size == items.size)) = true) := by
    intro q
    rw [Bool.and_eq_true, Bool.and_eq_true] at q
    exact absurd q.1.2 (by decide)
  show wpAny _ _ (if ((((items.size : Int) - 1) == 0 && (-1 : Int) == 1 && items.size == items.size)) = true then _ else _) _ _ s
  rw [if_neg hno, pick_rev]
  first
    | exact wpAny_bind (m := Builtin.Tuple.tupleExact _) (wpAny_newObj_type (wpAny_pure ⟨_, rfl, wpAny_pure h⟩) htake)
    | exact wpAny_bind (m := Builtin.Tuple.tupleExact _) (wpAny_newObj_type (wpAny_bind (wpAny_pure (wpAny_pure ⟨_, rfl, wpAny_pure h⟩))) htake)
    | exact wpAny_bind (wpAny_bind (m := Builtin.Tuple.tupleExact _) (wpAny_newObj_type (wpAny_pure (wpAny_pure ⟨_, rfl, wpAny_pure h⟩)) htake))
    | exact wpAny_bind (wpAny_bind (m := Builtin.Tuple.tupleExact _) (wpAny_newObj_type (wpAny_pure ⟨_, rfl, wpAny_pure h⟩) htake))
end
section
variable {X : Cx}
def tRevT (K : PySem.W.Frag) (te : TE) : TE := fun σ H Q => te σ H fun x H1 => ∃ a xs, x = .ref a ∧ SqT K H1 a xs ∧ ∀ p, H1 p = none → Q (.ref p) (upd H1 p (.tup xs.reverse))
theorem pe_revT {e : Expr} {te : TE} {k : Nat} {p1 p2 p3 pos : Pos} (he : PE X e te) : PE X (.Subscript e (.Slice none none (some (.UnaryOp .USub (.Constant (.int 1) k p1) p2)) p3) pos) (tRevT X.K te) := by
  refine ⟨fun pins s σ H Q I h => ?_⟩
  refine Subscript_ (thn (he.run pins s σ H _ I h) fun v s1 ⟨x, H1, I1, r1, q1⟩ => ?_)
  obtain ⟨a, xs, ex, hx, q⟩ := q1
  subst ex
  cases r1
  have hst : PO X (some (.UnaryOp .USub (.Constant (.int 1) k p1) p2)) (tPart (tUn (rU fun i => .int (-i)) (tC (.int 1)))) := po_some (pe_un un_neg pe_int)
  refine wpAny_Slice (thn (po_none.run pins s1 σ H1 (fun o H2 => o = none ∧ H2 = H1) I1 ⟨rfl, rfl⟩) fun vl s2 ⟨l, H2, I2, pl, el, e2⟩ => ?_)
  subst el e2
  refine thn (po_none.run pins s2 σ H2 (fun o H3 => o = none ∧ H3 = H2) I2 ⟨rfl, rfl⟩) fun vu s3 ⟨u, H3, I3, pu, eu, e3⟩ => ?_
  subst eu e3
  refine thn (hst.run pins s3 σ H3 (fun o H4 => o = some (-1) ∧ H4 = H3) I3 ⟨1, rfl, -1, rfl, rfl, rfl⟩) fun vs s4 ⟨o, H4, I4, ps, eo, e4⟩ => ?_
  subst eo e4
  have I5 : Inv X pins σ H4 { s4 with heap := s4.heap.push { cls := .type "slice", data := .fields #[vl, vu, vs] } } := I4.kept (t' := s4.toks) fun b ob q => Heap.get?_push_of_some _ q
  obtain ⟨its, r, ht, hz⟩ := I5.tuple hx
  have hlen := r.length
  show wpAny (model X.prog X.w) X.A (subscriptTail e (.Slice none none (some (.UnaryOp .USub (.Constant (.int 1) k p1) p2)) p3) (.ref a) (.ref s4.heap.objs.size)) (EP X pins σ Q) X.xe { s4 with heap := s4.heap.push { cls := .type "slice", data := .fields #[vl, vu, vs] } }
  refine tail_any (ops := [.ref a, .ref s4.heap.objs.size]) ht.typeIs (PyProof.Rows.slot_tuple_getitem.lookup) ?_ (by with_unfolding_all rfl)
  refine getItem_tuple_rev ht (Heap.IsSliceOf.new _ vl vu vs) pl pu ps ?_ (by rw [List.size_toArray]; omega)
  refine ⟨.ref _, _, I5.laid (t' := s4.toks) (o := .tup xs.reverse) (fun b ob q => Heap.get?_push_of_some _ q) (Nat.le_refl _) ?_, rfl, q _ (I5.hok.fresh (Nat.le_refl _))⟩
  exact ⟨by rw [List.length_reverse]; exact hz, its.reverse, r.reverse, IsTup.new _ _⟩
end
/-! ### enumerate of a tuple -/
section
open AutoSeq1 (wpAny_loadPart')
theorem meets_enumerate_newT (l : Addr) (items : Array Value) (n : Nat) (dct : Option Addr) (sl : Array (Option Value)) :
    Meets (Builtin.«enumerate.__new__» ⟨[.type "enumerate", .ref l], []⟩) (fun _ R s => s.heap.get? l = some { cls := .type "tuple", dict := dct, data := .seq items n, slots := sl } ∧
      R (.ok (.ret (.ref (s.heap.push { cls := .type "tuple_iterator", data := .fields #[.ref l, .int 0 0] }).objs.size)))
        { s with heap := (s.heap.push { cls := .type "tuple_iterator", data := .fields #[.ref l, .int 0 0] }).push { cls := .type "enumerate", data := .fields #[.none, .bool false, .ref s.heap.objs.size, rawInt 0, .none, .none] } }) :=
  .of_wp fun prog w A R s h => by
    obtain ⟨hp, g, d, tk, os⟩ := s; obtain ⟨hl, h⟩ := h
    have hsub := sub_enumerate
    have hL : Heap.IsTuple (Shared.heap ⟨hp, g, d, tk, os⟩) l items := ⟨_, hl, rfl, n, rfl⟩
    wp_walk using wpAny_loadPart' hl
    refine wpAny_stack_any fun st => wpAny_pure ?_
    split
    · rename_i c _ _ _ _ _
      cases (c == Value.type "enumerate")
      · wp_walk using wpAny_loadPart' hl, wpAny_pyIter_tuple hL
        exact ⟨_, rfl, h⟩
      · wp_walk using wpAny_loadPart' hl, wpAny_pyIter_tuple hL
        exact ⟨_, rfl, h⟩
    · wp_walk using wpAny_loadPart' hl, wpAny_pyIter_tuple hL
      exact ⟨_, rfl, h⟩
end
section
variable {prog : Program} {w : World} {A : Around} {E : Value → Shared → Prop} {s : Shared}
theorem call_enumerate_tup {l : Addr} {items : Array Value} {Q : Value → Shared → Prop} (hL : s.heap.IsTuple l items)
    (h : ∀ h', IsEnum h' (s.heap.objs.size + 1) s.heap.objs.size 0 .none → h'.IsTupleIter s.heap.objs.size l 0 → h'.objs.size = s.heap.objs.size + 2 →
      (∀ b o, s.heap.get? b = some o → h'.get? b = some o) → Q (.ref (s.heap.objs.size + 1)) { s with heap := h' }) :
    wpAny (model prog w) A (call (.type "enumerate") [.ref l]) Q E s := by
  obtain ⟨⟨c, dct, dt, sl⟩, hl, hc, n, hd⟩ := hL
  replace hc : c = .type "tuple" := hc
  replace hd : dt = .seq items n := hd
  subst hc hd
  refine callType_new F.called_enumerate (by decide) (F.typeCall_enumerate_1 _) (F.newCall_enumerate_1 _) (fun obj => F.args_object_init_2 obj _) F.entry_enumerate_new
    (meets_enumerate_newT l items n dct sl) ⟨hl, ?_⟩
  have hz : (s.heap.push { cls := .type "tuple_iterator", data := .fields #[.ref l, .int 0 0] }).objs.size = s.heap.objs.size + 1 := Heap.size_push ..
  show _ ∧ _
  rw [hz]
  have he : IsEnum ((s.heap.push { cls := .type "tuple_iterator", data := .fields #[.ref l, .int 0 0] }).push
      { cls := .type "enumerate", data := .fields #[.none, .bool false, .ref s.heap.objs.size, rawInt 0, .none, .none] }) (s.heap.objs.size + 1) s.heap.objs.size 0 .none := by
    have := Heap.get?_push_size (s.heap.push { cls := .type "tuple_iterator", data := .fields #[.ref l, .int 0 0] })
      (o := { cls := .type "enumerate", data := .fields #[.none, .bool false, .ref s.heap.objs.size, rawInt 0, .none, .none] }) rfl
    rw [hz] at this; exact this
  refine ⟨⟨_, he, rfl⟩, h _ he ⟨_, Heap.get?_push_of_some _ (Heap.get?_push_size _ rfl), rfl, rfl⟩ (by rw [Heap.size_push, hz]) fun b o x => Heap.get?_push_of_some _ (Heap.get?_push_of_some _ x)⟩
theorem draws_tuple (hh : A.handled = none) (it l : Addr) (hne : l ≠ it) (items : Array Value) :
    Draws prog w A it [it, l] items.size (fun i v => items[i]? = some v) (fun i h => h.IsTupleIter it l i ∧ h.IsTuple l items) where
  live := fun _ _ st => let ⟨o, ho, _⟩ := st.1; ⟨o, ho⟩
  frame := fun _ _ _ st hk => ⟨st.1.at fun o e => hk it (by simp) o e, let ⟨o, ho, r⟩ := st.2; ⟨o, hk l (by simp) o ho, r⟩⟩
  item := fun i s Q E hi st hQ => by
    refine RZ.nextOf_tuple_item st.1 st.2 (x := items[i]) (by simp [hi]) fun h' hit' hs' => ?_
    exact hQ _ h' s.toks (by simp [hi]) ⟨hit', let ⟨o, ho, r⟩ := st.2; ⟨o, (hs'.2 l hne).trans ho, r⟩⟩ hs'
  done := fun s Q E st hE => RZ.nextOf_tuple_end hh st.1 st.2 (by simp) hE
end
section
variable {prog : Program} {w : World} {A : Around} {E : Value → Shared → Prop} {s : Shared}
theorem enumT_end {e it l : Addr} {i : Nat} {items : Array Value} {j : Int} {old : Value} {Q : Option Value → Shared → Prop} (hh : A.handled = none) (he : IsEnum s.heap e it j old) (hit : s.heap.IsTupleIter it l i) (hl : s.heap.IsTuple l items) (hx : items[i]? = none)
    (hQ : ∀ h', Heap.ExtBut it s.heap h' → Q none { s with heap := h' }) : wpAny (model prog w) A (pyNext (.ref e)) Q E s := by
  have hT : s.TypeIs (.ref e) "enumerate" := ⟨_, he, rfl⟩
  unfold pyNext
  refine wpAny_bind (wpAny_attempt (wpAny_callSpecial?_slot (name := Str.ofString "__next__") hT F.slot_enumerate_next
    (wpAny_call_entry F.slot_enumerate_next hT F.entry_enumerate_next ?_ (F.args_enumerate_next_1 _))))
  show wpAny _ _ (field (.ref e) 2 >>= _) _ _ _
  refine wpAny_bind (wpAny_field he rfl (x := .ref it) rfl ?_)
  have hA : A.in1.handled = none := hh
  refine wpAny_bind (RZ.nextOf_tuple_end hA hit hl hx fun h' x he' hx' => ?_)
  obtain ⟨o, ho, hc⟩ := hx'
  refine wpAny_bind (wpAny_isInstance (T := "StopIteration") (b := true) ⟨o, ho, hc⟩ isSubtype_stop ?_)
  exact wpAny_pure (hQ _ he')
end
/-- the tuple at a as it stands, its items numbered, in new pairs -/
def IteT (K : PySem.W.Frag) (a : Addr) : It :=
  ⟨fun i H => ∃ (xs : List V) (x : V), SqT K H a xs ∧ xs[i]? = some x, fun i H v H' => ∃ T x, v = .ref T ∧ H T = none ∧ H' = upd H T (.tup [.int (i : Nat), x]) ∧ ∀ xs, SqT K H a xs → xs[i]? = some x, fun i H => ∃ xs : List V, SqT K H a xs ∧ xs.length ≤ i⟩
theorem turn_enumT {P : Program} {w : World} {K : PySem.W.Frag} {elts : List Expr} {kk : Nat} {tpos : Pos} (a e it : Addr) :
    Turn P w K (.Tuple elts kk tpos) (IteT K a) [e, it] e (fun i h => (∃ old, IsEnum h e it ((i : Nat) : Int) old) ∧ h.IsTupleIter it a i ∧ e ≠ it ∧ a ≠ it ∧ a ≠ e) where
  mem := by simp
  obj := fun i h st b hb => by
    obtain ⟨⟨old, he⟩, ⟨o, ho, hc, hd⟩, _⟩ := st
    have e' : b = e ∨ b = it := by simpa using hb
    rcases e' with z | z
    · rw [z]; exact ⟨_, he, fun v q => nomatch q⟩
    · rw [z]; exact ⟨o, ho, fun v q => by rw [hd] at q; cases q⟩
  keep := fun i h h' st k => let ⟨⟨old, he⟩, hi, hne⟩ := st; ⟨⟨old, k e (by simp) _ he⟩, hi.at fun o q => k it (by simp) o q, hne⟩
  item := by
    intro X hP hw hK hc i pins s σ H E I hf st hg
    subst hP hw hK
    obtain ⟨⟨old, he⟩, hit, hne, hai, hae⟩ := st
    obtain ⟨xs, x, hq, hx⟩ := hg
    obtain ⟨its, rv, p, hz⟩ := I.tuple hq
    obtain ⟨u, hu, ru⟩ := rv.get hx
    have hel : e < s.heap.objs.size := Heap.lt_size he
    have hil : it < s.heap.objs.size := by obtain ⟨_, q, _⟩ := hit; exact Heap.lt_size q
    have hlt : i < its.toArray.size := by
      have := (List.getElem?_eq_some_iff.mp hu).1
      simpa using this
    have hA : (X.A.in1).handled = none := I.ok.hd hc
    refine wpAny_pyNext_enum_itemD (draws_tuple hA it a hai its.toArray) he ⟨hit, show s.heap.IsTuple a its.toArray from p⟩ hlt hne (by simp [hne, Ne.symm hae]) fun u' h' tk hu' ho hst hT hsz hk => ?_
    have eu : u' = u := by
      have q : its.toArray[i]? = some u' := hu'
      have q2 : its.toArray[i]? = some u := by simpa using hu
      rw [q2] at q; exact (Option.some.inj q).symm
    subst eu
    obtain ⟨hit', _⟩ := hst
    refine ⟨_, rfl, wpAny_letOwnedTupleGo_enum (s := { s with heap := h', toks := tk + 1 }) ho fun h'' he' sb => ?_⟩
    have hT2 : h''.get? s.heap.objs.size = some { cls := .type "tuple", data := .seq #[.int i tk, u'] } := (sb.2 _ (Nat.ne_of_gt hel)).trans hT
    have new : ObjOk X.prog X.w (upd H s.heap.objs.size (.tup [.int (i : Nat), x])) h'' s.heap.objs.size (.tup [.int (i : Nat), x]) :=
      ⟨by show 2 ≤ sizeLine; decide, [.int i tk, u'], .cons ⟨_, rfl⟩ (.cons ru .nil), ⟨_, hT2, rfl, _, rfl⟩⟩
    have I1 : Inv X pins σ (upd H s.heap.objs.size (.tup [.int (i : Nat), x])) { s with heap := h'', toks := tk + 1 } :=
      I.turnedNew (ch := [e, it]) (fun b ob hb q => (sb.2 b (fun z => hb (by simp [z]))).trans (hk b ob (fun z => hb (by simp [z])) (fun z => hb (by simp [z])) q)) hf (Nat.le_refl _) new
    refine ⟨.ref s.heap.objs.size, _, I1, rfl, ⟨_, x, rfl, I.hok.fresh (Nat.le_refl _), rfl, fun ys hy => by rw [I.tuple_inj hy hq]; exact hx⟩, ⟨⟨u', ?_⟩, hit'.at fun o q => (sb.2 it (Ne.symm hne)).trans q, hne, hai, hae⟩, fun b hb => ?_⟩
    · have e1 : ((i + 1 : Nat) : Int) = (i : Int) + 1 := by omega
      rw [e1]; exact he'
    · have hb' : b < s.heap.objs.size := by
        have e' : b = e ∨ b = it := by simpa using hb
        rcases e' with z | z
        · rw [z]; exact hel
        · rw [z]; exact hil
      rw [upd_ne (Nat.ne_of_lt hb')]
      exact (hf b hb).1
  done := by
    intro X hP hw hK hc i pins s σ H E I hf st hg
    subst hP hw hK
    obtain ⟨⟨old, he⟩, hit, hne, hai, hae⟩ := st
    obtain ⟨xs, hq, hx⟩ := hg
    obtain ⟨its, rv, p, hz⟩ := I.tuple hq
    obtain ⟨f0, f1, f2, f3, f4, f5⟩ := hf it (by simp)
    have hl := rv.length
    exact enumT_end (I.ok.hd hc) he hit (show s.heap.IsTuple a its.toArray from p) (by simp; omega) fun h' eb => ⟨rfl, I.turned (t' := s.toks) (fun b o hb q => eb b o hb q) f0 f1 f3 f4 f5⟩
  self := fun A i s Q E st h => let ⟨⟨_, he⟩, _⟩ := st; wpAny_pyIter_enum he h
def iEnumA (K : PySem.W.Frag) (te : TE) : TI := fun σ H R => te σ H fun v H1 => ∃ a xs, v = .ref a ∧ ((SqL K H1 a xs ∧ R (Ite K a) H1) ∨ (SqT K H1 a xs ∧ R (IteT K a) H1))
theorem pi_enumA {X : Cx} {e : Expr} {te : TE} {p pos tpos : Pos} {elts : List Expr} {kk : Nat} (hg : Gl X "enumerate") (hm : X.mg "enumerate" = none) (he : PE X e te) (hs : starEach [e] X.env = (false, eval e X.env) :: starEach [] X.env := by rfl) :
    PI X (.Tuple elts kk tpos) (.Call (.Name "enumerate" p) [e] [] pos) (iEnumA X.K te) := by
  refine ⟨fun pins s σ H R I h => ?_⟩
  refine Call_ (ld_blt I hg hm PyProof.Rows.boot_enumerate (PyProof.Rows.callWith_type1 (PyProof.Rows.args_cons (thn (he.run pins s σ H _ I h) fun u s1 ⟨v, H1, I1, r1, q1⟩ => PyProof.Rows.args_nil ?_) hs) hs rfl))
  obtain ⟨a, xs, ev, q1⟩ := q1
  subst ev
  cases r1
  rcases q1 with ⟨hq, q⟩ | ⟨hq, q⟩
  · obtain ⟨its, rv, p', hz⟩ := I1.list hq
    refine call_enumerate_list p'.isList fun h' he hit hsz hk => wpAny_pyIter_enum he ?_
    have I2 : Inv X pins σ H1 { s1 with heap := h' } := I1.kept (t' := s1.toks) hk
    refine ⟨s1.heap.objs.size + 1, [s1.heap.objs.size + 1, s1.heap.objs.size], _, _, H1, rfl, I2, turn_enum a (s1.heap.objs.size + 1) s1.heap.objs.size, ⟨⟨.none, he⟩, hit, Nat.succ_ne_self _⟩, fun b hb => ?_, q⟩
    have e' : b = s1.heap.objs.size + 1 ∨ b = s1.heap.objs.size := by simpa using hb
    have hle : s1.heap.objs.size ≤ b := by
      rcases e' with z | z
      · rw [z]; exact Nat.le_add_right _ _
      · rw [z]; exact Nat.le_refl _
    exact I1.fpOk hle (I1.hok.fresh hle)
  · obtain ⟨its, rv, p', hz⟩ := I1.tuple hq
    have hal : a < s1.heap.objs.size := by obtain ⟨o, ho, _⟩ := id p'; exact Heap.lt_size ho
    refine call_enumerate_tup (show s1.heap.IsTuple a its.toArray from p') fun h' he hit hsz hk => wpAny_pyIter_enum he ?_
    have I2 : Inv X pins σ H1 { s1 with heap := h' } := I1.kept (t' := s1.toks) hk
    refine ⟨s1.heap.objs.size + 1, [s1.heap.objs.size + 1, s1.heap.objs.size], _, _, H1, rfl, I2, turn_enumT a (s1.heap.objs.size + 1) s1.heap.objs.size, ⟨⟨.none, he⟩, hit, Nat.succ_ne_self _, Nat.ne_of_lt hal, Nat.ne_of_lt (Nat.lt_succ_of_lt hal)⟩, fun b hb => ?_, q⟩
    have e' : b = s1.heap.objs.size + 1 ∨ b = s1.heap.objs.size := by simpa using hb
    have hle : s1.heap.objs.size ≤ b := by
      rcases e' with z | z
      · rw [z]; exact Nat.le_add_right _ _
      · rw [z]; exact Nat.le_refl _
    exact I1.fpOk hle (I1.hok.fresh hle)
end DLK
namespace DL
open PySem PySem.Spec PyProof.Rows L2
section
variable {X : Cx} {C : Ctx} {a b e : Expr} {fa fb : DEnv → Md D} {pos : Pos}
/-- e[::-1] -/
def dRev : D → Option D
  | .tup ds => some (.tup ds.reverse)
  | _ => none
def dRevL : D → Option (List D)
  | .lst ds => some ds.reverse
  | _ => none
theorem de_revT {k : Nat} {p1 p2 p3 : Pos} (ha : DQ X C a fa) : DE X C (.Subscript a (.Slice none none (some (.UnaryOp .USub (.Constant (.int 1) k p1) p2)) p3) pos) (eUn dRev fa) := by
  refine PE.imp (DLK.pe_revT ha) fun σ H Q ⟨F, δ, st, w, p⟩ => ?_
  refine ⟨F, δ, st, w, (PostG.bind p).imp fun d st1 F1 H1 x1 w1 q v r => ?_⟩
  obtain ⟨z, g, kk⟩ := PostG.ofO q w1
  cases d with
  | tup ds =>
    cases g
    obtain ⟨A, vs, rfl, h, rs⟩ := r.tup w1.sub
    obtain ⟨A', vs', e', h', rs'⟩ : Rep X.K X.mg F1 (.tup ds) (.ref A) := by
      rcases r with r | ⟨_, _, _, _, z, _⟩ | ⟨_, _, _, _, _, z, _⟩
      · exact r
      · cases z
      · cases z
    cases e'
    refine ⟨A, vs', rfl, sqT_le w1.sub h', fun t ht => ?_⟩
    have xx := Ext.fresh (mu := fun _ => False) (o := .tup vs'.reverse) w1.sub ht
    exact kk _ _ xx _ ⟨t, _, rfl, SqT.of upd_same, rs'.reverse.le xx.le _ _⟩
  | _ => cases g
theorem dn_revL {k : Nat} {p1 p2 p3 : Pos} (ha : DQ X C a fa) : DN X C (.Subscript a (.Slice none none (some (.UnaryOp .USub (.Constant (.int 1) k p1) p2)) p3) pos) (fun δ => Md.bind (fa δ) fun d => Md.ofO (dRevL d)) := by
  refine PE.imp (pe_revL ha) fun σ H Q ⟨F, δ, st, w, p⟩ => ?_
  refine ⟨F, δ, st, w, (PostG.bind p).imp fun d st1 F1 H1 x1 w1 q v r => ?_⟩
  obtain ⟨z, g, kk⟩ := PostG.ofO q w1
  cases d with
  | lst ds =>
    cases g
    obtain ⟨A, vs, rfl, h, rs⟩ := r.lst w1.sub
    refine ⟨A, vs, rfl, SqL.of h, fun t ht => ?_⟩
    exact kk F1 _ (Ext.tmp w1.sub ht) t _ (gone x1 ht) upd_same (w1.sub.none ht) rs.reverse
  | _ => cases g
/-- pairs of a number and an item -/
def numD (ds : List D) : List D := (List.range ds.length).map fun i => D.tup [.int (i : Nat), ds.getD i .non]
theorem numD_get {ds : List D} {i : Nat} {d : D} (h : ds[i]? = some d) : (numD ds)[i]? = some (.tup [.int (i : Nat), d]) := by
  unfold numD
  have hi := (List.getElem?_eq_some_iff.mp h).1
  rw [List.getElem?_map, List.getElem?_range hi, Option.map_some, List.getD_eq_getElem?_getD, h]; rfl
theorem numD_length (ds : List D) : (numD ds).length = ds.length := by unfold numD; rw [List.length_map, List.length_range]
def iEn (fa : DEnv → Md D) : DEnv → Md (List D) := fun δ => Md.bind (fa δ) fun d => Md.ofO ((seqD d).map numD)
theorem pair_y {K : PySem.W.Frag} {mg : Str → Option Value} {F H H' : Hp} {T : Addr} {x y : V} {d e : D} (l : Le F H) (hT : H T = none) (e1 : H' = upd H T (.tup [x, y])) (r1 : Rep K mg F d x) (r2 : Rep K mg F e y) : Ext0 F H (upd F T (.tup [x, y])) H' ∧ Rep K mg (upd F T (.tup [x, y])) (.tup [d, e]) (.ref T) := by
  subst e1
  have xx := Ext.fresh (mu := fun _ => False) (o := .tup [x, y]) l hT
  exact ⟨xx, T, _, rfl, SqT.of upd_same, x, [y], rfl, Rep.le xx.le _ _ r1, y, [], rfl, Rep.le xx.le _ _ r2, rfl⟩
theorem di_enum {p tpos : Pos} {elts : List Expr} {kk : Nat} (hm : X.mg "enumerate" = none) (h : DE X C a fa) (hg : Gl X "enumerate" := by rfl) (hs : starEach [a] X.env = (false, eval a X.env) :: starEach [] X.env := by rfl) :
    DI X C (.Tuple elts kk tpos) (.Call (.Name "enumerate" p) [a] [] pos) (iEn fa) := by
  refine PI.imp (DLK.pi_enumA hg hm h hs) fun σ H R ⟨F, δ, st, w, q⟩ => ?_
  refine ⟨F, δ, st, w, (PostG.bind q).imp fun d st1 F1 H1 x1 w1 q1 v r => ?_⟩
  obtain ⟨z, g, kk⟩ := PostG.ofO q1 w1
  cases d with
  | lst ds =>
    cases g
    obtain ⟨A, vs, rfl, h, rs⟩ := r
    refine ⟨A, vs, rfl, .inl ⟨SqL.of (w1.sub _ _ h), kk F1 H1 (Ext.refl w1.sub) _ ⟨fun H => SqL X.K H A vs, YPair (fun i => some (.int (i : Nat))) (fun i => vs[i]?), (by rw [numD_length, ← rs.length]; exact walk_enum), fun F2 H2 s => SqL.of (s.2 _ _ (s.1 _ _ h)), fun i x F2 H2 H3 hi s y => ?_⟩⟩⟩
    obtain ⟨T, x1, y1, rfl, hT, e3, ei, ey⟩ := y
    cases ei
    obtain ⟨d, h1, h2⟩ := rs.get ey
    obtain ⟨k1, k2⟩ := pair_y (K := X.K) (mg := X.mg) (d := .int (i : Nat)) (e := d) s.2 hT e3 rfl (Rep.le s.1 _ _ h2)
    exact ⟨_, _, numD_get h1, k1, k2⟩
  | tup ds =>
    cases g
    obtain ⟨A, vs, rfl, h, rs⟩ := r
    refine ⟨A, vs, rfl, .inr ⟨sqT_le w1.sub h, kk F1 H1 (Ext.refl w1.sub) _ ⟨fun H => SqT X.K H A vs, YPair (fun i => some (.int (i : Nat))) (fun i => vs[i]?), ?_, fun F2 H2 s => sqT_le (s.1.trans s.2) h, fun i x F2 H2 H3 hi s y => ?_⟩⟩⟩
    · rw [numD_length, ← rs.length]
      refine ⟨fun i _ hi q => ⟨vs, vs[i], q, by simp [hi]⟩, fun _ q => ⟨vs, q, Nat.le_refl _⟩, fun i H v H' _ q y => ?_⟩
      obtain ⟨T, x, h1, h2, h3, h4⟩ := y
      exact ⟨T, .int (i : Nat), x, h1, h2, h3, rfl, h4 vs q⟩
    · obtain ⟨T, x1, y1, rfl, hT, e3, ei, ey⟩ := y
      cases ei
      obtain ⟨d, h1, h2⟩ := rs.get ey
      obtain ⟨k1, k2⟩ := pair_y (K := X.K) (mg := X.mg) (d := .int (i : Nat)) (e := d) s.2 hT e3 rfl (Rep.le s.1 _ _ h2)
      exact ⟨_, _, numD_get h1, k1, k2⟩
  | _ => cases g
/-- zip of two lists or of two tuples -/
def zipD (ds es : List D) : List D := List.zipWith (fun a b => D.tup [a, b]) ds es
def dZip : D → D → Option (List D)
  | .lst a, .lst b => some (zipD a b)
  | .tup a, .tup b => some (zipD a b)
  | _, _ => none
def iZp (fa fb : DEnv → Md D) : DEnv → Md (List D) := fun δ => Md.bind (fa δ) fun x => Md.bind (fb δ) fun y => Md.ofO (dZip x y)
theorem zipD_get {ds es : List D} {i : Nat} {d e : D} (h : ds[i]? = some d) (h2 : es[i]? = some e) : (zipD ds es)[i]? = some (.tup [d, e]) := by
  unfold zipD
  rw [List.getElem?_zipWith, h, h2]
theorem di_zip {p tpos : Pos} {elts : List Expr} {kk : Nat} (hm : X.mg "zip" = none) (ha : DE X C a fa) (hb : DE X C b fb) (hg : Gl X "zip" := by rfl)
    (hs : starEach [a, b] X.env = (false, eval a X.env) :: starEach [b] X.env := by rfl) (hs2 : starEach [b] X.env = (false, eval b X.env) :: starEach [] X.env := by rfl) (hpl : (backTo pos (starEach [b] X.env)).any (·.1) = false := by rfl) :
    DI X C (.Tuple elts kk tpos) (.Call (.Name "zip" p) [a, b] [] pos) (iZp fa fb) := by
  refine PI.imp (RZ.pi_zipA hg hm (pa_cons ha (pa_cons hb pa_nil hs2) hs) hs hpl) fun σ H R ⟨F, δ, st, w, q⟩ => ?_
  refine ⟨F, δ, st, w, (PostG.bind q).imp fun d st1 F1 H1 x1 w1 q1 v r => ?_⟩
  refine ⟨F1, δ, st1, w1, (PostG.bind q1).imp fun d2 st2 F2 H2 x2 w2 q2 v2 r2 => ?_⟩
  obtain ⟨z, g, kk⟩ := PostG.ofO q2 w2
  unfold dZip at g
  split at g
  · cases g
    obtain ⟨A, vs, rfl, h, rs⟩ := Rep.le x2.le _ _ r
    obtain ⟨B, us, rfl, h', rs'⟩ := r2
    refine ⟨A, B, vs, us, rfl, .inl ⟨SqL.of (w2.sub _ _ h), SqL.of (w2.sub _ _ h'), kk F2 H2 (Ext.refl w2.sub) _ ⟨fun H => SqL X.K H A vs ∧ SqL X.K H B us, YPair (fun i => vs[i]?) (fun i => us[i]?), (by unfold zipD; rw [List.length_zipWith, ← rs.length, ← rs'.length]; exact walk_zip rfl), fun F3 H3 s => ⟨SqL.of (s.2 _ _ (s.1 _ _ h)), SqL.of (s.2 _ _ (s.1 _ _ h'))⟩, fun i x F3 H3 H4 hi s y => ?_⟩⟩⟩
    obtain ⟨T, x1, y1, rfl, hT, e3, ex, ey⟩ := y
    obtain ⟨d, h1, h2⟩ := rs.get ex
    obtain ⟨d', h1', h2'⟩ := rs'.get ey
    obtain ⟨k1, k2⟩ := pair_y s.2 hT e3 (Rep.le s.1 _ _ h2) (Rep.le s.1 _ _ h2')
    exact ⟨_, _, zipD_get h1 h1', k1, k2⟩
  · cases g
    obtain ⟨A, vs, rfl, h, rs⟩ := Rep.le x2.le _ _ r
    obtain ⟨B, us, rfl, h', rs'⟩ := r2
    refine ⟨A, B, vs, us, rfl, .inr ⟨sqT_le w2.sub h, sqT_le w2.sub h', kk F2 H2 (Ext.refl w2.sub) _ ⟨fun H => SqT X.K H A vs ∧ SqT X.K H B us, YPair (fun i => vs[i]?) (fun i => us[i]?), ?_, fun F3 H3 s => ⟨sqT_le (s.1.trans s.2) h, sqT_le (s.1.trans s.2) h'⟩, fun i x F3 H3 H4 hi s y => ?_⟩⟩⟩
    · unfold zipD
      rw [List.length_zipWith, ← rs.length, ← rs'.length]
      refine ⟨fun i _ hi q => ?_, fun _ q => ⟨vs, us, q.1, q.2, by omega⟩, fun i H v H' _ q y => ?_⟩
      · have h1 : i < vs.length := by omega
        have h2 : i < us.length := by omega
        exact ⟨vs, us, vs[i], us[i], q.1, q.2, by simp [h1], by simp [h2]⟩
      · obtain ⟨T, x, y', h1, h2, h3, h4, h5⟩ := y
        exact ⟨T, x, y', h1, h2, h3, h4 vs q.1, h5 us q.2⟩
    · obtain ⟨T, x1, y1, rfl, hT, e3, ex, ey⟩ := y
      obtain ⟨d, h1, h2⟩ := rs.get ex
      obtain ⟨d', h1', h2'⟩ := rs'.get ey
      obtain ⟨k1, k2⟩ := pair_y s.2 hT e3 (Rep.le s.1 _ _ h2) (Rep.le s.1 _ _ h2')
      exact ⟨_, _, zipD_get h1 h1', k1, k2⟩
  · cases g
end
end DL

set_option Elab.async false
set_option linter.all false
set_option maxRecDepth 100000
set_option maxHeartbeats 4000000
namespace DL
open PySem PySem.Spec PyProof.Rows L2
/-! ### comprehensions on one line, of two clauses -/
/-- a target that makes no slot a list of its own -/
def GOwn (is : List Nat) (g : GD) : Prop := ∀ d δ δ', g d δ = some δ' → ∀ (j : Nat) (s : Slot), δ'[j]? = some s → s.isOwn = true → j ∉ is ∧ δ[j]? = some s
def GsOwn (is : List Nat) (g : GDs) : Prop := ∀ d δ δ', g d δ = some δ' → ∀ (j : Nat) (s : Slot), δ'[j]? = some s → s.isOwn = true → j ∉ is ∧ δ[j]? = some s
theorem go_name (i : Nat) : GOwn [i] (gdName i) := by
  intro d δ δ' e j s h o
  cases e
  by_cases q : i = j
  · subst q
    rw [List.getElem?_set, if_pos rfl] at h
    split at h <;> cases h
    cases o
  · rw [List.getElem?_set_ne q] at h
    exact ⟨by simpa using Ne.symm q, h⟩
theorem gos_nil : GsOwn [] gdNil := by
  intro d δ δ' e j s h o
  unfold gdNil at e
  split at e
  · cases e; exact ⟨by simp, h⟩
  · cases e
theorem gos_cons {is js : List Nat} {g : GD} {gs : GDs} (h1 : GOwn is g) (h2 : GsOwn js gs) : GsOwn (is ++ js) (gdCons g gs) := by
  intro d δ δ' e j s h o
  unfold gdCons at e
  split at e
  · obtain ⟨δ1, e1, e2⟩ := Option.bind_eq_some_iff.mp e
    obtain ⟨a1, a2⟩ := h2 _ _ _ e2 j s h o
    obtain ⟨b1, b2⟩ := h1 _ _ _ e1 j s a2 o
    exact ⟨by rw [List.mem_append, not_or]; exact ⟨b1, a1⟩, b2⟩
  · cases e
theorem go_tup {is : List Nat} {n : Nat} {gs : GDs} (h : GsOwn is gs) : GOwn is (gdTup n gs) := by
  intro d δ δ' e j s hh o
  unfold gdTup at e
  split at e
  · split at e
    · exact h _ _ _ e j s hh o
    · cases e
  · cases e
section
variable {X : Cx} {C : Ctx} {tg elt iter : Expr} {ifs : List Expr} {scope : Scope} {pos : Pos} {own : List (Str × Nat)} {is : List Nat} {f : DEnv → Md (List D)} {g : GD} {t : DEnv → Md Bool} {fe : DEnv → Md D}
theorem lc_imp {vs : List Nat} (his : ∀ i ∈ is, i ∈ vs) {σ : L2.St} {H : Hp} {Q : VK} (h : tN X.K X.mg C (eComp vs f g t fe) σ H Q) :
    tLc (jD X.K X.mg C f) (gD X.K X.mg C.nox is g) (tT X.K X.mg C.nox t) (tE X.K X.mg C.nox fe) vs σ H Q := by
  obtain ⟨F, δ, st, w, p⟩ := h
  refine ⟨F, δ, st, w, (PostG.bind' p).imp fun ds st1 F1 H1 x1 w1 p1 J dw A hA => ?_⟩
  obtain ⟨hz, p1⟩ : ds.length ≤ lim ∧ PostG X.K X.mg C σ δ F H (compA g t fe (wipeD δ vs) ds [] st1) _ := by
    by_cases hz : ds.length ≤ lim
    · rw [if_pos hz] at p1; exact ⟨hz, p1⟩
    · rw [if_neg hz] at p1; exact p1.elim
  obtain ⟨G, Y, w0, hG, hY⟩ := dw
  have hHA : H A = none := gone x1 hA
  have wA := w1.step (Ext.tmp (mu := fun _ => False) (o := .lst []) w1.sub hA)
  have xA : Ext C.mu F1 H1 F1 (upd H1 A (.lst [])) := Ext.tmp w1.sub hA
  have h0A : C.H0 A = none := gone w1.ext hA
  refine lc_it w0 (fun i H2 => ∃ F2 st2 acc vs', Ws X.K X.mg C σ δ st2 F2 H2 ∧ Ext C.mu F1 H1 F2 H2 ∧ H2 A = some (.lst vs') ∧ F2 A = none ∧ Reps X.K X.mg F2 acc vs' ∧ acc.length ≤ i ∧
      PostG X.K X.mg C σ δ F H (compA g t fe (wipeD δ vs) (ds.drop i) acc st2) fun ds _ F' H' => ∀ a vs, H a = none → H' a = some (HO.lst vs) → F' a = none → Reps X.K X.mg F' ds vs → Q (.ref a) H')
    ⟨F1, st1, [], [], wA, xA, upd_same, w1.sub.none hA, rfl, Nat.le_refl _, p1⟩ (fun i H2 hi ⟨F2, st2, acc, vs', w2, x2, _⟩ => hG F2 H2 x2)
    (fun i x H2 H3 hi ⟨F2, st2, acc, vs', w2, x2, a2, f2, r2, l2, q2⟩ y => ?_) (fun H2 ⟨F2, st2, acc, vs', w2, x2, a2, f2, r2, l2, q2⟩ => ?_)
  · obtain ⟨F3, d, ed, x3, r3⟩ := hY i x F2 H2 H3 hi x2 y
    have edr : ds.drop i = d :: ds.drop (i + 1) := by
      rw [List.drop_eq_getElem_cons hi]
      rw [List.getElem?_eq_getElem hi] at ed
      cases ed; rfl
    rw [edr] at q2
    unfold compA at q2
    have w3 := (w2.step x3).wipe vs
    have a3 : H3 A = some (.lst vs') := x3.keep _ _ (fun z => z) a2
    have f3 : F3 A = none := x3.new _ f2 (by rw [a2]; simp)
    cases eg : g d (wipeD δ vs) with
    | none => rw [eg] at q2; exact q2.elim
    | some δ3 =>
      rw [eg] at q2
      refine ⟨F3, d, _, δ3, st2, w3.nox, r3, eg, fun σ3 ag w4 => ⟨wipe_agree ag his, F3, δ3, st2, w4, ?_⟩⟩
      refine (PostG.bindS (C := C) (P := fun r => PostG X.K X.mg C σ δ F H r _) (fun z => z) q2).imp fun b st5 F5 H5 x5 w5 q5 => ?_
      have nm : ¬ C.mu A := w1.nomu h0A
      have a5 : H5 A = some (.lst vs') := x5.keep _ _ nm a3
      have f5 : F5 A = none := x5.new _ f3 (by rw [a3]; simp)
      have back : ∀ {F6 H6 st6}, Ext C.mu F3 H3 F6 H6 → DrOk X.K C.mu C.ad st6 F6 H6 → Ws X.K X.mg C σ δ st6 F6 H6 := fun {F6 H6 st6} xx dd => (w2.step x3).step' xx dd
      cases b with
      | false =>
        rw [if_neg Bool.false_ne_true] at q5
        refine iteF ?_
        exact ⟨F5, st5, acc, vs', back x5 w5.dr, (x2.trans x3.weak).trans x5, a5, f5, Reps.le (x3.le.trans x5.le) _ _ r2, Nat.le_succ_of_le l2, q5⟩
      | true =>
        rw [if_pos rfl] at q5
        refine iteT ?_
        refine ⟨F5, δ3, st5, w5, ?_⟩
        refine (PostG.bindS (C := C) (P := fun r => PostG X.K X.mg C σ δ F H r _) (fun z => z) q5).imp fun yd st6 F6 H6 x6 w6 q6 yv ry => ?_
        have a6 : H6 A = some (.lst vs') := x6.keep _ _ nm a5
        have f6 : F6 A = none := x6.new _ f5 (by rw [a5]; simp)
        have w7 := back (x5.trans x6) w6.dr
        have x7 : Ext C.mu F1 H1 F6 H6 := ((x2.trans x3.weak).trans x5).trans x6
        have r6 : Reps X.K X.mg F6 acc vs' := Reps.le (x3.le.trans (x5.le.trans x6.le)) _ _ r2
        have hl : vs'.length < sizeLine := by
          rw [r2.length]
          have : acc.length < lim := Nat.lt_of_le_of_lt l2 (Nat.lt_of_lt_of_le hi hz)
          exact Nat.lt_of_lt_of_le this lim_le
        refine ⟨vs', a6, hl, F6, st6, acc ++ [yd], vs' ++ [yv], ?_, ?_, upd_same, f6, r6.append (.one ry), by rw [List.length_append]; exact Nat.succ_le_succ l2, q6⟩
        · exact w7.updNew a6 f6 h0A fun j s e o z => by
            have := w1.ownNe hA j s e o
            exact this z
        · exact x7.updAt hA f6
  · rw [List.drop_length] at q2
    exact q2 F2 H2 (x1.trans x2) w2 A vs' hHA a2 f2 r2
/-- x = [..] on one line -/
theorem ds_setLc {i : Nat} {y : Str} {py spos : Pos} (own_ : own = own) (hc : X.calm = true) (hN : X.N.Nodup) (hi : DJ X C tg iter f) (ok : BlkOk X.N X.env.scope scope own)
    (hg : ∀ (s : Shared) (H : Hp) (D : Addr) (cl : List (Str × Addr)) (fp : List Addr), DG (X.blk s H scope (compEnvC scope cl D X.env) fp) C.nox tg is g)
    (ht : ∀ (s : Shared) (H : Hp) (D : Addr) (cl : List (Str × Addr)) (fp : List Addr), DTs (X.blk s H scope (compEnvC scope cl D X.env) fp) C.nox ifs t)
    (he : ∀ (s : Shared) (H : Hp) (D : Addr) (cl : List (Str × Addr)) (fp : List Addr), DE (X.blk s H scope (compEnvC scope cl D X.env) fp) C.nox elt fe)
    (hsw : swapsWith (.ListComp elt [⟨tg, iter, ifs, 0⟩] scope pos) (some (.Name y py)) spos.line X.env = pure true) (hy : X.N[i]? = some y := by rfl) (hyl : X.env.scope.names.lookup y = some .local := by rfl)
    (his : ∀ i ∈ is, i ∈ own.map (·.2) := by decide) (hs : ∀ x, foldedSetIterable iter X.env x = pure x := by intro _; rfl) :
    DS X C (.Assign [.Name y py] (.ListComp elt [⟨tg, iter, ifs, 0⟩] scope pos) spos) (sSetN i (eComp (own.map (·.2)) f g t fe)) := by
  have hg' : ∀ (s : Shared) (H : Hp) (D : Addr) (cl : List (Str × Addr)) (fp : List Addr), PG (X.blk s H scope (compEnvC scope cl D X.env) fp) tg (gD X.K X.mg C.nox is g) := hg
  have ht' : ∀ (s : Shared) (H : Hp) (D : Addr) (cl : List (Str × Addr)) (fp : List Addr), PTs (X.blk s H scope (compEnvC scope cl D X.env) fp) ifs (tT X.K X.mg C.nox t) := fun s H D cl fp => (ht s H D cl fp).run
  have he' : ∀ (s : Shared) (H : Hp) (D : Addr) (cl : List (Str × Addr)) (fp : List Addr), PE (X.blk s H scope (compEnvC scope cl D X.env) fp) elt (tE X.K X.mg C.nox fe) := he
  refine PS.imp (ps_setLc hc hN hy hyl hsw hi ok hg' ht' he' hs) fun E σ H ⟨F, δ, st, w, p⟩ => ?_
  refine lc_imp his ⟨F, δ, st, w, (PostG.ofS p).imp fun ds st1 F1 H1 x1 w1 q a vs n h1 n1 r => ?_⟩
  exact q _ F1 H1 Le.refl (w.newOwn w1 n h1 n1 r)
/-- two clauses -/
def compA2 (g : GD) (t : DEnv → Md Bool) (f1 : DEnv → Md (List D)) (vs1 : List Nat) (g1 : GD) (t1 : DEnv → Md Bool) (e : DEnv → Md D) (δ : DEnv) : List D → List D → Md (List D)
  | [], acc => Md.pure acc
  | d :: ds, acc => match g d δ with
    | none => Md.stuck
    | some δ1 => bindS (t δ1) fun b => if b = true then bindS (f1 δ1) fun es => if acc.length + es.length ≤ lim then bindS (compA g1 t1 e (wipeD δ1 vs1) es acc) fun acc' => compA2 g t f1 vs1 g1 t1 e δ ds acc' else Md.stuck
      else compA2 g t f1 vs1 g1 t1 e δ ds acc
def eComp2 (vs : List Nat) (f : DEnv → Md (List D)) (g : GD) (t : DEnv → Md Bool) (f1 : DEnv → Md (List D)) (vs1 : List Nat) (g1 : GD) (t1 : DEnv → Md Bool) (e : DEnv → Md D) : DEnv → Md (List D) := fun δ => Md.bind (f δ) fun ds => compA2 g t f1 vs1 g1 t1 e (wipeD δ vs) ds []
theorem PostG.bindS2 {K : PySem.W.Frag} {mg : Str → Option Value} {α β : Type} {r : Md α} {st : Option Dr} {g : α → Md β} {P : Res β → Prop} (hP : ¬ P .stuck) (p : P (DL.bindS r g st)) : ∃ a st', r st = .ok a st' ∧ P (g a st') := by
  unfold DL.bindS at p
  cases e : r st with
  | ok a st' => rw [e] at p; exact ⟨a, st', rfl, p⟩
  | err c w st' => rw [e] at p; exact absurd p hP
  | stuck => rw [e] at p; exact absurd p hP
theorem bindS_assoc {α β γ : Type} (f : Md α) (g : α → Md β) (h : β → Md γ) : bindS (bindS f g) h = bindS f fun a => bindS (g a) h := by
  funext st
  unfold bindS
  cases f st <;> rfl
theorem lc2_imp {vs vs1 is1 : List Nat} {f1 : DEnv → Md (List D)} {g1 : GD} {t1 : DEnv → Md Bool} (his : ∀ i ∈ is, i ∈ vs) (his1 : ∀ i ∈ is1, i ∈ vs1) (go : GOwn is g) {σ : L2.St} {H : Hp} {Q : VK} (h : tN X.K X.mg C (eComp2 vs f g t f1 vs1 g1 t1 fe) σ H Q) :
    tLc2 (jD X.K X.mg C f) (gD X.K X.mg C.nox is g) (tT X.K X.mg C.nox t) (iD X.K X.mg C.nox f1) (gD X.K X.mg C.nox is1 g1) (tT X.K X.mg C.nox t1) (tE X.K X.mg C.nox fe) vs vs1 σ H Q := by
  obtain ⟨F, δ, st, w, p⟩ := h
  refine ⟨F, δ, st, w, (PostG.bind' p).imp fun ds st1 F1 H1 x1 w1 p1 J dw A hA => ?_⟩
  obtain ⟨G, Y, w0, hG, hY⟩ := dw
  have hHA : H A = none := gone x1 hA
  have wA := w1.step (Ext.tmp (mu := fun _ => False) (o := .lst []) w1.sub hA)
  have xA : Ext C.mu F1 H1 F1 (upd H1 A (.lst [])) := Ext.tmp w1.sub hA
  have h0A : C.H0 A = none := gone w1.ext hA
  have nm : ¬ C.mu A := w1.nomu h0A
  refine ⟨fun i m H2 => m = ds.length - i ∧ i ≤ ds.length ∧ ∃ F2 st2 acc vs', Ws X.K X.mg C σ δ st2 F2 H2 ∧ Ext C.mu F1 H1 F2 H2 ∧ H2 A = some (.lst vs') ∧ F2 A = none ∧ Reps X.K X.mg F2 acc vs' ∧
      PostG X.K X.mg C σ δ F H (compA2 g t f1 vs1 g1 t1 fe (wipeD δ vs) (ds.drop i) acc st2) fun ds _ F' H' => ∀ a vs, H a = none → H' a = some (HO.lst vs) → F' a = none → Reps X.K X.mg F' ds vs → Q (.ref a) H',
    ⟨_, rfl, Nat.zero_le _, F1, st1, [], [], wA, xA, upd_same, w1.sub.none hA, rfl, p1⟩, ?_⟩
  rintro i m H2 ⟨rfl, hi, F2, st2, acc, vs', w2, x2, a2, f2, r2, q2⟩
  by_cases hlt : i < ds.length
  · refine .inr ⟨w0.goes i H2 hlt (hG F2 H2 x2), fun H' => ∃ F2 st2 acc vs', Ws X.K X.mg C σ δ st2 F2 H' ∧ Ext C.mu F1 H1 F2 H' ∧ H' A = some (.lst vs') ∧ F2 A = none ∧ Reps X.K X.mg F2 acc vs' ∧
      PostG X.K X.mg C σ δ F H (compA2 g t f1 vs1 g1 t1 fe (wipeD δ vs) (ds.drop (i + 1)) acc st2) fun ds _ F' H' => ∀ a vs, H a = none → H' a = some (HO.lst vs) → F' a = none → Reps X.K X.mg F' ds vs → Q (.ref a) H',
      fun H' nx => ⟨_, by omega, rfl, hlt, nx⟩, fun x H3 y => ?_⟩
    obtain ⟨F3, d, ed, x3, r3⟩ := hY i x F2 H2 H3 hlt x2 (w0.yields i H2 x H3 hlt (hG F2 H2 x2) y)
    have edr : ds.drop i = d :: ds.drop (i + 1) := by
      rw [List.drop_eq_getElem_cons hlt]
      rw [List.getElem?_eq_getElem hlt] at ed
      cases ed; rfl
    rw [edr] at q2
    unfold compA2 at q2
    have w3 := (w2.step x3).wipe vs
    have a3 : H3 A = some (.lst vs') := x3.keep _ _ (fun z => z) a2
    have f3 : F3 A = none := x3.new _ f2 (by rw [a2]; simp)
    cases eg : g d (wipeD δ vs) with
    | none => rw [eg] at q2; exact q2.elim
    | some δ3 =>
      rw [eg] at q2
      refine ⟨F3, d, _, δ3, st2, w3.nox, r3, eg, fun σ3 ag w4 => ⟨wipe_agree ag his, F3, δ3, st2, w4, ?_⟩⟩
      have noA : ∀ (j : Nat) (s : Slot), δ3[j]? = some s → s.isOwn = true → σ3[j]? ≠ some (some (V.ref A)) := fun j s e o z => by
        obtain ⟨n1, n2⟩ := go _ _ _ eg j s e o
        obtain ⟨n3, n4⟩ := wipeD_get n2 (fun q => by rw [q] at o; cases o)
        rw [ag.2 j n1, wipe_out n3] at z
        exact w1.ownNe hA j s n4 o z
      refine (PostG.bindS (C := C) (P := fun r => PostG X.K X.mg C σ δ F H r _) (fun z => z) q2).imp fun b st5 F5 H5 x5 w5 q5 => ?_
      have a5 : H5 A = some (.lst vs') := x5.keep _ _ nm a3
      have f5 : F5 A = none := x5.new _ f3 (by rw [a3]; simp)
      have back : ∀ {F6 H6 st6}, Ext C.mu F3 H3 F6 H6 → DrOk X.K C.mu C.ad st6 F6 H6 → Ws X.K X.mg C σ δ st6 F6 H6 := fun {F6 H6 st6} xx dd => (w2.step x3).step' xx dd
      cases b with
      | false =>
        rw [if_neg Bool.false_ne_true] at q5
        refine iteF ?_
        exact ⟨F5, st5, acc, vs', back x5 w5.dr, (x2.trans x3.weak).trans x5, a5, f5, Reps.le (x3.le.trans x5.le) _ _ r2, q5⟩
      | true =>
        rw [if_pos rfl] at q5
        refine iteT ?_
        refine ⟨F5, δ3, st5, w5, ?_⟩
        refine (PostG.bindS (C := C) (P := fun r => PostG X.K X.mg C σ δ F H r _) (fun z => z) q5).imp fun es st6 F6 H6 x6 w6 q6 J1 dw1 => ?_
        obtain ⟨hz, q6⟩ : acc.length + es.length ≤ lim ∧ PostG X.K X.mg C σ δ F H (bindS (compA g1 t1 fe (wipeD δ3 vs1) es acc) (fun acc' => compA2 g t f1 vs1 g1 t1 fe (wipeD δ vs) (ds.drop (i + 1)) acc') st6) _ := by
          by_cases hz : acc.length + es.length ≤ lim
          · rw [if_pos hz] at q6; exact ⟨hz, q6⟩
          · rw [if_neg hz] at q6; exact q6.elim
        obtain ⟨G1, Y1, v0, hG1, hY1⟩ := dw1
        have a6 : H6 A = some (.lst vs') := x6.keep _ _ nm a5
        have f6 : F6 A = none := x6.new _ f5 (by rw [a5]; simp)
        have w7 := back (x5.trans x6) w6.dr
        have x7 : Ext C.mu F1 H1 F6 H6 := ((x2.trans x3.weak).trans x5).trans x6
        have r6 : Reps X.K X.mg F6 acc vs' := Reps.le (x3.le.trans (x5.le.trans x6.le)) _ _ r2
        refine ⟨fun j k H8 => k = es.length - j ∧ j ≤ es.length ∧ ∃ F8 st8 acc8 vs8, Ws X.K X.mg C σ δ st8 F8 H8 ∧ Ws X.K X.mg C.nox σ3 δ3 st8 F8 H8 ∧ Ext C.mu F1 H1 F8 H8 ∧ Le F6 F8 ∧ H8 A = some (.lst vs8) ∧ F8 A = none ∧ Reps X.K X.mg F8 acc8 vs8 ∧ acc8.length ≤ acc.length + j ∧
            PostG X.K X.mg C σ δ F H (bindS (compA g1 t1 fe (wipeD δ3 vs1) (es.drop j) acc8) (fun acc' => compA2 g t f1 vs1 g1 t1 fe (wipeD δ vs) (ds.drop (i + 1)) acc') st8) fun ds _ F' H' => ∀ a vs, H a = none → H' a = some (HO.lst vs) → F' a = none → Reps X.K X.mg F' ds vs → Q (.ref a) H',
          ⟨_, rfl, Nat.zero_le _, F6, st6, acc, vs', w7, w6, x7, Le.refl, a6, f6, r6, Nat.le_refl _, q6⟩, ?_⟩
        rintro j k H8 ⟨rfl, hj, F8, st8, acc8, vs8, u8, b8, x8, l8, a8, f8, r8, n8, q8⟩
        by_cases hjl : j < es.length
        · refine .inr ⟨v0.goes j H8 hjl (hG1 F8 H8 ⟨l8, b8.sub⟩), fun H8 => ∃ F8 st8 acc8 vs8, Ws X.K X.mg C σ δ st8 F8 H8 ∧ Ws X.K X.mg C.nox σ3 δ3 st8 F8 H8 ∧ Ext C.mu F1 H1 F8 H8 ∧ Le F6 F8 ∧ H8 A = some (.lst vs8) ∧ F8 A = none ∧ Reps X.K X.mg F8 acc8 vs8 ∧ acc8.length ≤ acc.length + (j + 1) ∧
            PostG X.K X.mg C σ δ F H (bindS (compA g1 t1 fe (wipeD δ3 vs1) (es.drop (j + 1)) acc8) (fun acc' => compA2 g t f1 vs1 g1 t1 fe (wipeD δ vs) (ds.drop (i + 1)) acc') st8) fun ds _ F' H' => ∀ a vs, H a = none → H' a = some (HO.lst vs) → F' a = none → Reps X.K X.mg F' ds vs → Q (.ref a) H',
            fun H' nx => ⟨_, by omega, rfl, hjl, nx⟩, fun x' H9 y' => ?_⟩
          obtain ⟨F9, d', ed', x9, r9⟩ := hY1 j x' F8 H8 H9 hjl ⟨l8, b8.sub⟩ (v0.yields j H8 x' H9 hjl (hG1 F8 H8 ⟨l8, b8.sub⟩) y')
          have edr' : es.drop j = d' :: es.drop (j + 1) := by
            rw [List.drop_eq_getElem_cons hjl]
            rw [List.getElem?_eq_getElem hjl] at ed'
            cases ed'; rfl
          rw [edr'] at q8
          unfold compA at q8
          have b9 := (b8.step x9).wipe vs1
          have a9 : H9 A = some (.lst vs8) := x9.keep _ _ (fun z => z) a8
          have f9 : F9 A = none := x9.new _ f8 (by rw [a8]; simp)
          cases eg1 : g1 d' (wipeD δ3 vs1) with
          | none => rw [eg1] at q8; exact q8.elim
          | some δ4 =>
            rw [eg1] at q8
            refine ⟨F9, d', _, δ4, st8, b9.nox, r9, eg1, fun σ4 ag1 w10 => ⟨wipe_agree ag1 his1, F9, δ4, st8, w10, ?_⟩⟩
            have q8' : PostG X.K X.mg C σ δ F H (bindS (bindS (t1 δ4) fun b => if b = true then bindS (fe δ4) fun y => compA g1 t1 fe (wipeD δ3 vs1) (es.drop (j + 1)) (acc8 ++ [y]) else compA g1 t1 fe (wipeD δ3 vs1) (es.drop (j + 1)) acc8) (fun acc' => compA2 g t f1 vs1 g1 t1 fe (wipeD δ vs) (ds.drop (i + 1)) acc') st8) _ := q8
            rw [bindS_assoc] at q8'
            refine (PostG.bindS (C := C) (P := fun r => PostG X.K X.mg C σ δ F H r _) (fun z => z) q8').imp fun b' st11 F11 H11 x11 w11 q11 => ?_
            have a11 : H11 A = some (.lst vs8) := x11.keep _ _ nm a9
            have f11 : F11 A = none := x11.new _ f9 (by rw [a9]; simp)
            have u11 := (u8.step x9).step' x11 w11.dr
            have b11 : Ws X.K X.mg C.nox σ3 δ3 st11 F11 H11 := (b8.step x9).step' x11 w11.dr
            have xx11 := (x8.trans x9.weak).trans x11
            have l11 : Le F6 F11 := l8.trans (x9.le.trans x11.le)
            have r11 : Reps X.K X.mg F11 acc8 vs8 := Reps.le (x9.le.trans x11.le) _ _ r8
            cases b' with
            | false =>
              rw [if_neg Bool.false_ne_true] at q11
              refine iteF ?_
              exact ⟨F11, st11, acc8, vs8, u11, b11, xx11, l11, a11, f11, r11, by omega, q11⟩
            | true =>
              rw [if_pos rfl] at q11
              refine iteT ?_
              refine ⟨F11, δ4, st11, w11, ?_⟩
              rw [bindS_assoc] at q11
              refine (PostG.bindS (C := C) (P := fun r => PostG X.K X.mg C σ δ F H r _) (fun z => z) q11).imp fun yd st12 F12 H12 x12 w12 q12 yv ry => ?_
              have a12 : H12 A = some (.lst vs8) := x12.keep _ _ nm a11
              have f12 : F12 A = none := x12.new _ f11 (by rw [a11]; simp)
              have u12 := u11.step' x12 w12.dr
              have b12 : Ws X.K X.mg C.nox σ3 δ3 st12 F12 H12 := b11.step' x12 w12.dr
              have r12 : Reps X.K X.mg F12 acc8 vs8 := Reps.le x12.le _ _ r11
              have hl : vs8.length < sizeLine := by
                rw [r12.length]
                have : acc8.length < lim := by omega
                exact Nat.lt_of_lt_of_le this lim_le
              refine ⟨vs8, a12, hl, F12, st12, acc8 ++ [yd], vs8 ++ [yv], ?_, ?_, ?_, l11.trans x12.le, upd_same, f12, r12.append (.one ry), by rw [List.length_append]; show acc8.length + 1 ≤ _; omega, q12⟩
              · exact u12.updNew a12 f12 h0A fun j s e o z => w1.ownNe hA j s e o z
              · exact b12.updNew a12 f12 h0A noA
              · exact (xx11.trans x12).updAt hA f12
        · have e : j = es.length := by omega
          subst e
          refine .inl ⟨v0.stops H8 (hG1 F8 H8 ⟨l8, b8.sub⟩), ?_⟩
          rw [List.drop_length] at q8
          exact ⟨F8, st8, acc8, vs8, u8, x8, a8, f8, r8, q8⟩
  · have e : i = ds.length := by omega
    subst e
    rw [List.drop_length] at q2
    exact .inl ⟨w0.stops H2 (hG F2 H2 x2), q2 F2 H2 (x1.trans x2) w2 A vs' hHA a2 f2 r2⟩
variable {tg1 iter1 : Expr} {ifs1 : List Expr} {is1 vs1 : List Nat} {f1 : DEnv → Md (List D)} {g1 : GD} {t1 : DEnv → Md Bool}
theorem dn_lc2 (own_ : own = own) (vs1_ : vs1 = vs1) (hc : X.calm = true) (hN : X.N.Nodup) (hi : DJ X C tg iter f) (ok : BlkOk X.N X.env.scope scope own) (go : GOwn is g)
    (hg : ∀ (s : Shared) (H : Hp) (D : Addr) (cl : List (Str × Addr)) (fp : List Addr), DG (X.blk s H scope (compEnvC scope cl D X.env) fp) C.nox tg is g)
    (ht : ∀ (s : Shared) (H : Hp) (D : Addr) (cl : List (Str × Addr)) (fp : List Addr), DTs (X.blk s H scope (compEnvC scope cl D X.env) fp) C.nox ifs t)
    (hi1 : ∀ (s : Shared) (H : Hp) (D : Addr) (cl : List (Str × Addr)) (fp : List Addr), DI (X.blk s H scope (compEnvC scope cl D X.env) fp) C.nox tg1 iter1 f1)
    (hg1 : ∀ (s : Shared) (H : Hp) (D : Addr) (cl : List (Str × Addr)) (fp : List Addr), DG (X.blk s H scope (compEnvC scope cl D X.env) fp) C.nox tg1 is1 g1)
    (ht1 : ∀ (s : Shared) (H : Hp) (D : Addr) (cl : List (Str × Addr)) (fp : List Addr), DTs (X.blk s H scope (compEnvC scope cl D X.env) fp) C.nox ifs1 t1)
    (he : ∀ (s : Shared) (H : Hp) (D : Addr) (cl : List (Str × Addr)) (fp : List Addr), DE (X.blk s H scope (compEnvC scope cl D X.env) fp) C.nox elt fe)
    (his : ∀ i ∈ is, i ∈ own.map (·.2) := by decide) (his1 : ∀ i ∈ is1, i ∈ vs1 := by decide) (hv : ∀ i ∈ vs1, i ∈ own.map (·.2) := by decide) (hs : ∀ x, foldedSetIterable iter X.env x = pure x := by intro _; rfl) (hs1 : ∀ env x, foldedSetIterable iter1 env x = pure x := by intro _ _; rfl) :
    DN X C (.ListComp elt [⟨tg, iter, ifs, 0⟩, ⟨tg1, iter1, ifs1, 0⟩] scope pos) (eComp2 (own.map (·.2)) f g t f1 vs1 g1 t1 fe) := by
  have hg' : ∀ (s : Shared) (H : Hp) (D : Addr) (cl : List (Str × Addr)) (fp : List Addr), PG (X.blk s H scope (compEnvC scope cl D X.env) fp) tg (gD X.K X.mg C.nox is g) := hg
  have ht' : ∀ (s : Shared) (H : Hp) (D : Addr) (cl : List (Str × Addr)) (fp : List Addr), PTs (X.blk s H scope (compEnvC scope cl D X.env) fp) ifs (tT X.K X.mg C.nox t) := fun s H D cl fp => (ht s H D cl fp).run
  have hi' : ∀ (s : Shared) (H : Hp) (D : Addr) (cl : List (Str × Addr)) (fp : List Addr), PI (X.blk s H scope (compEnvC scope cl D X.env) fp) tg1 iter1 (iD X.K X.mg C.nox f1) := hi1
  have hg1' : ∀ (s : Shared) (H : Hp) (D : Addr) (cl : List (Str × Addr)) (fp : List Addr), PG (X.blk s H scope (compEnvC scope cl D X.env) fp) tg1 (gD X.K X.mg C.nox is1 g1) := hg1
  have ht1' : ∀ (s : Shared) (H : Hp) (D : Addr) (cl : List (Str × Addr)) (fp : List Addr), PTs (X.blk s H scope (compEnvC scope cl D X.env) fp) ifs1 (tT X.K X.mg C.nox t1) := fun s H D cl fp => (ht1 s H D cl fp).run
  have he' : ∀ (s : Shared) (H : Hp) (D : Addr) (cl : List (Str × Addr)) (fp : List Addr), PE (X.blk s H scope (compEnvC scope cl D X.env) fp) elt (tE X.K X.mg C.nox fe) := he
  exact PE.imp (pe_lc2 (vs1 := vs1) hc hN hi ok hv hg' ht' hi' hg1' ht1' he' hs hs1) fun σ H Q p => lc2_imp his his1 go p
theorem ds_setLc2 {i : Nat} {y : Str} {py spos : Pos} (own_ : own = own) (vs1_ : vs1 = vs1) (hc : X.calm = true) (hN : X.N.Nodup) (hi : DJ X C tg iter f) (ok : BlkOk X.N X.env.scope scope own) (go : GOwn is g)
    (hg : ∀ (s : Shared) (H : Hp) (D : Addr) (cl : List (Str × Addr)) (fp : List Addr), DG (X.blk s H scope (compEnvC scope cl D X.env) fp) C.nox tg is g)
    (ht : ∀ (s : Shared) (H : Hp) (D : Addr) (cl : List (Str × Addr)) (fp : List Addr), DTs (X.blk s H scope (compEnvC scope cl D X.env) fp) C.nox ifs t)
    (hi1 : ∀ (s : Shared) (H : Hp) (D : Addr) (cl : List (Str × Addr)) (fp : List Addr), DI (X.blk s H scope (compEnvC scope cl D X.env) fp) C.nox tg1 iter1 f1)
    (hg1 : ∀ (s : Shared) (H : Hp) (D : Addr) (cl : List (Str × Addr)) (fp : List Addr), DG (X.blk s H scope (compEnvC scope cl D X.env) fp) C.nox tg1 is1 g1)
    (ht1 : ∀ (s : Shared) (H : Hp) (D : Addr) (cl : List (Str × Addr)) (fp : List Addr), DTs (X.blk s H scope (compEnvC scope cl D X.env) fp) C.nox ifs1 t1)
    (he : ∀ (s : Shared) (H : Hp) (D : Addr) (cl : List (Str × Addr)) (fp : List Addr), DE (X.blk s H scope (compEnvC scope cl D X.env) fp) C.nox elt fe)
    (hsw : swapsWith (.ListComp elt [⟨tg, iter, ifs, 0⟩, ⟨tg1, iter1, ifs1, 0⟩] scope pos) (some (.Name y py)) spos.line X.env = pure true) (hy : X.N[i]? = some y := by rfl) (hyl : X.env.scope.names.lookup y = some .local := by rfl)
    (his : ∀ i ∈ is, i ∈ own.map (·.2) := by decide) (his1 : ∀ i ∈ is1, i ∈ vs1 := by decide) (hv : ∀ i ∈ vs1, i ∈ own.map (·.2) := by decide) (hs : ∀ x, foldedSetIterable iter X.env x = pure x := by intro _; rfl) (hs1 : ∀ env x, foldedSetIterable iter1 env x = pure x := by intro _ _; rfl) :
    DS X C (.Assign [.Name y py] (.ListComp elt [⟨tg, iter, ifs, 0⟩, ⟨tg1, iter1, ifs1, 0⟩] scope pos) spos) (sSetN i (eComp2 (own.map (·.2)) f g t f1 vs1 g1 t1 fe)) := by
  have hg' : ∀ (s : Shared) (H : Hp) (D : Addr) (cl : List (Str × Addr)) (fp : List Addr), PG (X.blk s H scope (compEnvC scope cl D X.env) fp) tg (gD X.K X.mg C.nox is g) := hg
  have ht' : ∀ (s : Shared) (H : Hp) (D : Addr) (cl : List (Str × Addr)) (fp : List Addr), PTs (X.blk s H scope (compEnvC scope cl D X.env) fp) ifs (tT X.K X.mg C.nox t) := fun s H D cl fp => (ht s H D cl fp).run
  have hi' : ∀ (s : Shared) (H : Hp) (D : Addr) (cl : List (Str × Addr)) (fp : List Addr), PI (X.blk s H scope (compEnvC scope cl D X.env) fp) tg1 iter1 (iD X.K X.mg C.nox f1) := hi1
  have hg1' : ∀ (s : Shared) (H : Hp) (D : Addr) (cl : List (Str × Addr)) (fp : List Addr), PG (X.blk s H scope (compEnvC scope cl D X.env) fp) tg1 (gD X.K X.mg C.nox is1 g1) := hg1
  have ht1' : ∀ (s : Shared) (H : Hp) (D : Addr) (cl : List (Str × Addr)) (fp : List Addr), PTs (X.blk s H scope (compEnvC scope cl D X.env) fp) ifs1 (tT X.K X.mg C.nox t1) := fun s H D cl fp => (ht1 s H D cl fp).run
  have he' : ∀ (s : Shared) (H : Hp) (D : Addr) (cl : List (Str × Addr)) (fp : List Addr), PE (X.blk s H scope (compEnvC scope cl D X.env) fp) elt (tE X.K X.mg C.nox fe) := he
  refine PS.imp (ps_setLc2 (vs1 := vs1) hc hN hy hyl hsw hi ok hv hg' ht' hi' hg1' ht1' he' hs hs1) fun E σ H ⟨F, δ, st, w, p⟩ => ?_
  refine lc2_imp his his1 go ⟨F, δ, st, w, (PostG.ofS p).imp fun ds st1 F1 H1 x1 w1 q a vs n h1 n1 r => ?_⟩
  exact q _ F1 H1 Le.refl (w.newOwn w1 n h1 n1 r)
end
end DL

set_option Elab.async false
set_option linter.all false
set_option maxRecDepth 100000
set_option maxHeartbeats 4000000
/-! sorted of tuples of ints -/
namespace DL
open PySem PySem.Spec PyProof.Rows L2
def lexI : List Int → List Int → Bool
  | [], [] => false
  | [], _ :: _ => true
  | _ :: _, [] => false
  | a :: as, b :: bs => if a = b then lexI as bs else decide (a < b)
theorem lexI_asym : ∀ x y : List Int, lexI x y = true → lexI y x = false
  | [], [], h => by cases h
  | [], _ :: _, _ => rfl
  | _ :: _, [], h => by cases h
  | a :: as, b :: bs, h => by
    unfold lexI at h ⊢
    by_cases e : a = b
    · rw [if_pos e] at h; rw [if_pos e.symm]; exact lexI_asym as bs h
    · rw [if_neg e] at h; rw [if_neg (Ne.symm e)]
      have := of_decide_eq_true h
      exact decide_eq_false (by omega)
theorem lexI_tr : ∀ x y z : List Int, lexI y x = false → lexI z y = false → lexI z x = false
  | [], y, z, h1, h2 => by
    cases z with
    | nil => rfl
    | cons c cs => rfl
  | a :: as, [], z, h1, h2 => by cases h1
  | a :: as, b :: bs, [], h1, h2 => by cases h2
  | a :: as, b :: bs, c :: cs, h1, h2 => by
    unfold lexI at h1 h2 ⊢
    by_cases e : c = b
    · subst e
      rw [if_pos rfl] at h2
      by_cases e2 : c = a
      · rw [if_pos e2] at h1 ⊢; exact lexI_tr as bs cs h1 h2
      · rw [if_neg e2] at h1 ⊢; exact h1
    · rw [if_neg e] at h2
      have l2 := of_decide_eq_false h2
      by_cases e2 : b = a
      · subst e2
        rw [if_neg e]; exact h2
      · rw [if_neg e2] at h1
        have l1 := of_decide_eq_false h1
        have : ¬ c = a := by omega
        rw [if_neg this]
        exact decide_eq_false (by omega)
theorem lexI_eq : ∀ x y : List Int, lexI x y = false → lexI y x = false → x = y
  | [], [], _, _ => rfl
  | [], _ :: _, h, _ => by cases h
  | _ :: _, [], _, h => by cases h
  | a :: as, b :: bs, h1, h2 => by
    unfold lexI at h1 h2
    by_cases e : a = b
    · subst e; rw [if_pos rfl] at h1 h2; rw [lexI_eq as bs h1 h2]
    · rw [if_neg e] at h1; rw [if_neg (Ne.symm e)] at h2
      have := of_decide_eq_false h1
      have := of_decide_eq_false h2
      omega
theorem swo_lexI {α : Type} (k : α → List Int) : SrtO.Swo fun v u => lexI (k v) (k u) :=
  ⟨fun x y h => lexI_asym _ _ h, fun x y z h1 h2 => lexI_tr _ _ _ h1 h2⟩
section
variable {prog : Program} {w : World} {A : Around} {E : Value → Shared → Prop} {s : Shared}
open TS in
theorem lex_intsA {b f : Bool} {Q : Bool → Shared → Prop} : ∀ {xs ys : List Value} {ns ms : List Int} (i : Nat), IntsAre xs ns → IntsAre ys ms → f = decide (ns.length < ms.length) → Q (lexI ns ms) s → PySem.W.KatLex prog w A b f Q (xs.zip ys) i s
  | _, _, _, _, i, .nil, .nil, e, h => by subst e; exact h
  | _, _, _, _, i, .nil, .cons _ _ _, e, h => by subst e; exact h
  | _, _, _, _, i, .cons _ _ _, .nil, e, h => by subst e; exact h
  | _, _, _, _, i, .cons p t hx, .cons q u hy, e, h => by
    rw [List.zip_cons_cons]
    refine PySem.W.kat_cons (SeqAt.EqAt.int_int p t q u prog w _ _ ?_)
    refine PySem.W.kat_go (fun e1 => ?_) (fun e1 => ?_)
    · have ex : p = q := by simpa using e1
      unfold lexI at h
      rw [if_pos ex] at h
      refine PySem.W.kat_yes (lex_intsA (i + 1) hx hy ?_ h)
      rw [e, List.length_cons, List.length_cons]
      exact decide_eq_decide.mpr (by omega)
    · have ex : ¬ p = q := by simpa using e1
      unfold lexI at h
      rw [if_neg ex] at h
      exact PySem.W.kat_no (oneLt_ints _ h)
/-- what is sorted: tuples of ints, none of them empty -/
def TupsI (h : Heap) (k : Value → List Int) (vs : List Value) : Prop := ∀ v, v ∈ vs → TS.TupInts h v (k v) ∧ k v ≠ []
theorem firstsI {h : Heap} {k : Value → List Int} : ∀ vs : List Value, TupsI h k vs → ∃ fs, PySem.W.KatTups h vs fs ∧ fs.length = vs.length ∧ ∀ f, f ∈ fs → ∃ n t, f = Value.int n t
  | [], _ => ⟨[], PySem.W.KatTups.nil, rfl, fun f hf => by simp at hf⟩
  | v :: vs, x => by
    obtain ⟨fs, kk, hl, hi⟩ := firstsI vs fun u hu => x u (List.mem_cons_of_mem _ hu)
    obtain ⟨⟨a, xs, rfl, ⟨o, ho, hc, n, hdt⟩, i⟩, hn⟩ := x v (List.mem_cons_self ..)
    obtain ⟨y, ys, e⟩ : ∃ y ys, xs.toList = y :: ys := by
      cases q : xs.toList with
      | nil =>
        rw [q] at i
        have l := i.length
        rw [List.length_nil] at l
        exact absurd (List.eq_nil_of_length_eq_zero l.symm) hn
      | cons y ys => exact ⟨y, ys, rfl⟩
    obtain ⟨m, t, hy⟩ := i.all y (by rw [e]; exact List.mem_cons_self ..)
    refine ⟨y :: fs, PySem.W.KatTups.cons ho hc hdt ?_ kk, by simp [hl], ?_⟩
    · have z := congrArg (fun l : List Value => l[0]?) e
      simpa using z
    · intro f hf
      rcases List.mem_cons.mp hf with rfl | hf
      · exact ⟨m, t, hy⟩
      · exact hi f hf
theorem tupsI_cmp {vs : List Value} {k : Value → List Int} (hp : TupsI s.heap k vs) : SrtO.Cmp prog w A s (tuples' true) (fun p => p.1 ∈ vs) (SrtO.lt2 fun v u => lexI (k v) (k u)) := by
  intro p q hm hm'
  obtain ⟨⟨a, xs, e, ⟨o, ho, hc, n, hd⟩, i⟩, _⟩ := hp _ hm
  obtain ⟨⟨a', xs', e', ⟨o', ho', hc', n', hd'⟩, i'⟩, _⟩ := hp _ hm'
  show wpAny (model prog w) A (keyLt' (tuples' true) p.1 q.1) (fun r s' => s' = s ∧ r = lexI (k p.1) (k q.1)) (fun _ _ => False) s
  generalize k p.1 = ns at i ⊢
  generalize k q.1 = ms at i' ⊢
  rw [e, e']
  refine PySem.W.kat_lt ho hd ho' hd' (lex_intsA 0 i i' ?_ ⟨rfl, rfl⟩)
  have l1 := i.length
  have l2 := i'.length
  rw [Array.length_toList] at l1 l2
  rw [l1, l2]
theorem tupsI_sortable {a : Addr} {vs : List Value} {k : Value → List Int} (h0 : 0 < vs.length) (hp : TupsI s.heap k vs) (ha : ∀ o, s.heap.get? a = some o → o.cls ≠ .type "tuple") : SrtO.SortableO prog w A s a vs fun v u => lexI (k v) (k u) := by
  intro h' keep
  have hp' : TupsI h' k vs := fun v hm => ⟨(hp v hm).1.keeps fun b o e c => keep b o (fun z => by subst z; exact ha o e c) e, (hp v hm).2⟩
  obtain ⟨fs, h1, h2, h3⟩ := firstsI vs hp'
  refine ⟨tuples' true, fun Q E hq => ?_, tupsI_cmp hp'⟩
  refine PySem.W.kat_kind (T := .type "int") h1 (by omega) (fun f hm => ?_) (by rfl) ?_
  · obtain ⟨x, t, rfl⟩ := h3 f hm
    exact PySem.W.Looks.now
  · have e : (Value.type "int" != Value.type "tuple") = true := by first | decide +kernel | rfl | decide
    rw [e]
    exact hq
theorem sorted_tupsI {l : Addr} {vs : List Value} {k : Value → List Int} {Q : Value → Shared → Prop} (hl : s.heap.IsList l vs.toArray) (hz : vs.length ≤ sizeLine) (hp : TupsI s.heap k vs)
    (h : ∀ (h' : Heap) (d : Addr) (out : List Value), SrtO.Srtd (fun v u => lexI (k v) (k u)) out → SrtO.Stb (fun v u => lexI (k v) (k u)) out vs → (∀ b o, s.heap.get? b = some o → h'.get? b = some o) → s.heap.objs.size ≤ d → (∃ n, h'.get? d = some (seqObj "list" out.toArray n)) → Q (.ref d) { s with heap := h' }) :
    wpAny (model prog w) A (call (.builtin "sorted") [.ref l]) Q E s := by
  refine SrtO.sorted_ord (swo_lexI k) hl hz (fun h2 h₁ a ha kk => ?_) fun out hs hb => ?_
  · refine tupsI_sortable (s := { s with heap := h₁ }) (by omega) (fun v hm => ⟨(hp v hm).1.keeps fun b o e _ => (kk b o e).2, (hp v hm).2⟩) fun o e => ?_
    have e' : some o = some (seqObj "list" vs.toArray 0) := e.symm.trans ha
    cases e'
    intro c
    exact absurd (Value.type.inj c) (by decide)
  · exact h _ _ out hs hb (fun b o e => sortedAll_old e) (Nat.le_succ _) (sortedAll_at s.heap vs out.toArray)
end
def rSortedTI (K : PySem.W.Frag) : List V → Hp → VK → Prop := fun vs H Q => ∃ (a : Addr) (xs : List V) (k : V → List Int), vs = [V.ref a] ∧ SqL K H a xs ∧ (∀ x ∈ xs, ∃ t, x = V.ref t ∧ SqT K H t ((k x).map V.int) ∧ k x ≠ []) ∧
  ∀ ys p, SrtO.Srtd (fun x y => lexI (k x) (k y)) ys → ys.Perm xs → H p = none → Q (.ref p) (upd H p (.lst ys))
section
variable {X : Cx}
theorem cr_sortedTI : CallR X (.builtin "sorted") (rSortedTI X.K) := by
  intro pins s σ H vs us Q I r h
  obtain ⟨a, xs, k, rfl, hs, hx, q⟩ := h
  obtain ⟨its, rv, hl, hz⟩ := I.list hs
  obtain ⟨u, rfl, ru⟩ := vals1 r
  obtain rfl : u = Value.ref a := ru
  obtain ⟨e1, e2⟩ := refs_back rv fun x m => by
    obtain ⟨t, e, _⟩ := hx x m
    exact ⟨t, e⟩
  refine sorted_tupsI (k := fun u => k (backV u)) hl.isList (by rw [← rv.length]; exact hz) (fun v hv => ?_) fun h' d out h1 h2 kp hd hn => ?_
  · obtain ⟨t, rfl⟩ := e2 v hv
    have hm : V.ref t ∈ xs := by rw [e1]; exact List.mem_map.mpr ⟨_, hv, rfl⟩
    obtain ⟨t', e, ht, hne⟩ := hx _ hm
    cases e
    obtain ⟨its2, r2, hq, _⟩ := I.tuple ht
    exact ⟨⟨t, _, rfl, hq, (show IntsAre its2.toArray.toList (k (V.ref t)) by simpa using r2.ints)⟩, hne⟩
  · have h3 : ∀ u ∈ out, ∃ a, u = Value.ref a := fun u hu => e2 u (h2.perm.mem_iff.mp hu)
    obtain ⟨n, hn⟩ := hn
    have hb : (out.map backV).Perm xs := by
      rw [e1]
      exact h2.perm.map _
    refine ⟨.ref d, upd H d (.lst (out.map backV)), I.laid (t' := s.toks) kp hd ⟨?_, out, n, vals_back h3, hn⟩, rfl, q _ d (SrtO.srtd_map h1) hb (I.hok.fresh hd)⟩
    rw [hb.length_eq]
    exact hz
end
/-! ### sorted words as data -/
def insL (x : List Int) : List (List Int) → List (List Int)
  | [] => [x]
  | y :: r => if lexI y x = false then x :: y :: r else y :: insL x r
def sortL : List (List Int) → List (List Int)
  | [] => []
  | x :: r => insL x (sortL r)
theorem insL_perm (x : List Int) : ∀ l, (insL x l).Perm (x :: l)
  | [] => .refl _
  | y :: r => by
    unfold insL
    split
    · exact .refl _
    · exact ((insL_perm x r).cons y).trans (.swap _ _ _)
theorem sortL_perm : ∀ l, (sortL l).Perm l
  | [] => .refl _
  | x :: r => (insL_perm x _).trans ((sortL_perm r).cons x)
abbrev LeL (x y : List Int) : Prop := lexI y x = false
theorem insL_srtd (x : List Int) : ∀ l, l.Pairwise LeL → (insL x l).Pairwise LeL
  | [], _ => List.pairwise_singleton _ _
  | y :: r, h => by
    unfold insL
    rw [List.pairwise_cons] at h
    split
    · rename_i hx
      exact List.pairwise_cons.mpr ⟨fun z hz => (List.mem_cons.mp hz).elim (fun e => by rw [e]; exact hx) (fun e => lexI_tr _ _ _ hx (h.1 z e)), List.pairwise_cons.mpr h⟩
    · rename_i hx
      have hx' : lexI y x = true := by cases e : lexI y x with
        | true => rfl
        | false => exact absurd e hx
      refine List.pairwise_cons.mpr ⟨fun z hz => ?_, insL_srtd x r h.2⟩
      rcases List.mem_cons.mp ((insL_perm x r).mem_iff.mp hz) with e | e
      · rw [e]; exact lexI_asym _ _ hx'
      · exact h.1 z e
theorem sortL_srtd : ∀ l, (sortL l).Pairwise LeL
  | [] => .nil
  | x :: r => insL_srtd x _ (sortL_srtd r)
theorem sortL_uniq {a b : List (List Int)} (hp : a.Perm b) (ha : a.Pairwise LeL) (hb : b.Pairwise LeL) : a = b :=
  hp.eq_of_pairwise (fun x y _ _ h1 h2 => lexI_eq x y h2 h1) ha hb
/-- tuples of ints, none empty -/
def asTups : List D → Option (List (List Int))
  | [] => some []
  | .tup ds :: r => (asInts ds).bind fun ns => if ns = [] then none else (asTups r).map fun l => ns :: l
  | _ => none
def tupI (ns : List Int) : D := .tup (ns.map D.int)
theorem asTups_eq : ∀ {ds : List D} {ns : List (List Int)}, asTups ds = some ns → ds = ns.map tupI ∧ ∀ x ∈ ns, x ≠ []
  | [], ns, h => by cases h; exact ⟨rfl, by simp⟩
  | .tup xs :: r, ns, h => by
    obtain ⟨k, e, h⟩ := Option.bind_eq_some_iff.mp (show (asInts xs).bind _ = some ns from h)
    by_cases hk : k = []
    · rw [if_pos hk] at h; cases h
    · rw [if_neg hk] at h
      obtain ⟨l, e2, rfl⟩ := Option.map_eq_some_iff.mp h
      obtain ⟨h1, h2⟩ := asTups_eq e2
      refine ⟨by rw [List.map_cons, ← h1, asInts_eq e]; rfl, fun x hx => ?_⟩
      rcases List.mem_cons.mp hx with e | e
      · rw [e]; exact hk
      · exact h2 x e
theorem asTups_map : ∀ {ns : List (List Int)}, (∀ x ∈ ns, x ≠ []) → asTups (ns.map tupI) = some ns
  | [], _ => rfl
  | n :: ns, h => by
    show (asInts (n.map D.int)).bind _ = _
    rw [asInts_map, Option.bind_some, if_neg (h n List.mem_cons_self), asTups_map fun x hx => h x (List.mem_cons_of_mem _ hx)]
    rfl
def dSortL : List D → Option (List D)
  | [.lst ds] => (asTups ds).map fun ns => (sortL ns).map tupI
  | _ => none
/-- sorted, whatever it is that is sorted: ints, or tuples of ints -/
def dSort (l : List D) : Option (List D) := match dSortI l with
  | some z => some z
  | none => dSortL l
theorem Reps.perm {K : PySem.W.Frag} {mg : Str → Option Value} {F : Hp} {ds : List D} {vs ws : List V} (p : ws.Perm vs) (r : Reps K mg F ds vs) : ∃ es, es.Perm ds ∧ Reps K mg F es ws := by
  induction p generalizing ds with
  | nil => exact ⟨ds, .refl _, r⟩
  | cons x p ih =>
    cases ds with
    | nil => cases r
    | cons d ds =>
      obtain ⟨v, us, e, r1, r2⟩ := r
      cases e
      obtain ⟨es, h1, h2⟩ := ih r2
      exact ⟨d :: es, h1.cons d, x, _, rfl, r1, h2⟩
  | swap x y l =>
    cases ds with
    | nil => cases r
    | cons d ds =>
      obtain ⟨v, us, e, r1, r2⟩ := r
      cases e
      cases ds with
      | nil => cases r2
      | cons d' ds =>
        obtain ⟨v', us', e', r1', r2'⟩ := r2
        cases e'
        exact ⟨d' :: d :: ds, .swap _ _ _, _, _, rfl, r1', _, _, rfl, r1, r2'⟩
  | trans p1 p2 ih1 ih2 =>
    obtain ⟨es, h1, h2⟩ := ih2 r
    obtain ⟨es', h3, h4⟩ := ih1 h2
    exact ⟨es', h3.trans h1, h4⟩
theorem vint_inj : ∀ {a b : List Int}, a.map V.int = b.map V.int → a = b
  | [], [], _ => rfl
  | [], _ :: _, h => by cases h
  | _ :: _, [], h => by cases h
  | a :: as, b :: bs, h => by
    rw [List.map_cons, List.map_cons] at h
    injection h with h1 h2
    cases h1
    rw [vint_inj h2]
section
variable {X : Cx}
theorem cd_sortL : CallR X (.builtin "sorted") (rNn X.K X.mg dSortL) := by
  classical
  intro pins s σ H xs us Q I rs ⟨F, ds, z, l, g, r, k⟩
  unfold dSortL at g
  split at g
  · obtain ⟨ns, e, rfl⟩ := Option.map_eq_some_iff.mp g
    obtain ⟨e', ne⟩ := asTups_eq e
    subst e'
    obtain ⟨v, rfl, rv⟩ := r.one
    obtain ⟨p, vs, rfl, h, q⟩ := rv.lst l
    let kf : V → List Int := fun v => if hh : ∃ n, n ≠ [] ∧ Rep X.K X.mg F (tupI n) v then Classical.choose hh else []
    have key : ∀ v n, n ≠ [] → Rep X.K X.mg F (tupI n) v → kf v = n := by
      intro v n hn hr
      have hh : ∃ n, n ≠ [] ∧ Rep X.K X.mg F (tupI n) v := ⟨n, hn, hr⟩
      have e : kf v = Classical.choose hh := dif_pos hh
      obtain ⟨_, r2⟩ := Classical.choose_spec hh
      rw [e]
      obtain ⟨a, ws, e1, s1, t1⟩ := r2
      obtain ⟨b, ws', e2, s2, t2⟩ := hr
      rw [e1] at e2; cases e2
      have i1 := I.tuple_inj (sqT_le l s1) (sqT_le l s2)
      rw [t1.ints_inv, t2.ints_inv] at i1
      exact vint_inj i1
    have mem : ∀ {ms : List (List Int)} {ws : List V}, (∀ x ∈ ms, x ≠ []) → Reps X.K X.mg F (ms.map tupI) ws → ws.map kf = ms ∧ ∀ x ∈ ws, Rep X.K X.mg F (tupI (kf x)) x ∧ kf x ≠ [] := by
      intro ms
      induction ms with
      | nil => intro ws _ q; cases q; exact ⟨rfl, by simp⟩
      | cons m ms ih =>
        intro ws hne q
        obtain ⟨v, us, rfl, r1, r2⟩ := q
        have em := key v m (hne m List.mem_cons_self) r1
        obtain ⟨j1, j2⟩ := ih (fun x hx => hne x (List.mem_cons_of_mem _ hx)) r2
        refine ⟨by rw [List.map_cons, em, j1], fun x hx => ?_⟩
        rcases List.mem_cons.mp hx with e | e
        · subst e; rw [em]; exact ⟨r1, hne m List.mem_cons_self⟩
        · exact j2 x e
    obtain ⟨m1, m2⟩ := mem ne q
    refine cr_sortedTI pins s σ H _ us Q I rs ⟨p, vs, kf, rfl, SqL.of h, fun x hx => ?_, fun ys t h1 h2 ht => ?_⟩
    · obtain ⟨⟨a, ws, e1, s1, t1⟩, hn⟩ := m2 x hx
      rw [t1.ints_inv] at s1
      exact ⟨a, e1, sqT_le l s1, hn⟩
    · obtain ⟨es, g1, g2⟩ := q.perm h2
      have ex : ∃ ms : List (List Int), es = ms.map tupI ∧ ms.Perm ns := by
        clear g2 h1 h2 k
        have : ∀ {es fs : List D}, es.Perm fs → ∀ ns : List (List Int), fs = ns.map tupI → ∃ ms : List (List Int), es = ms.map tupI ∧ ms.Perm ns := by
          intro es fs pp
          induction pp with
          | nil => intro ns e; exact ⟨ns, e, .refl _⟩
          | cons x p ih =>
            intro ns e
            cases ns with
            | nil => cases e
            | cons n ns =>
              rw [List.map_cons] at e
              obtain ⟨e1, e2⟩ := List.cons.inj e
              obtain ⟨ms, k1, k2⟩ := ih ns e2
              exact ⟨n :: ms, by rw [List.map_cons, ← k1, e1], k2.cons n⟩
          | swap x y l =>
            intro ns e
            cases ns with
            | nil => cases e
            | cons n ns =>
              cases ns with
              | nil => cases e
              | cons n' ns =>
                rw [List.map_cons, List.map_cons] at e
                obtain ⟨e1, e2⟩ := List.cons.inj e
                obtain ⟨e3, e4⟩ := List.cons.inj e2
                exact ⟨n' :: n :: ns, by rw [List.map_cons, List.map_cons, ← e1, ← e3, ← e4], .swap _ _ _⟩
          | trans p1 p2 ih1 ih2 =>
            intro ns e
            obtain ⟨ms, k1, k2⟩ := ih2 ns e
            obtain ⟨ms', k3, k4⟩ := ih1 ms k1
            exact ⟨ms', k3, k4.trans k2⟩
        exact this g1 ns rfl
      obtain ⟨ms, rfl, pm⟩ := ex
      obtain ⟨n1, n2⟩ := mem (fun x hx => ne x (pm.mem_iff.mp hx)) g2
      have sm : ms.Pairwise LeL := by
        rw [← n1]
        exact List.pairwise_map.mpr (h1.imp fun {x y} hh => hh)
      have := sortL_uniq (pm.trans (sortL_perm ns).symm) sm (sortL_srtd ns)
      subst this
      exact k t ys _ (Ext.tmp l ht) ht upd_same g2
  · cases g
theorem cd_sort : CallR X (.builtin "sorted") (rNn X.K X.mg dSort) := by
  intro pins s σ H xs us Q I rs ⟨F, ds, z, l, g, r, k⟩
  unfold dSort at g
  cases e : dSortI ds with
  | some y => rw [e] at g; cases g; exact cd_sortI pins s σ H xs us Q I rs ⟨F, ds, _, l, e, r, k⟩
  | none => rw [e] at g; exact cd_sortL pins s σ H xs us Q I rs ⟨F, ds, z, l, g, r, k⟩
end
end DL

set_option Elab.async false
set_option linter.all false
set_option maxRecDepth 100000
set_option maxHeartbeats 4000000
/-! rules for what may be a list or a tuple -/
namespace DL
open PySem PySem.Spec PyProof.Rows L2
theorem PE.or {X : Cx} {e : Expr} {t t' : TE} (h : PE X e t) (h' : PE X e t') : PE X e fun σ H Q => t σ H Q ∨ t' σ H Q :=
  ⟨fun pins s σ H Q I q => q.elim (fun q => h.run pins s σ H Q I q) (fun q => h'.run pins s σ H Q I q)⟩
theorem PI.or {X : Cx} {tg e : Expr} {t t' : TI} (h : PI X tg e t) (h' : PI X tg e t') : PI X tg e fun σ H Q => t σ H Q ∨ t' σ H Q :=
  ⟨fun pins s σ H Q I q => q.elim (fun q => h.run pins s σ H Q I q) (fun q => h'.run pins s σ H Q I q)⟩
theorem PT.or {X : Cx} {e : Expr} {t t' : TT} (h : PT X e t) (h' : PT X e t') : PT X e fun σ H Q => t σ H Q ∨ t' σ H Q :=
  ⟨fun pins s σ H Q I q => q.elim (fun q => h.run pins s σ H Q I q) (fun q => h'.run pins s σ H Q I q)⟩
theorem Room.u65 {k : Nat} {A : Around} (r : Room k A) : A.units + 65 < cLine := by have := r.un; omega
theorem Room.u1 {k : Nat} {A : Around} (r : Room k A) : A.units + 1 < cLine := by have := r.un; omega
section
variable {X : Cx} {C : Ctx} {tg e a b : Expr} {fa fb : DEnv → Md D} {pos : Pos}
/-- what one reading covers, or another -/
theorem DE.alt {f g h : DEnv → Md D} (hf : DE X C e f) (hg : DE X C e g) (hh : ∀ δ st, h δ st = f δ st ∨ h δ st = g δ st) : DE X C e h :=
  PE.imp (PE.or hf hg) fun σ H Q ⟨F, δ, st, w, p⟩ => by
    rcases hh δ st with q | q
    · exact .inl ⟨F, δ, st, w, by rw [← q]; exact p⟩
    · exact .inr ⟨F, δ, st, w, by rw [← q]; exact p⟩
theorem DI.alt {f g h : DEnv → Md (List D)} (hf : DI X C tg e f) (hg : DI X C tg e g) (hh : ∀ δ st, h δ st = f δ st ∨ h δ st = g δ st) : DI X C tg e h :=
  PI.imp (PI.or hf hg) fun σ H Q ⟨F, δ, st, w, p⟩ => by
    rcases hh δ st with q | q
    · exact .inl ⟨F, δ, st, w, by rw [← q]; exact p⟩
    · exact .inr ⟨F, δ, st, w, by rw [← q]; exact p⟩
theorem DJ.alt {f g h : DEnv → Md (List D)} (hf : DJ X C tg e f) (hg : DJ X C tg e g) (hh : ∀ δ st, h δ st = f δ st ∨ h δ st = g δ st) : DJ X C tg e h :=
  PI.imp (PI.or hf hg) fun σ H Q ⟨F, δ, st, w, p⟩ => by
    rcases hh δ st with q | q
    · exact .inl ⟨F, δ, st, w, by rw [← q]; exact p⟩
    · exact .inr ⟨F, δ, st, w, by rw [← q]; exact p⟩
theorem seq_cases (fa : DEnv → Md D) (δ : DEnv) (st : Option Dr) : iSeq fa δ st = iL fa δ st ∨ iSeq fa δ st = iT fa δ st := by
  unfold iSeq iL iT Md.bind
  cases fa δ st with
  | ok d st' => cases d <;> first | exact .inl rfl | exact .inr rfl
  | err c w st' => exact .inl rfl
  | stuck => exact .inl rfl
theorem di_seq (h : DE X C e fa) : DI X C tg e (iSeq fa) := DI.alt (di_list h) (di_tup h) (seq_cases fa)
theorem dj_tup (h : DQ X C e fa) : DJ X C tg e (iT fa) := by
  refine PI.imp (pi_tup h) fun σ H R ⟨F, δ, st, w, p⟩ => ?_
  refine ⟨F, δ, st, w, (PostG.bind p).imp fun d st1 F1 H1 x1 w1 q v r => ?_⟩
  obtain ⟨z, g, k⟩ := PostG.ofO q w1
  cases d with
  | tup ds =>
    cases g
    rcases r with r | ⟨_, _, _, _, z, _⟩ | ⟨_, _, _, _, _, z, _⟩
    · obtain ⟨a, vs, rfl, h, rs⟩ := r
      exact ⟨a, rfl, ⟨vs, sqT_le w1.sub h⟩, k F1 H1 (Ext.refl w1.sub) _ ⟨_, _, (by rw [← rs.length]; exact walk_tup), fun F2 H2 s => sqT_le (s.le.trans s.sub) h, fun i x F2 H2 H3 hi s y => yat rs s.le s.sub y⟩⟩
    · cases z
    · cases z
  | _ => cases g
theorem dj_seq (h : DQ X C e fa) : DJ X C tg e (iSeq fa) := DJ.alt (dj_own h) (dj_tup h) (seq_cases fa)
/-! ### + and * of lists and tuples -/
def dAddF : D → D → Option D
  | .int a, .int b => some (.int (a + b))
  | .tup a, .tup b => if a.length + b.length ≤ lim then some (.tup (a ++ b)) else none
  | .lst a, .lst b => if a.length + b.length ≤ lim then some (.lst (a ++ b)) else none
  | _, _ => none
theorem OpR.alt {f : Value → Value → Sem Value} {g g1 g2 : D → D → Option D} (h1 : OpR X f (rD2 X.K X.mg g1)) (h2 : OpR X f (rD2 X.K X.mg g2)) (h : ∀ d e, g d e = g1 d e ∨ g d e = g2 d e) : OpR X f (rD2 X.K X.mg g) := by
  intro pins s σ H x y v u Q I rx ry ⟨F, d, e, z, l, gg, qx, qy, kk⟩
  rcases h d e with q | q
  · exact h1 pins s σ H x y v u Q I rx ry ⟨F, d, e, z, l, by rw [← q]; exact gg, qx, qy, kk⟩
  · exact h2 pins s σ H x y v u Q I rx ry ⟨F, d, e, z, l, by rw [← q]; exact gg, qx, qy, kk⟩
theorem OpR.fz {f : Value → Value → Sem Value} {g : D → D → Option (List D)} (h : OpR X f (rN2 X.K X.mg g)) : OpR X f (rD2 X.K X.mg fun d e => (g d e).map D.lst) := by
  intro pins s σ H x y v u Q I rx ry ⟨F, d, e, z, l, gg, qx, qy, kk⟩
  obtain ⟨zs, g1, rfl⟩ := Option.map_eq_some_iff.mp gg
  refine h pins s σ H x y v u Q I rx ry ⟨F, d, e, zs, l, g1, qx, qy, fun p vs hp r => ?_⟩
  have xx := Ext.fresh (mu := fun _ => False) (o := .lst vs) l hp
  exact kk _ _ _ xx ⟨p, vs, rfl, upd_same, r.le xx.le _ _⟩
theorem od_addF : OpR X (binaryOp .Add) (rD2 X.K X.mg dAddF) := by
  refine OpR.alt od_add (OpR.fz od_cat) fun d e => ?_
  cases d with
  | int a => exact .inl (by cases e <;> rfl)
  | tup a => exact .inl (by cases e <;> rfl)
  | lst a =>
    refine .inr ?_
    cases e with
    | lst b =>
      dsimp only [dAddF, dCat]
      by_cases h : a.length + b.length ≤ lim
      · rw [if_pos h, if_pos h]; rfl
      · rw [if_neg h, if_neg h]; rfl
    | _ => rfl
  | _ => exact .inl rfl
def dMulF : D → D → Option D
  | .int a, .int b => if a.natAbs < 2 ^ 64 ∨ b.natAbs < 2 ^ 64 then some (.int (a * b)) else none
  | .lst a, .int k => if 0 ≤ k ∧ k ≤ 1000 ∧ a.length ≤ 100 then some (.lst (List.replicate k.toNat a).flatten) else none
  | .tup a, .int k => if 2 ≤ k ∧ k ≤ 1000 ∧ a.length ≤ 100 ∧ a ≠ [] then some (.tup (List.replicate k.toNat a).flatten) else none
  | _, _ => none
def dRepT : D → D → Option D
  | .tup a, .int k => if 2 ≤ k ∧ k ≤ 1000 ∧ a.length ≤ 100 ∧ a ≠ [] then some (.tup (List.replicate k.toNat a).flatten) else none
  | _, _ => none
theorem od_repT : OpR X (binaryOp .Mult) (rD2 X.K X.mg dRepT) := by
  refine op_of op_repT fun x y H Q ⟨F, d, e, z, l, g, rx, ry, kk⟩ => ?_
  unfold dRepT at g
  split at g
  · split at g
    · cases g
      rename_i hz
      obtain ⟨p, vs, rfl, h1, r1⟩ := rx.tup l
      obtain ⟨p', vs', e1, g1, s1⟩ : Rep X.K X.mg F (.tup _) (.ref p) := by
        rcases rx with r | ⟨_, _, _, _, z, _⟩ | ⟨_, _, _, _, _, z, _⟩
        · exact r
        · cases z
        · cases z
      cases e1
      refine ⟨p, _, vs', rfl, ry.int, sqT_le l g1, fun q => hz.2.2.2 ?_, hz.1, hz.2.1, by rw [s1.length]; exact Nat.le_trans hz.2.2.1 (by decide), fun t ht => ?_⟩
      · exact List.eq_nil_of_length_eq_zero (by rw [← s1.length, q]; rfl)
      · rename_i k' _
        have xx := Ext.fresh (mu := fun _ => False) (o := .tup (List.replicate k'.toNat vs').flatten) l ht
        exact kk _ _ _ xx ⟨t, _, rfl, SqT.of upd_same, (s1.rep _).le xx.le _ _⟩
    · cases g
  · cases g
theorem od_mulF : OpR X (binaryOp .Mult) (rD2 X.K X.mg dMulF) := by
  refine OpR.alt (OpR.alt od_mul od_repT (g := fun d e => match d with | .tup _ => dRepT d e | _ => dMul d e) fun d e => by cases d <;> first | exact .inl rfl | exact .inr rfl) (OpR.fz od_repL) fun d e => ?_
  cases d with
  | int a => exact .inl (by cases e <;> rfl)
  | tup a => exact .inl (by cases e <;> rfl)
  | lst a =>
    refine .inr ?_
    cases e with
    | int k =>
      dsimp only [dMulF, dRepL]
      by_cases h : 0 ≤ k ∧ k ≤ 1000 ∧ a.length ≤ 100
      · rw [if_pos h, if_pos h]; rfl
      · rw [if_neg h, if_neg h]; rfl
    | _ => rfl
  | _ => exact .inl rfl
/-! ### reversed slices -/
def dRevF : D → Option D
  | .tup ds => some (.tup ds.reverse)
  | .lst ds => some (.lst ds.reverse)
  | _ => none
theorem de_rev {k : Nat} {p1 p2 p3 : Pos} (ha : DQ X C a fa) : DE X C (.Subscript a (.Slice none none (some (.UnaryOp .USub (.Constant (.int 1) k p1) p2)) p3) pos) (eUn dRevF fa) := by
  refine DE.alt (de_revT ha) (DN.fz (dn_revL ha)) fun δ st => ?_
  unfold eUn eL Md.bind
  dsimp only
  cases fa δ st with
  | ok d st' => cases d <;> first | exact .inl rfl | exact .inr rfl
  | err c w st' => exact .inl rfl
  | stuck => exact .inl rfl
/-! ### fields -/
theorem lk_put (f g : Str) (y : V) (fs : List (Str × V)) : ((f, y) :: fs).lookup g = if g = f then some y else fs.lookup g := by
  by_cases h : g = f
  · subst h
    simp [List.lookup]
  · have e : (g == f) = false := by simpa using h
    rw [if_neg h]
    simp [List.lookup, e]
def lkF : List Str → List D → Str → Option D
  | n :: ns, d :: ds, f => if f = n then some d else lkF ns ds f
  | _, _, _ => none
theorem lkF_ok {K : PySem.W.Frag} {mg : Str → Option Value} {F : Hp} {f : Str} : ∀ {ns : List Str} {ds : List D} {vs : List V} {d : D}, lkF ns ds f = some d → Reps K mg F ds vs → ∃ v, (ns.zip vs).lookup f = some v ∧ Rep K mg F d v
  | n :: ns, d :: ds, vs, z, h, ⟨v, ws, e, r, rs⟩ => by
    subst e
    unfold lkF at h
    rw [List.zip_cons_cons, lk_put]
    by_cases q : f = n
    · rw [if_pos q] at h ⊢; cases h; exact ⟨v, rfl, r⟩
    · rw [if_neg q] at h ⊢; exact lkF_ok h rs
  | [], _, _, _, h, _ => by cases h
  | _ :: _, [], _, _, h, _ => by cases h
theorem lk_none {f : Str} : ∀ {ns : List Str} {vs : List V}, f ∉ ns → (ns.zip vs).lookup f = none
  | [], _, _ => rfl
  | n :: ns, [], _ => rfl
  | n :: ns, v :: vs, h => by
    rw [List.zip_cons_cons, lk_put, if_neg (fun q => h (by rw [q]; exact List.mem_cons_self))]
    exact lk_none fun q => h (List.mem_cons_of_mem _ q)
def dFld (c f : Str) : D → Option D
  | .obj c' ns ds => if c' = c then lkF ns ds f else none
  | _ => none
theorem de_fld {c f : Str} {A : Addr} (gC : X.mg c = some (.ref A)) (hc : Cls X.K A) (hn : NoAttr X.K A f) (ha : DE X C a fa) (hb : attributeBase a f X.env (eval a X.env) = eval a X.env := by rfl) : DE X C (.Attribute a f pos) (eUn (dFld c f) fa) := by
  refine PE.imp (pe_fld ha hb) fun σ H Q ⟨F, δ, st, w, p⟩ => ?_
  refine ⟨F, δ, st, w, (PostG.bind p).imp fun d st1 F1 H1 x1 w1 p1 v r => ?_⟩
  obtain ⟨z, g1, k1⟩ := PostG.ofO p1 w1
  unfold dFld at g1
  split at g1
  · split at g1
    · rename_i hc'
      subst hc'
      obtain ⟨p, A', dx, vs, rfl, hm, hF, hl, rs⟩ := r
      rw [gC] at hm
      cases hm
      obtain ⟨v, e, rv⟩ := lkF_ok g1 rs
      exact ⟨p, A, dx, _, v, rfl, w1.sub _ _ hF, hc, hn, e, k1 _ _ (Ext.refl w1.sub) v rv⟩
    · cases g1
  · cases g1
/-! ### methods; what they raise is not told -/
def eCallN (n : Nat) (g : List D → Md D) (fs : DEnv → Md (List D)) : DEnv → Md D := fun δ => Md.bind (fs δ) fun ds st => if ds.length = n then match g ds none with
    | .ok d _ => .ok d st
    | _ => .stuck
  else .stuck
def eMeth (c m : Str) (n : Nat) (g : List D → Md D) (fa : DEnv → Md D) (fs : DEnv → Md (List D)) : DEnv → Md D := fun δ => Md.bind (fa δ) fun d => match d with
  | .obj c' ns ds => if c' = c ∧ m ∉ ns then eCallN n g (fun δ => Md.bind (fs δ) fun es => Md.pure (.obj c' ns ds :: es)) δ else Md.stuck
  | _ => Md.stuck
variable {o : Expr} {es : List Expr} {fs : DEnv → Md (List D)} {k : Nat} {f : Addr} {fd : FuncData} {ps : List Str} {g : List D → Md D}
theorem pass00 : Passes (L2.CX X.prog X.w) X (fun _ _ _ => False) := fun _ _ _ _ _ _ _ ⟨_, _, _, _, _, _, _, _, _, _, _, _, h⟩ => h.elim
theorem meth_red {c m : Str} {A : Addr} {t : TA} (gC : X.mg c = some (.ref A)) (ht : ∀ σ H Q, tA X.K X.mg C fs σ H Q → t σ H Q) {σ : L2.St} {H : Hp} {Q : VK} (h : tE X.K X.mg C (eMeth c m ps.length g fa fs) σ H Q) :
    tMeth A m (spF X.K X.mg ps.length g) [] (fun _ _ _ => False) (tE X.K X.mg C fa) t σ H Q := by
  obtain ⟨F, δ, st, w, p⟩ := h
  refine ⟨F, δ, st, w, (PostG.bind p).imp fun d st1 F1 H1 x1 w1 p1 v r => ?_⟩
  cases d with
  | obj c' ns ds =>
    dsimp only at p1
    split at p1
    · rename_i hc
      obtain ⟨rfl, hm⟩ := hc
      obtain ⟨a, A', dx, vs, rfl, hmg, hF, hl, rs⟩ := id r
      rw [gC] at hmg
      cases hmg
      refine ⟨a, dx, _, rfl, w1.sub _ _ hF, lk_none hm, ht _ _ _ ⟨F1, δ, st1, w1, ?_⟩⟩
      unfold eCallN at p1
      rw [Md.bind_assoc] at p1
      refine (PostG.bind p1).imp fun ys st2 F2 H2 x2 w2 p2 us ru => ?_
      rw [Md.bind_pure] at p2
      split at p2
      · rename_i hln
        rw [List.append_nil]
        refine ⟨by show us.length + 1 = _; rw [ru.length]; exact hln, fun _ => False, C.ad, F2, .obj c' ns ds :: ys, none, w2.sub, ⟨_, us, rfl, Rep.le x2.le _ _ r, ru⟩, fun b z => z.elim, trivial, ?_⟩
        cases eg : g (.obj c' ns ds :: ys) none with
        | ok d st3 =>
          rw [eg] at p2
          exact fun v F' H' xx _ rr => p2 F' H' xx.weak (w2.step xx) v rr
        | err c3 w3 st3 =>
          rw [eg] at p2
          exact p2.elim
        | stuck => rw [eg] at p2; exact p2.elim
      · exact p2.elim
    · exact p1.elim
  | _ => exact p1.elim
theorem de_meth' {c m : Str} {A : Addr} {apos : Pos} {pl : Sem Bool} (gC : X.mg c = some (.ref A)) (hc : Cls X.K A) (hm : Meth X.K A m f) (Fn : DF X.prog X.w X.K X.mg X.base k f fd ps g) (hr : Room k X.A) (hb : Binds X.K fd ps []) (ho : DE X C o fa) (ha : DAr X C (e :: es) fs)
    (hst : starEach (e :: es) X.env = (false, eval e X.env) :: starEach es X.env := by rfl) (hpl : (backTo pos (starEach es X.env)).any (·.1) = false := by rfl)
    (ht : eval (.Call (.Attribute o m apos) (e :: es) [] pos) X.env = (do
      let ov ← eval o X.env
      standAt apos.atName
      let (f, first) ← holding [ov] (getMethod ov m pl)
      callWith pos f first (backTo pos (starEach (e :: es) X.env)) (backToKw pos (keywordEach [] X.env))) := by rfl) :
    DE X C (.Call (.Attribute o m apos) (e :: es) [] pos) (eMeth c m ps.length g fa fs) :=
  PE.imp (pe_meth (pl := pl) ho hc hm Fn hr hb .nil pass00 ha hst hpl ht) fun σ H Q q => meth_red (X := X) gC (fun _ _ _ z => z) q
theorem de_meth {n : Nat} {c m : Str} {A : Addr} {apos : Pos} {pl : Sem Bool} (gC : X.mg c = some (.ref A)) (hc : Cls X.K A) (hm : Meth X.K A m f) (Fn : DF X.prog X.w X.K X.mg X.base k f fd ps g) (hr : Room k X.A) (hb : Binds X.K fd ps []) (ho : DE X C o fa) (ha : DAr X C (e :: es) fs) (hn : ps.length = n := by rfl)
    (hst : starEach (e :: es) X.env = (false, eval e X.env) :: starEach es X.env := by rfl) (hpl : (backTo pos (starEach es X.env)).any (·.1) = false := by rfl)
    (ht : eval (.Call (.Attribute o m apos) (e :: es) [] pos) X.env = (do
      let ov ← eval o X.env
      standAt apos.atName
      let (f, first) ← holding [ov] (getMethod ov m pl)
      callWith pos f first (backTo pos (starEach (e :: es) X.env)) (backToKw pos (keywordEach [] X.env))) := by rfl) :
    DE X C (.Call (.Attribute o m apos) (e :: es) [] pos) (eMeth c m n g fa fs) := by
  subst hn
  exact de_meth' (pl := pl) gC hc hm Fn hr hb ho ha hst hpl ht
theorem de_meth0' {c m : Str} {A : Addr} {apos : Pos} {pl : Sem Bool} (gC : X.mg c = some (.ref A)) (hc : Cls X.K A) (hm : Meth X.K A m f) (Fn : DF X.prog X.w X.K X.mg X.base k f fd ps g) (hr : Room k X.A) (hb : Binds X.K fd ps []) (ho : DE X C o fa)
    (ht : eval (.Call (.Attribute o m apos) [] [] pos) X.env = (do
      let ov ← eval o X.env
      standAt apos.atName
      let (f, first) ← holding [ov] (getMethod ov m pl)
      callWith pos f first (backTo pos (starEach [] X.env)) (backToKw pos (keywordEach [] X.env))) := by rfl) :
    DE X C (.Call (.Attribute o m apos) [] [] pos) (eMeth c m ps.length g fa eNil) :=
  PE.imp (pe_meth0 (pl := pl) ho hc hm Fn hr hb .nil pass00 ht) fun σ H Q q => meth_red (X := X) gC (fun σ H Q ⟨F, δ, st, w, p⟩ => PostG.pure p w [] rfl) q
theorem de_meth0 {n : Nat} {c m : Str} {A : Addr} {apos : Pos} {pl : Sem Bool} (gC : X.mg c = some (.ref A)) (hc : Cls X.K A) (hm : Meth X.K A m f) (Fn : DF X.prog X.w X.K X.mg X.base k f fd ps g) (hr : Room k X.A) (hb : Binds X.K fd ps []) (ho : DE X C o fa) (hn : ps.length = n := by rfl)
    (ht : eval (.Call (.Attribute o m apos) [] [] pos) X.env = (do
      let ov ← eval o X.env
      standAt apos.atName
      let (f, first) ← holding [ov] (getMethod ov m pl)
      callWith pos f first (backTo pos (starEach [] X.env)) (backToKw pos (keywordEach [] X.env))) := by rfl) :
    DE X C (.Call (.Attribute o m apos) [] [] pos) (eMeth c m n g fa eNil) := by
  subst hn
  exact de_meth0' (pl := pl) gC hc hm Fn hr hb ho ht
/-- one of two new lists -/
def mIfN (c : DEnv → Md Bool) (f g : DEnv → Md (List D)) : DEnv → Md (List D) := fun δ => Md.bind (c δ) fun b => if b = true then f δ else g δ
theorem PostG.gone {K : PySem.W.Frag} {mg : Str → Option Value} {σ : L2.St} {δ : DEnv} {F H F1 H1 : Hp} {r : Res (List D)} {Q : VK} (x : Ext C.mu F H F1 H1)
    (p : PostG K mg C σ δ F1 H1 r fun ds _ F' H' => ∀ a vs, H a = none → H' a = some (HO.lst vs) → F' a = none → Reps K mg F' ds vs → Q (.ref a) H') :
    PostG K mg C σ δ F1 H1 r fun ds _ F' H' => ∀ a vs, H1 a = none → H' a = some (HO.lst vs) → F' a = none → Reps K mg F' ds vs → Q (.ref a) H' :=
  p.imp fun ds st F' H' y w h a vs n => h a vs (DL.gone x n)
theorem dn_if {c : Expr} {t : DEnv → Md Bool} {f' g' : DEnv → Md (List D)} (hc : DT X C c t) (ha : DN X C a f') (hb : DN X C b g') : DN X C (.IfExp c a b pos) (mIfN t f' g') := by
  refine PE.imp (pe_ifExp hc ha hb) fun σ H Q ⟨F, δ, st, w, p⟩ => ?_
  refine ⟨F, δ, st, w, (PostG.bind p).imp fun c st1 F1 H1 x1 w1 q => ?_⟩
  cases c with
  | true => rw [if_pos rfl] at q ⊢; exact ⟨F1, δ, st1, w1, q.gone x1⟩
  | false => rw [if_neg Bool.false_ne_true] at q ⊢; exact ⟨F1, δ, st1, w1, q.gone x1⟩
/-! ### raise, try -/
def sRaise (c : Str) : DEnv → Md Fl := fun _ st => .err c none st
theorem ds_raise {c : Str} {A : Addr} {ex : Expr} {pr : Pos} (hc : X.calm = true) (tk : Takes X C.W) (gC : X.mg c = some (.ref A)) (hp : PMk X ex (fun _ H Q => Q (.ref A) none H)) : DS X C (.Raise (some ex) none pr) (sRaise c) := by
  refine PS.imp (ps_raise hc tk hp) fun E σ H ⟨F, δ, st, w, p⟩ => ?_
  exact p _ _ σ δ F H w ⟨⟨A, gC, rfl⟩, fun x z => (by cases z)⟩
end
end DL

set_option Elab.async false
set_option linter.all false
set_option maxRecDepth 100000
set_option maxHeartbeats 4000000
/-! a < b < c < d; ** -/
namespace DL
open PySem PySem.Spec PyProof.Rows L2
section
variable {X : Cx} {C : Ctx} {a b c d : Expr} {fa fb fc fd : DEnv → Md D} {pos : Pos} {ta tb tc td : TE}
def tChain3 (r r' r'' : R2) (ta tb tc td : TE) : TE := fun σ H Q => ta σ H fun x H1 => tb σ H1 fun y H2 => r x y H2 fun z H3 => ∃ k, z = .bl k ∧
  (if k = true then tc σ H3 fun w' H4 => r' y w' H4 fun z2 H5 => ∃ k2, z2 = .bl k2 ∧ (if k2 = true then td σ H5 fun w2 H6 => r'' w' w2 H6 Q else Q (.bl false) H5) else Q (.bl false) H3)
theorem pe_chain3 {op op' op'' : CmpOp} {r r' r'' : R2} (ho : OpR X (compareOp op) r) (ho' : OpR X (compareOp op') r') (ho'' : OpR X (compareOp op'') r'') (ha : PE X a ta) (hb : PE X b tb) (hc : PE X c tc) (hd : PE X d td)
    (hm : lastMarks [op, op', op''] [b, c, d] = false := by with_unfolding_all rfl) : PE X (.Compare a [op, op', op''] [b, c, d] pos) (tChain3 r r' r'' ta tb tc td) := by
  refine ⟨fun pins s σ H Q I h => ?_⟩
  refine Compare_chain (thn (ha.run pins s σ H _ I h) fun v s1 ⟨x, H1, I1, r1, q1⟩ => chain_link (thn (hb.run pins s1 σ H1 _ I1 q1) fun u s2 ⟨y, H2, I2, r2, q2⟩ =>
    thn (ho pins s2 σ H2 x y v u _ I2 r1 r2 q2) fun d s3 ⟨z, H3, I3, r3, k, e, q3⟩ => ?_)) hm
  subst e
  cases r3
  refine wpAny_truthy_bool ?_
  cases k with
  | false => exact ite_ff ⟨.bl false, H3, I3, rfl, q3⟩
  | true =>
    refine ite_tt (chain_link (thn (hc.run pins s3 σ H3 _ I3 q3) fun w' s4 ⟨z', H4, I4, r4, q4⟩ =>
      thn (ho' pins s4 σ H4 y z' u w' _ I4 r2 r4 q4) fun d s5 ⟨z2, H5, I5, r5, k2, e2, q5⟩ => ?_))
    subst e2
    cases r5
    refine wpAny_truthy_bool ?_
    cases k2 with
    | false => exact ite_ff ⟨.bl false, H5, I5, rfl, q5⟩
    | true => exact ite_tt (chain_last (thn (hd.run pins s5 σ H5 _ I5 q5) fun w2 s6 ⟨z6, H6, I6, r6, q6⟩ => ho'' pins s6 σ H6 z' z6 w' w2 Q I6 r4 r6 q6))
def eChain3 (g g' g'' : D → D → Option D) (fa fb fc fd : DEnv → Md D) : DEnv → Md D := fun δ => Md.bind (fa δ) fun x => Md.bind (fb δ) fun y => Md.bind (Md.ofO (g x y)) fun z => match z with
  | .bl true => Md.bind (fc δ) fun w => Md.bind (Md.ofO (g' y w)) fun z2 => match z2 with
    | .bl true => Md.bind (fd δ) fun u => Md.ofO (g'' w u)
    | .bl false => Md.pure (.bl false)
    | _ => Md.stuck
  | .bl false => Md.pure (.bl false)
  | _ => Md.stuck
theorem de_chain3 {op op' op'' : CmpOp} {g g' g'' : D → D → Option D} (ho : OpR X (compareOp op) (rD2 X.K X.mg g)) (ho' : OpR X (compareOp op') (rD2 X.K X.mg g')) (ho'' : OpR X (compareOp op'') (rD2 X.K X.mg g'')) (ha : DQ X C a fa) (hb : DQ X C b fb) (hc : DQ X C c fc) (hd : DQ X C d fd)
    (hm : lastMarks [op, op', op''] [b, c, d] = false := by rfl) : DE X C (.Compare a [op, op', op''] [b, c, d] pos) (eChain3 g g' g'' fa fb fc fd) := by
  refine PE.imp (pe_chain3 ho ho' ho'' ha hb hc hd hm) fun σ H Q ⟨F, δ, st, w, p⟩ => ?_
  refine ⟨F, δ, st, w, (PostG.bind p).imp fun d st1 F1 H1 x1 w1 p1 x rx => ?_⟩
  refine ⟨F1, δ, st1, w1, (PostG.bind p1).imp fun e st2 F2 H2 x2 w2 p2 y ry => ?_⟩
  obtain ⟨z, g1, k1⟩ := PostG.ofO (PostG.bind p2) w2
  refine ⟨F2, d, e, z, w2.sub, g1, (rx.step x2).z, ry.z, fun v F' H' xx r => ?_⟩
  have q := k1 F' H' xx
  cases z with
  | bl c =>
    refine ⟨c, r, ?_⟩
    cases c with
    | true =>
      rw [if_pos rfl]
      refine ⟨F', δ, st2, w2.step xx, (PostG.bind q).imp fun e3 st3 F3 H3 x3 w3 p3 y3 ry3 => ?_⟩
      obtain ⟨z3, g3, k3⟩ := PostG.ofO (PostG.bind p3) w3
      refine ⟨F3, e, e3, z3, w3.sub, g3, ((ry.step xx.weak).step x3).z, ry3.z, fun v4 F4 H4 x4 r4 => ?_⟩
      have q4 := k3 F4 H4 x4
      cases z3 with
      | bl c4 =>
        refine ⟨c4, r4, ?_⟩
        cases c4 with
        | true =>
          rw [if_pos rfl]
          refine ⟨F4, δ, st3, w3.step x4, (PostG.bind q4).imp fun e5 st5 F5 H5 x5 w5 p5 y5 ry5 => ?_⟩
          obtain ⟨z5, g5, k5⟩ := PostG.ofO p5 w5
          exact ⟨F5, e3, e5, z5, w5.sub, g5, ((ry3.step x4.weak).step x5).z, ry5.z, fun v6 F6 H6 x6 r6 => k5 F6 H6 x6 v6 r6⟩
        | false =>
          rw [if_neg Bool.false_ne_true]
          exact PostG.pure q4 (w3.step x4) _ rfl
      | _ => exact q4.elim
    | false =>
      rw [if_neg Bool.false_ne_true]
      exact PostG.pure q (w2.step xx) _ rfl
  | _ => exact q.elim
def dPow : D → D → Option D
  | .int a, .int b => if 0 ≤ b ∧ b ≤ 1000000 ∧ a.natAbs < 2 ^ 64 then some (.int (a ^ b.toNat)) else none
  | _, _ => none
theorem od_pow : OpR X (binaryOp .Pow) (rD2 X.K X.mg dPow) := by
  refine op_of op_pow fun x y H Q ⟨F, d, e, z, l, g, rx, ry, k⟩ => ?_
  unfold dPow at g
  split at g
  · split at g
    · cases g
      rename_i hc
      exact ⟨_, _, rx.int, ry.int, hc, k _ _ _ (Ext.refl l) rfl⟩
    · cases g
  · cases g
def dNeg : D → Option D
  | .int i => some (.int (-i))
  | _ => none
theorem de_negN (ha : DE X C a fa) : DE X C (.UnaryOp .USub a pos) (eUn dNeg fa) := by
  refine DE.alt (de_neg ha) (de_neg ha) fun δ st => .inl ?_
  unfold eUn Md.bind
  cases fa δ st with
  | ok d st' => cases d <;> rfl
  | err c w st' => rfl
  | stuck => rfl
/-! ### displays of dicts, looked up at once -/
def RepP (K : PySem.W.Frag) (mg : Str → Option Value) (F : Hp) : List (D × D) → List (V × V) → Prop
  | [], vs => vs = []
  | p :: ps, vs => ∃ x y ws, vs = (x, y) :: ws ∧ Rep K mg F p.1 x ∧ Rep K mg F p.2 y ∧ RepP K mg F ps ws
theorem RepP.le {K : PySem.W.Frag} {mg : Str → Option Value} {F G : Hp} (l : Le F G) : ∀ {ps : List (D × D)} {vs : List (V × V)}, RepP K mg F ps vs → RepP K mg G ps vs
  | [], _, h => h
  | p :: ps, _, ⟨x, y, ws, e, r1, r2, r3⟩ => ⟨x, y, ws, e, Rep.le l _ _ r1, Rep.le l _ _ r2, RepP.le l r3⟩
def tPs (K : PySem.W.Frag) (mg : Str → Option Value) (C : Ctx) (f : DEnv → Md (List (D × D))) : L2.St → Hp → (List (V × V) → Hp → Prop) → Prop := fun σ H Q => ∃ F δ st, Ws K mg C σ δ st F H ∧ PostG K mg C σ δ F H (f δ st) fun ps _ F' H' => ∀ vs, RepP K mg F' ps vs → Q vs H'
structure DPs (X : Cx) (C : Ctx) (pos : Pos) (keys : List (Option Expr)) (values : List Expr) (f : DEnv → Md (List (D × D))) : Prop where
  ex : ∃ trs, PPs X pos keys values trs ∧ ∀ σ H Q, tPs X.K X.mg C f σ H Q → tPairs trs σ H Q
  all : keys.all (·.isSome) = true
  len : keys.length = values.length
def pNil : DEnv → Md (List (D × D)) := fun _ => Md.pure []
def pCons (fk fv : DEnv → Md D) (fr : DEnv → Md (List (D × D))) : DEnv → Md (List (D × D)) := fun δ => Md.bind (fk δ) fun x => Md.bind (fv δ) fun y => Md.bind (fr δ) fun r => Md.pure ((x, y) :: r)
theorem dp_nil : DPs X C pos [] [] pNil := ⟨⟨[], pps_nil, fun σ H Q ⟨F, δ, st, w, p⟩ => PostG.pure p w [] rfl⟩, rfl, rfl⟩
theorem dp_cons {k v : Expr} {ks : List (Option Expr)} {vs : List Expr} {fk fv : DEnv → Md D} {fr : DEnv → Md (List (D × D))} (hk : DE X C k fk) (hv : DE X C v fv) (hr : DPs X C pos ks vs fr) : DPs X C pos (some k :: ks) (v :: vs) (pCons fk fv fr) := by
  obtain ⟨⟨trs, h1, h2⟩, h3, h4⟩ := hr
  refine ⟨⟨_, pps_cons hk hv h1, fun σ H Q ⟨F, δ, st, w, p⟩ => ?_⟩, by rw [List.all_cons, h3]; rfl, by rw [List.length_cons, List.length_cons, h4]⟩
  refine ⟨F, δ, st, w, (PostG.bind p).imp fun d st1 F1 H1 x1 w1 p1 x rx => ?_⟩
  refine ⟨F1, δ, st1, w1, (PostG.bind p1).imp fun e st2 F2 H2 x2 w2 p2 y ry => ?_⟩
  refine h2 _ _ _ ⟨F2, δ, st2, w2, (PostG.bind p2).imp fun r st3 F3 H3 x3 w3 p3 us ru => ?_⟩
  exact PostG.pure p3 w3 _ ⟨x, y, us, rfl, Rep.le (x2.le.trans x3.le) _ _ rx, Rep.le x3.le _ _ ry, ru⟩
def keyD : D → Option Key
  | .int i => some (.inl i)
  | .str x => some (.inr x)
  | _ => none
theorem keyD_rep {K : PySem.W.Frag} {mg : Str → Option Value} {F : Hp} {d : D} {k : Key} {v : V} (h : keyD d = some k) (r : Rep K mg F d v) : v = kV k := by
  cases d with
  | int i => cases h; exact r
  | str i => cases h; exact r
  | _ => cases h
def keysD : List (D × D) → Option (List (Key × D))
  | [] => some []
  | p :: r => (keyD p.1).bind fun k => (keysD r).map fun l => (k, p.2) :: l
def lkD {κ : Type} [DecidableEq κ] (k : κ) : List (κ × D) → Option D
  | [] => none
  | (k', d) :: r => if k' = k then some d else lkD k r
theorem keysD_rep {K : PySem.W.Frag} {mg : Str → Option Value} {F : Hp} : ∀ {ps : List (D × D)} {vs : List (V × V)} {l : List (Key × D)}, keysD ps = some l → RepP K mg F ps vs → ∃ kvs : List (Key × V), vs = kvs.map (fun kv => (kV kv.1, kv.2)) ∧ kvs.map (·.1) = l.map (·.1) ∧ Reps K mg F (l.map (·.2)) (kvs.map (·.2))
  | [], _, l, h, r => by cases h; cases r; exact ⟨[], rfl, rfl, rfl⟩
  | p :: ps, _, l, h, ⟨x, y, ws, e, r1, r2, r3⟩ => by
    unfold keysD at h
    obtain ⟨k, hk, h⟩ := Option.bind_eq_some_iff.mp h
    obtain ⟨l', hl, rfl⟩ := Option.map_eq_some_iff.mp h
    obtain ⟨kvs, h1, h2, h3⟩ := keysD_rep hl r3
    exact ⟨(k, y) :: kvs, by rw [e, h1, keyD_rep hk r1]; rfl, by rw [List.map_cons, List.map_cons, h2], y, _, rfl, r2, h3⟩
theorem lkD_rep {κ : Type} [DecidableEq κ] {K : PySem.W.Frag} {mg : Str → Option Value} {F : Hp} {k : κ} : ∀ {l : List (κ × D)} {kvs : List (κ × V)} {d : D}, kvs.map (·.1) = l.map (·.1) → Reps K mg F (l.map (·.2)) (kvs.map (·.2)) → lkD k l = some d → ∃ v, valV kvs k = some v ∧ Rep K mg F d v
  | [], _, _, _, _, h => by cases h
  | (k', d') :: r, [], _, e, _, _ => by cases e
  | (k', d') :: r, (k2, v2) :: kvs, d, e, ⟨v, ws, e1, r1, r2⟩, h => by
    rw [List.map_cons] at e1
    cases e1
    rw [List.map_cons, List.map_cons] at e
    obtain ⟨e2, e3⟩ := List.cons.inj e
    dsimp only at e2
    subst e2
    unfold lkD at h
    by_cases q : k2 = k
    · rw [if_pos q] at h; cases h; exact ⟨_, valV_pos q, r1⟩
    · rw [if_neg q] at h
      rw [valV_neg q]
      exact lkD_rep e3 r2 h
theorem putK_new {κ : Type} [DecidableEq κ] {k : κ} {v : V} {kvs : List (κ × V)} (h : k ∉ kvs.map (·.1)) : putK kvs k v = kvs ++ [(k, v)] := by
  unfold putK
  have e : (kvs.any fun kv => decide (kv.1 = k)) = false := by
    cases q : kvs.any fun kv => decide (kv.1 = k) with
    | false => rfl
    | true =>
      obtain ⟨x, hx, hk⟩ := List.any_eq_true.mp q
      exact absurd (List.mem_map.mpr ⟨x, hx, of_decide_eq_true hk⟩) h
  rw [e, if_neg Bool.false_ne_true]
theorem mergeK_new : ∀ (more kvs : List (Key × V)), ((kvs ++ more).map (·.1)).Nodup → mergeK kvs more = kvs ++ more
  | [], kvs, _ => by rw [List.append_nil]; rfl
  | (k, v) :: r, kvs, h => by
    have hn : k ∉ kvs.map (·.1) := by
      rw [List.map_append, List.map_cons, List.nodup_append] at h
      exact fun q => h.2.2 k q k List.mem_cons_self rfl
    show mergeK (putK kvs k v) r = _
    rw [putK_new hn]
    rw [mergeK_new r (kvs ++ [(k, v)]) (by rw [List.append_assoc]; exact h), List.append_assoc]
    rfl
def eDix (f : DEnv → Md (List (D × D))) (fb : DEnv → Md D) : DEnv → Md D := fun δ => Md.bind (f δ) fun ps => match keysD ps with
  | some l => if (l.map (·.1)).Nodup ∧ l.length ≤ 15 then Md.bind (fb δ) fun d => match keyD d with
    | some k => Md.ofO (lkD k l)
    | none => Md.stuck
    else Md.stuck
  | none => Md.stuck
theorem PostG.pre {α : Type} {K : PySem.W.Frag} {mg : Str → Option Value} {σ : L2.St} {δ : DEnv} {F H F1 H1 : Hp} {r : Res α} {k : α → Option Dr → Hp → Hp → Prop} (p : PostG K mg C σ δ F H r k) (x : Ext C.mu F H F1 H1) : PostG K mg C σ δ F1 H1 r k := by
  cases r with
  | ok a st => exact fun F' H' y w => p F' H' (x.trans y) w
  | err c w st => exact fun cls dd F' H' y w z => p cls dd F' H' (x.trans y) w z
  | stuck => exact p
theorem de_dix {keys : List (Option Expr)} {values : List Expr} {f : DEnv → Md (List (D × D))} {p2 : Pos} {k : Nat} (hr : Room k X.A) (hp : DPs X C p2 keys values f) (hb : DE X C b fb) (hs : NoSl b) (h0 : keys ≠ [] := by exact List.cons_ne_nil _ _) (h15 : keys.length ≤ 15 := by decide) : DE X C (.Subscript (.Dict keys values p2) b pos) (eDix f fb) := by
  obtain ⟨⟨trs, h1, h2⟩, h3, h4⟩ := hp
  refine PE.imp (pe_dget (Room.u1 hr) (pe_disp h1 h3 h4 h0 h15) hb hs) fun σ H Q ⟨F, δ, st, w, p⟩ => ?_
  intro q hq
  have x0 := Ext.tmp (mu := fun _ => False) (o := .dK []) w.sub hq
  have w0 := w.step x0
  have h0q : C.H0 q = none := gone w.ext hq
  have nm : ¬ C.mu q := w.nomu h0q
  refine h2 _ _ _ ⟨F, δ, st, w0, ((PostG.bind' p).pre x0.weak).imp fun ps st1 F1 H1 x1 w1 p1 vs r => ?_⟩
  have e1 : H1 q = some (.dK []) := x1.keep _ _ nm upd_same
  have f1 : F1 q = none := x1.new _ (w.sub.none hq) (by rw [upd_same]; simp)
  cases ek : keysD ps with
  | none => rw [ek] at p1; exact p1.elim
  | some l =>
    rw [ek] at p1
    dsimp only at p1
    by_cases hn : (l.map (·.1)).Nodup ∧ l.length ≤ 15
    · rw [if_pos hn] at p1
      obtain ⟨kvs, ev, em, rr⟩ := keysD_rep ek r
      have hlen : kvs.length = l.length := by rw [← List.length_map (as := kvs) (f := (·.1)), em, List.length_map]
      refine ⟨e1, kvs, ev, by rw [hlen]; exact hn.2, ?_⟩
      have hm : mergeK [] kvs = kvs := mergeK_new kvs [] (by rw [List.nil_append, em]; exact hn.1)
      rw [hm]
      have w2 : Ws X.K X.mg C σ δ st1 F1 (upd H1 q (.dK kvs)) := w1.updNew e1 f1 h0q fun j s e o z => w.ownNe hq j s e o z
      have x2 : Ext C.mu F H F1 (upd H1 q (.dK kvs)) := (x0.weak.trans x1).updAt hq f1
      refine ⟨F1, δ, st1, w2, (PostG.bind (p1.pre x2)).imp fun d st2 F2 H2 x3 w3 p3 v rv => ?_⟩
      have e3 : H2 q = some (.dK kvs) := x3.keep _ _ nm upd_same
      cases ed : keyD d with
      | none => rw [ed] at p3; exact p3.elim
      | some k' =>
        rw [ed] at p3
        obtain ⟨z, g, kk⟩ := PostG.ofO p3 w3
        obtain ⟨u, hu, ru⟩ := lkD_rep em rr g
        have ev2 := keyD_rep ed rv
        subst ev2
        refine ⟨q, u, rfl, ?_, kk _ _ (Ext.refl w3.sub) _ (Rep.le x3.le _ _ ru)⟩
        rw [← hu]
        exact DGet.k e3
    · rw [if_neg hn] at p1; exact p1.elim
end
end DL

set_option Elab.async false
set_option linter.all false
set_option maxRecDepth 100000
set_option maxHeartbeats 4000000
/-! the list of the draws, read and written by its place -/
namespace DL
open PySem PySem.Spec PyProof.Rows L2
def drAt (d : Dr) : Int → Option D
  | 0 => some (.lst (d.ns.map D.int))
  | 1 => some (.int d.pos)
  | 2 => some (.int d.big)
  | 3 => some (.int d.lcg)
  | _ => none
def drPut (d : Dr) (n : Int) : Int → Option Dr
  | 1 => some { d with pos := n }
  | 2 => some { d with big := n }
  | 3 => some { d with lcg := n }
  | _ => none
/-- draws[k] -/
def eDr (i : Nat) (k : Int) : DEnv → Md D := fun δ st => match δ[i]?, st with
  | some (.val (.ref a)), some d => if a = d.ad then match drAt d k with
    | some z => .ok z st
    | none => .stuck
    else .stuck
  | _, _ => .stuck
/-- draws[k] = e -/
def putDr (i : Nat) (k : Int) (δ : DEnv) (z : D) : Md Fl := fun st => match z, δ[i]?, st with
  | .int n, some (.val (.ref a)), some d => if a = d.ad then match drPut d n k with
    | some d' => .ok (.nx δ) (some d')
    | none => .stuck
    else .stuck
  | _, _, _ => .stuck
def sDr (i : Nat) (k : Int) (f : DEnv → Md D) : DEnv → Md Fl := fun δ => Md.bind (f δ) (putDr i k δ)
section
variable {X : Cx} {C : Ctx} {e : Expr} {fa : DEnv → Md D} {pos : Pos}
theorem drAt_ok {K : PySem.W.Frag} {mg : Str → Option Value} {F : Hp} {d : Dr} {as : Addr} {k : Int} {z : D} (h3 : F as = some (.lst (d.ns.map V.int))) (h : drAt d k = some z) : ∃ v, atI [.ref as, .int d.pos, .int d.big, .int d.lcg] k = some v ∧ Rep K mg F z v := by
  unfold drAt at h
  split at h
  · cases h; exact ⟨.ref as, rfl, as, _, rfl, h3, Reps.ints⟩
  · cases h; exact ⟨.int d.pos, rfl, rfl⟩
  · cases h; exact ⟨.int d.big, rfl, rfl⟩
  · cases h; exact ⟨.int d.lcg, rfl, rfl⟩
  · cases h
theorem eDr_ok {K : PySem.W.Frag} {mg : Str → Option Value} {σ : L2.St} {δ : DEnv} {F H : Hp} {i : Nat} {k : Int} {st : Option Dr} {kk : D → Option Dr → Hp → Hp → Prop} (w : Ws K mg C σ δ st F H) (p : PostG K mg C σ δ F H (eDr i k δ st) kk) :
    ∃ d as z, st = some d ∧ σ[i]? = some (some (V.ref C.ad)) ∧ C.mu C.ad ∧ H C.ad = some (.lst [.ref as, .int d.pos, .int d.big, .int d.lcg]) ∧ F C.ad = none ∧ F as = some (.lst (d.ns.map V.int)) ∧ drAt d k = some z ∧ kk z st F H := by
  unfold eDr at p
  split at p
  · rename_i a d e1
    split at p
    · rename_i ea
      cases ez : drAt d k with
      | none => rw [ez] at p; exact p.elim
      | some z =>
        rw [ez] at p
        obtain ⟨m, as, h1, h2, h3, h4⟩ := w.dr
        obtain ⟨v, e2, r⟩ := w.val i _ e1
        cases r
        refine ⟨d, as, z, rfl, by rw [e2, ea, h4], m, h1, h2, h3, ez, p F H (Ext.refl w.sub) w⟩
    · exact p.elim
  · exact p.elim
theorem de_dr (i : Nat) (k : Int) {x : Str} {p1 p2 : Pos} {j : Nat} (hN : X.N[i]? = some x := by rfl) (hv : Vis X.env.scope x := by first | exact Or.inl rfl | exact Or.inr (Or.inl rfl) | exact Or.inr (Or.inr rfl)) (hd : (x == ("__debug__" : Str)) = false := by decide)
    (hcd : (x == ("__classdict__" : Str)) = false := by decide) : DE X C (.Subscript (.Name x p1) (.Constant (.int k) j p2) pos) (eDr i k) := by
  refine PE.imp (pe_ix ix_list (pv i hN hv hd hcd) pe_int (fun _ _ => rfl)) fun σ H Q ⟨F, δ, st, w, p⟩ => ?_
  obtain ⟨d, as, z, rfl, e1, m, h1, h2, h3, ez, q⟩ := eDr_ok w p
  obtain ⟨v, e2, r⟩ := drAt_ok (K := X.K) (mg := X.mg) h3 ez
  exact ⟨_, e1, C.ad, _, k, v, rfl, rfl, SqL.of h1, e2, q v r⟩
theorem Ws.updDr {K : PySem.W.Frag} {mg : Str → Option Value} {σ : L2.St} {δ : DEnv} {st st' : Option Dr} {F H : Hp} {o : HO} (w : Ws K mg C σ δ st F H) (m : C.mu C.ad) (f : F C.ad = none) (d : DrOk K C.mu C.ad st' F (upd H C.ad o)) : Ws K mg C σ δ st' F (upd H C.ad o) :=
  w.step' ⟨Le.refl, le_updR w.sub f, fun _ n _ => n, fun b u nb e => by
    have q : b ≠ C.ad := fun z => nb (by rw [z]; exact m)
    rw [upd_ne q]; exact e, fun b e => by
    by_cases q : b = C.ad
    · rw [q, upd_same]; simp
    · rw [upd_ne q]; exact e⟩ d
theorem ds_dr (i : Nat) (k : Int) {x : Str} {p1 p2 p3 : Pos} {j : Nat} (he : DE X C e fa) (hN : X.N[i]? = some x := by rfl) (hv : Vis X.env.scope x := by first | exact Or.inl rfl | exact Or.inr (Or.inl rfl) | exact Or.inr (Or.inr rfl)) (hd : (x == ("__debug__" : Str)) = false := by decide)
    (hcd : (x == ("__classdict__" : Str)) = false := by decide)
    (ha : ∀ v, assign (.Subscript (.Name x p1) (.Constant (.int k) j p2) p3) X.env v = (do
      let ov ← holding [v] (eval (.Name x p1) X.env)
      let iv ← holding [v, ov] (eval (.Constant (.int k) j p2) X.env)
      standAt p3
      holding [v, ov, iv] (setItem ov iv v)
      release [v, ov, iv] []) := by intro _; rfl)
    (hs : swapsWithSole [.Subscript (.Name x p1) (.Constant (.int k) j p2) p3] e pos.line X.env = pure false := by rfl) (hw : swappedStores [.Subscript (.Name x p1) (.Constant (.int k) j p2) p3] e X.env = pure none := by rfl)
    (h1 : (assignEach [.Subscript (.Name x p1) (.Constant (.int k) j p2) p3] X.env).map (·.2) = [assign (.Subscript (.Name x p1) (.Constant (.int k) j p2) p3) X.env] := by rfl) :
    DS X C (.Assign [.Subscript (.Name x p1) (.Constant (.int k) j p2) p3] e pos) (sDr i k fa) := by
  refine PS.imp (ps_asg he (pg_sub (pv i hN hv hd hcd) pe_int set_list ha) hs hw h1) fun E σ H ⟨F, δ, st, w, p⟩ => ?_
  refine ⟨F, δ, st, w, (PostG.ofS p).imp fun z st1 F1 H1 x1 w1 q v r => ?_⟩
  unfold putDr at q
  split at q
  · rename_i n a d e1
    split at q
    · rename_i ea
      cases ed : drPut d n k with
      | none => rw [ed] at q; exact q.elim
      | some d' =>
        rw [ed] at q
        obtain ⟨m, as, g1, g2, g3, g4⟩ := w1.dr
        obtain ⟨v', e2, r'⟩ := w1.val i _ e1
        cases r'
        cases r
        unfold drPut at ed
        split at ed
        · cases ed
          refine ⟨_, e2, C.ad, [.ref as, .int d.pos, .int d.big, .int d.lcg], _, 1, by rw [ea, g4], rfl, g1, rfl, q σ F1 _ Le.refl (w1.updDr m g2 ⟨m, as, upd_same, g2, g3, g4⟩)⟩
        · cases ed
          refine ⟨_, e2, C.ad, [.ref as, .int d.pos, .int d.big, .int d.lcg], _, 2, by rw [ea, g4], rfl, g1, rfl, q σ F1 _ Le.refl (w1.updDr m g2 ⟨m, as, upd_same, g2, g3, g4⟩)⟩
        · cases ed
          refine ⟨_, e2, C.ad, [.ref as, .int d.pos, .int d.big, .int d.lcg], _, 3, by rw [ea, g4], rfl, g1, rfl, q σ F1 _ Le.refl (w1.updDr m g2 ⟨m, as, upd_same, g2, g3, g4⟩)⟩
        · cases ed
    · exact q.elim
  · exact q.elim
end
/-! ### the law's start -/
section
variable {P : Program} {w : World} {K : PySem.W.Frag} {mg : Str → Option Value} {base : Heap}
/-- _law_draws(script) -/
def spDraws (K : PySem.W.Frag) : Sp := fun vs H Q _ => ∃ (a : Addr) (ns : List Int), vs = [.ref a] ∧ SqL K H a (ns.map V.int) ∧ ∀ as ad H', as ≠ ad → H as = none → H ad = none → H' = upd (upd H as (.lst (ns.map V.int))) ad (.lst [.ref as, .int 0, .int 0, .int 1]) → Q (.ref ad) H'
def spLaw (K : PySem.W.Frag) : Sp := fun vs H Q _ => ∃ (a : Addr) (ns : List Int), vs = [.ref a] ∧ SqL K H a (ns.map V.int) ∧ ns.length ≤ 63 ∧ ∀ H', Q (.bl true) H'
/-- the law behind its first row: from any draws it ends with True -/
def LawOk (i n : Nat) (f : DEnv → Md Fl) : Prop := ∀ (ad : Addr) (ns : List Int), ns.length ≤ 63 → ∃ st, f ((List.replicate n Slot.un).set i (.val (.ref ad))) (some ⟨ad, ns, 0, 0, 1⟩) = .ok (.rt (.bl true)) st
theorem law_start {σ : L2.St} {H : Hp} {E : Ends} {C : Ctx} {i n : Nat} {f : DEnv → Md Fl} {ns : List Int} {as ad : Addr} (hL : LawOk i n f) (hn : ns.length ≤ 63) (h0 : as ≠ ad) (hH : H ad = some (.lst [.ref as, .int 0, .int 0, .int 1])) (hA : H as = some (.lst (ns.map V.int)))
    (hσ : σ[i]? = some (some (V.ref ad))) (hl : σ.length = n) (hC : C = ⟨upd (fun _ => none) as (.lst (ns.map V.int)), H, (· = ad), ad, C.W⟩) (hE : ∀ H', E.rt (.bl true) H') : tS K mg C f E σ H := by
  obtain ⟨st, e⟩ := hL ad ns hn
  rw [hC]
  refine ⟨upd (fun _ => none) as (.lst (ns.map V.int)), _, _, ?_, by rw [e]; exact fun v F' H' _ _ r => by cases r; exact hE H'⟩
  have nF : upd (fun _ => none) as (.lst (ns.map V.int)) ad = none := by rw [upd_ne (Ne.symm h0)]
  have kk : ∀ (j : Nat) (s : Slot), ((List.replicate n Slot.un).set i (.val (.ref ad)))[j]? = some s → s = .un ∨ (j = i ∧ s = .val (.ref ad)) := fun j s h => by
    rw [List.getElem?_set] at h
    split at h
    · rename_i q
      split at h
      · cases h; exact .inr ⟨q.symm, rfl⟩
      · cases h
    · rw [List.getElem?_replicate] at h
      split at h
      · cases h; exact .inl rfl
      · cases h
  refine ⟨Ext.refl fun b o q => ?_, fun b q => ?_, by rw [List.length_set, List.length_replicate, hl], fun j d h => ?_, fun j d h => ?_, fun j d d2 h => ?_, fun j l s t b e1 e2 o1 o2 _ _ => ?_, rfl, as, hH, nF, upd_same, rfl⟩
  · change upd (fun _ => none) as (.lst (ns.map V.int)) b = some o at q
    show H b = some o
    by_cases z : b = as
    · subst z; rw [upd_same] at q; cases q; exact hA
    · rw [upd_ne z] at q; cases q
  · cases (show b = ad from q)
    exact ⟨nF, by show H ad ≠ none; rw [hH]; simp⟩
  · rcases kk j _ h with q | ⟨rfl, q⟩
    · cases q
    · cases q; exact ⟨_, hσ, rfl⟩
  · rcases kk j _ h with q | ⟨rfl, q⟩ <;> cases q
  · rcases kk j _ h with q | ⟨rfl, q⟩ <;> cases q
  · rcases kk j _ e1 with q | ⟨rfl, q⟩
    · rw [q] at o1; cases o1
    · rw [q] at o1; cases o1
end
end DL

set_option Elab.async false
set_option linter.all false
set_option maxRecDepth 100000
set_option maxHeartbeats 4000000
/-! diagrams -/
namespace DL
open PySem PySem.Spec PyProof.Rows L2
section
variable {X : Cx} {W : WX} {e : Expr}
theorem PT.any {f : DEnv → Md Bool} (h : ∀ C : Ctx, C.W = W → DT X C e f) : PT X e fun σ H Q => ∃ C : Ctx, C.W = W ∧ tT X.K X.mg C f σ H Q :=
  ⟨fun pins s σ H Q I ⟨C, hC, q⟩ => (h C hC).run pins s σ H Q I q⟩
theorem PE.any {f : DEnv → Md D} (h : ∀ C : Ctx, C.W = W → DE X C e f) : PE X e fun σ H Q => ∃ C : Ctx, C.W = W ∧ tE X.K X.mg C f σ H Q :=
  ⟨fun pins s σ H Q I ⟨C, hC, q⟩ => (h C hC).run pins s σ H Q I q⟩
end
theorem PSs.any {X : Cx} {W : WX} {ss : List Stmt} {f : DEnv → Md Fl} (h : ∀ C : Ctx, C.W = W → DSs X C ss f) : PSs X ss fun E σ H => ∃ C : Ctx, C.W = W ∧ tS X.K X.mg C f E σ H :=
  ⟨fun pins s σ H D I ⟨C, hC, q⟩ => (h C hC).run pins s σ H D I q⟩
/-- slots that hold values alone -/
theorem ws_vals {K : PySem.W.Frag} {mg : Str → Option Value} {F H : Hp} {σ : L2.St} {δ : DEnv} {ad : Addr} {W : WX} (l : Le F H) (hl : δ.length = σ.length) (hv : ∀ (i : Nat) (d : D), δ[i]? = some (Slot.val d) → ∃ v, σ[i]? = some (some v) ∧ Rep K mg F d v) (ho : ∀ (i : Nat) (s : Slot), δ[i]? = some s → s.isOwn = false) :
    Ws K mg ⟨F, H, fun _ => False, ad, W⟩ σ δ none F H where
  ext := Ext.refl l
  muv := fun b q => q.elim
  sl := hl
  val := hv
  own := fun i ds e => by have := ho i _ e; cases this
  owd := fun i ks ws e => by have := ho i _ e; cases this
  inj := fun i j s t a e1 e2 o1 o2 _ _ => by have := ho i _ e1; rw [this] at o1; cases o1
  dr := trivial
theorem t_known {K : PySem.W.Frag} {mg : Str → Option Value} {F H : Hp} {σ : L2.St} {δ : DEnv} {W : WX} {f : DEnv → Md Bool} {Q : Bool → Hp → Prop} {b : Bool} {st : Option Dr} (l : Le F H) (hl : δ.length = σ.length) (hv : ∀ (i : Nat) (d : D), δ[i]? = some (Slot.val d) → ∃ v, σ[i]? = some (some v) ∧ Rep K mg F d v) (ho : ∀ (i : Nat) (s : Slot), δ[i]? = some s → s.isOwn = false)
    (hf : f δ none = .ok b st) (h : ∀ F' H', Ext0 F H F' H' → Q b H') : ∃ C : Ctx, C.W = W ∧ tT K mg C f σ H Q :=
  ⟨⟨F, H, fun _ => False, 0, W⟩, rfl, F, δ, none, ws_vals l hl hv ho, by rw [hf]; exact fun F' H' x _ => h F' H' x⟩
/-! ### edges -/
abbrev Edge := Int × Int × Int
def edD (x : Edge) : D := .tup [.int x.1, .int x.2.1, .int x.2.2]
def asEdges : List D → Option (List Edge)
  | [] => some []
  | .tup [.int a, .int b, .int c] :: r => (asEdges r).map fun l => (a, b, c) :: l
  | _ => none
theorem asEdges_eq : ∀ {ds : List D} {l : List Edge}, asEdges ds = some l → ds = l.map edD
  | [], l, h => by cases h; rfl
  | .tup [.int a, .int b, .int c] :: r, l, h => by
    obtain ⟨k, e, rfl⟩ := Option.map_eq_some_iff.mp (show (asEdges r).map _ = some l from h)
    rw [asEdges_eq e]; rfl
theorem asEdges_map : ∀ l : List Edge, asEdges (l.map edD) = some l
  | [] => rfl
  | (a, b, c) :: r => by
    show (asEdges (r.map edD)).map _ = _
    rw [asEdges_map r]; rfl
def okEdge (n : Int) (x : Edge) : Bool := decide (0 ≤ x.1) && decide (x.1 < x.2.1) && decide (x.2.1 < n) && (x.2.2 == 0 || x.2.2 == 3 || x.2.2 == 4 || x.2.2 == 5 || x.2.2 == 6)
def okDiag (n : Int) (l : List Edge) : Bool := decide (0 ≤ n) && decide (n ≤ 9) && l.all (okEdge n) && decide ((l.map fun x => (x.1, x.2.1)).Nodup) && decide (l.length ≤ 100)
def keyE (x : Edge) : List Key := [.inl x.1, .inl x.2.1]
def dDiag (n : Int) (l : List Edge) : D := .obj "Diagram" ["labels", "size"] [.dic (l.map fun x => .tup [.int x.1, .int x.2.1]) (l.map fun x => .int x.2.2), .int n]
def kvsE (l : List Edge) : List (List Key × V) := l.map fun x => (keyE x, .int x.2.2)
def diagO (ds : List D) : Option D := match ds with
  | [.int n, .tup es] => match asEdges es with
    | some l => if okDiag n l = true then some (dDiag n l) else none
    | none => none
  | _ => none
/-- Diagram.__init__ at a new instance x -/
def spDiag (K : PySem.W.Frag) (mg : Str → Option Value) (C : Addr) : Sp := fun vs H Q _ => ∃ (x dx : Addr) (F : Hp) (n : Int) (v : V) (l : List Edge), vs = [.ref x, .int n, v] ∧ H x = some (.ins C dx []) ∧ Le F H ∧ F x = none ∧ Rep K mg F (.tup (l.map edD)) v ∧ okDiag n l = true ∧
  ∀ (H' : Hp) (L : Addr), (∀ b o, b ≠ x → H b = some o → H' b = some o) → H L = none → L ≠ x → H' x = some (.ins C dx [("labels", .ref L), ("size", .int n)]) → H' L = some (.dT (kvsE l)) → Q .non H'
theorem kvsE_keys (l : List Edge) : (l.map fun x => D.tup [.int x.1, .int x.2.1]) = (kvsE l).map (fun p => D.tup (p.1.map kD)) := by
  unfold kvsE; rw [List.map_map]; rfl
theorem kvsE_vals {K : PySem.W.Frag} {mg : Str → Option Value} {F : Hp} (l : List Edge) : Reps K mg F (l.map fun x => D.int x.2.2) ((kvsE l).map (·.2)) := by
  have e1 : (l.map fun x => D.int x.2.2) = (l.map fun x => x.2.2).map D.int := by rw [List.map_map]; rfl
  have e2 : (kvsE l).map (·.2) = (l.map fun x => x.2.2).map V.int := by unfold kvsE; rw [List.map_map, List.map_map]; rfl
  rw [e1, e2]
  exact Reps.ints
section
variable {X : Cx} {C : Ctx} {e : Expr} {es : List Expr} {fs : DEnv → Md (List D)} {pos p : Pos} {k : Nat} {f A : Addr} {fd : FuncData}
def eDiag (fs : DEnv → Md (List D)) : DEnv → Md D := fun δ => Md.bind (fs δ) fun ds => Md.ofO (diagO ds)
theorem de_Diag (M : Mk X.K A f) (Fn : FnOk X.prog X.w X.K X.mg X.base (L2.CX X.prog X.w) k f fd ["self", "size", "edges"] (spDiag X.K X.mg A)) (hr : Room (k + 1) X.A) (gC : X.mg "Diagram" = some (.ref A)) (hb : Binds X.K fd ["self", "size", "edges"] []) (ha : DAr X C (e :: es) fs) (hg : Gl X "Diagram" := by rfl)
    (he : starEach (e :: es) X.env = (false, eval e X.env) :: starEach es X.env := by rfl) (hpl : (backTo pos (starEach es X.env)).any (·.1) = false := by rfl) : DE X C (.Call (.Name "Diagram" p) (e :: es) [] pos) (eDiag fs) := by
  refine PE.imp (pe_make M Fn hr hg gC hb .nil pass00 ha (by decide) he hpl) fun σ H Q ⟨F, δ, st, w, q⟩ => ?_
  refine ⟨F, δ, st, w, (PostG.bind q).imp fun ds st1 F1 H1 x1 w1 q1 vs r x dx hx hd ne => ?_⟩
  obtain ⟨z, g, kk⟩ := PostG.ofO q1 w1
  unfold diagO at g
  split at g
  · rename_i n es
    split at g
    · rename_i l el
      split at g
      · cases g
        rename_i ok
        obtain ⟨v1, _, rfl, r1, v2, _, rfl, r2, rfl⟩ := r
        cases r1
        have e1 := asEdges_eq el
        subst e1
        have lF : Le F1 (upd (upd H1 dx (.own x)) x (.ins A dx [])) := le_updR (le_updR w1.sub (w1.sub.none hd)) (w1.sub.none hx)
        refine ⟨x, dx, F1, n, v2, l, rfl, upd_same, lF, w1.sub.none hx, r2, ok, fun H' L k1 hL nL k2 k3 => ⟨rfl, ?_⟩⟩
        have hL' : H1 L = none := by
          rw [upd_ne nL] at hL
          by_cases q : L = dx
          · rw [q, upd_same] at hL; cases hL
          · rw [upd_ne q] at hL; exact hL
        have kp : ∀ b o, H1 b = some o → H' b = some o := fun b o h => by
          have nb : b ≠ x := ne_of_none h hx
          refine k1 b o nb ?_
          rw [upd_ne nb, upd_ne (ne_of_none h hd)]; exact h
        let F' := upd (upd F1 L (.dT (kvsE l))) x (.ins A dx [("labels", .ref L), ("size", .int n)])
        have le1 : Le F1 F' := fun b o h => by
          have n1 : b ≠ x := ne_of_none h (w1.sub.none hx)
          have n2 : b ≠ L := ne_of_none h (w1.sub.none hL')
          show upd _ _ _ b = _
          rw [upd_ne n1, upd_ne n2]; exact h
        have xx : Ext0 F1 H1 F' H' := ⟨le1, fun b o h => by
          change upd _ _ _ b = _ at h
          by_cases q : b = x
          · subst q; rw [upd_same] at h; cases h; exact k2
          · rw [upd_ne q] at h
            by_cases q2 : b = L
            · subst q2; rw [upd_same] at h; cases h; exact k3
            · rw [upd_ne q2] at h; exact kp b o (w1.sub _ _ h), fun b h1 h2 => by
          have n1 : b ≠ x := fun z => by subst z; exact h2 hx
          have n2 : b ≠ L := fun z => by subst z; exact h2 hL'
          show upd _ _ _ b = _
          rw [upd_ne n1, upd_ne n2]; exact h1, fun b o _ h => kp b o h, fun b h => by
          cases q : H1 b with
          | none => exact absurd q h
          | some o => rw [kp b o q]; simp⟩
        refine kk F' H' xx (.ref x) ⟨x, A, dx, [.ref L, .int n], rfl, gC, upd_same, rfl, .ref L, _, rfl, ?_, .int n, _, rfl, rfl, rfl⟩
        refine ⟨L, rfl, .inr ⟨kvsE l, ?_, kvsE_keys l, kvsE_vals l⟩⟩
        show upd _ _ _ L = _
        rw [upd_ne nL, upd_same]
      · cases g
    · cases g
  · cases g
end
/-! ### the label of a pair -/
def labD (l : List Edge) (i j : Int) : Int := match l.find? fun x => x.1 == i && x.2.1 == j with
  | some x => x.2.2
  | none => 2
theorem valV_kvsE (i j : Int) : ∀ l : List Edge, (valV (kvsE l) [.inl i, .inl j]).getD (.int 2) = .int (labD l i j)
  | [] => rfl
  | x :: r => by
    have ih := valV_kvsE i j r
    unfold kvsE at ih ⊢
    unfold labD at ih ⊢
    rw [List.map_cons, List.find?_cons]
    by_cases h : x.1 = i ∧ x.2.1 = j
    · obtain ⟨rfl, rfl⟩ := h
      rw [valV_pos (show keyE x = _ from rfl)]
      simp
    · have n : ¬ keyE x = [.inl i, .inl j] := fun q => h (by unfold keyE at q; injection q with q1 q2; injection q2 with q2 _; exact ⟨by injection q1, by injection q2⟩)
      rw [valV_neg n]
      have e : (x.1 == i && x.2.1 == j) = false := by
        simp only [Bool.and_eq_false_iff, beq_eq_false_iff_ne]
        by_cases q : x.1 = i
        · exact .inr fun z => h ⟨q, z⟩
        · exact .inl q
      rw [e]
      exact ih
/-! ### Diagram.__init__, read -/
def tDiagInit (K : PySem.W.Frag) (mg : Str → Option Value) (W : WX) (f1 f2 : DEnv → Md Bool) : TS :=
  tSeq (tIfS (fun σ H Q => ∃ C : Ctx, C.W = W ∧ tT K mg C f1 σ H Q) tNever tNext)
    (tSeq (sFld K (tVar 0) tDNewT "labels")
      (tSeq (tFor (iTup K (tVar 2)) (gName 3) (tSeq (tIfS (tOr (fun σ H Q => ∃ C : Ctx, C.W = W ∧ tT K mg C f2 σ H Q) (tB (tDIn (tSl (rSlA K) (tVar 3) tNoPart (tPart (tC (.int 2)))) (tFld K (tVar 0) "labels")))) tNever tNext)
          (sDPut (tFld K (tVar 0) "labels") (tSl (rSlA K) (tVar 3) tNoPart (tPart (tC (.int 2)))) (tOp (rIxT K) (tVar 3) (tC (.int 2))))))
        (sFld K (tVar 0) (tVar 1) "size")))
theorem valV_absent {κ : Type} [DecidableEq κ] {k : κ} : ∀ {kvs : List (κ × V)}, k ∉ kvs.map (·.1) → valV kvs k = none
  | [], _ => rfl
  | p :: r, h => by
    rw [List.map_cons, List.mem_cons, not_or] at h
    rw [valV_neg (fun q => h.1 q.symm)]
    exact valV_absent h.2
theorem keyE_inj {x y : Edge} (h : keyE x = keyE y) : (x.1, x.2.1) = (y.1, y.2.1) := by
  unfold keyE at h
  injection h with q1 q2
  injection q2 with q2 _
  injection q1 with q1
  injection q2 with q2
  rw [q1, q2]
theorem tup3 {K : PySem.W.Frag} {mg : Str → Option Value} {F : Hp} {e : Edge} {v : V} (r : Rep K mg F (edD e) v) : ∃ t, v = .ref t ∧ SqT K F t [.int e.1, .int e.2.1, .int e.2.2] := by
  obtain ⟨t, vs, rfl, h, rs⟩ := r
  obtain ⟨v1, _, rfl, r1, v2, _, rfl, r2, v3, _, rfl, r3, rfl⟩ := rs
  cases r1
  cases r2
  cases r3
  exact ⟨t, rfl, h⟩
theorem diag_read {K : PySem.W.Frag} {mg : Str → Option Value} {W : WX} {f1 f2 : DEnv → Md Bool} {A x dx : Addr} {F H : Hp} {n : Int} {v : V} {l : List Edge} {Q : VK} (hc : Cls K A) (nl : NoAttr K A "labels") (ns : NoAttr K A "size")
    (hx : H x = some (.ins A dx [])) (lF : Le F H) (nx : F x = none) (rv : Rep K mg F (.tup (l.map edD)) v) (ok : okDiag n l = true)
    (h1 : 0 ≤ n → n ≤ 9 → f1 [.un, .val (.int n), .val (.tup (l.map edD)), .un] none = .ok false none)
    (h2 : ∀ e, okEdge n e = true → f2 [.un, .val (.int n), .val (.tup (l.map edD)), .val (edD e)] none = .ok false none)
    (q : ∀ (H' : Hp) (L : Addr), (∀ b o, b ≠ x → H b = some o → H' b = some o) → H L = none → L ≠ x → H' x = some (.ins A dx [("labels", .ref L), ("size", .int n)]) → H' L = some (.dT (kvsE l)) → Q .non H') :
    tDiagInit K mg W f1 f2 { nx := fun _ H' => Q .non H', rt := Q } [some (.ref x), some (.int n), some v, none] H := by
  unfold okDiag at ok
  simp only [Bool.and_eq_true, decide_eq_true_eq, List.all_eq_true] at ok
  obtain ⟨⟨⟨⟨k0, k9⟩, ke⟩, kd⟩, kl⟩ := ok
  have vals : ∀ (s3 : Slot) (y3 : Option V) (F' : Hp), Le F F' → (∀ d, s3 = .val d → ∃ v, y3 = some v ∧ Rep K mg F' d v) → ∀ (i : Nat) (d : D), [Slot.un, .val (.int n), .val (.tup (l.map edD)), s3][i]? = some (Slot.val d) → ∃ w, [some (V.ref x), some (V.int n), some v, y3][i]? = some (some w) ∧ Rep K mg F' d w := fun s3 y3 F' le h3 i d hi => by
    match i, hi with
    | 0, hi => cases hi
    | 1, hi => cases hi; exact ⟨_, rfl, rfl⟩
    | 2, hi => cases hi; exact ⟨_, rfl, Rep.le le _ _ rv⟩
    | 3, hi =>
      obtain ⟨w, e, r⟩ := h3 d (Option.some.inj hi)
      exact ⟨w, by rw [e]; rfl, r⟩
    | i + 4, hi => cases hi
  refine t_known (F := F) (δ := [.un, .val (.int n), .val (.tup (l.map edD)), .un]) lF rfl (vals .un none F Le.refl fun d h => by cases h) (fun i s h => ?_) (h1 k0 k9) fun F1 H1 x1 => iteF ?_
  · match i, h with
    | 0, h => cases h; rfl
    | 1, h => cases h; rfl
    | 2, h => cases h; rfl
    | 3, h => cases h; rfl
    | i + 4, h => cases h
  have e1 : H1 x = some (.ins A dx []) := x1.keep _ _ (fun z => z) hx
  intro L hL
  have nLx : L ≠ x := fun z => by rw [z, e1] at hL; cases hL
  have hHL : H L = none := gone x1 hL
  refine ⟨_, rfl, x, A, dx, [], rfl, by rw [upd_ne (Ne.symm nLx)]; exact e1, hc, nl, by decide, ?_⟩
  -- the loop
  have rv' := rv
  obtain ⟨a, vs, rfl, hq, rs⟩ := rv'
  have leH : ∀ H' : Hp, (∀ b o, b ≠ x → H b = some o → H' b = some o) → Le F H' := fun H' hk b o h => hk b o (ne_of_none h nx) (lF _ _ h)
  have hlen : vs.length = l.length := by rw [rs.length, List.length_map]
  have kH2 : ∀ b o, b ≠ x → H b = some o → upd (upd H1 L (.dT [])) x (.ins A dx [("labels", .ref L)]) b = some o := fun b o nb h => by
    rw [upd_ne nb, upd_ne (ne_of_none h hHL)]; exact x1.keep _ _ (fun z => z) h
  refine ⟨_, rfl, a, rfl, ⟨vs, sqT_le (leH _ kH2) hq⟩, ?_⟩
  refine for_it (walk_tup (xs := vs)) (fun i σ H3 => ∃ y3, σ = [some (V.ref x), some (V.int n), some (V.ref a), y3] ∧ H3 x = some (.ins A dx [("labels", .ref L)]) ∧ H3 L = some (.dT (kvsE (l.take i))) ∧ ∀ b o, b ≠ x → H b = some o → H3 b = some o)
    ⟨none, rfl, upd_same, by rw [upd_ne nLx, upd_same]; rfl, kH2⟩ (fun i σ H3 hi ⟨y3, _, _, _, hk⟩ => sqT_le (leH _ hk) hq) (fun i w σ H3 H4 hi ⟨y3, es, g1, g2, hk⟩ hy => ?_) (fun σ H3 ⟨y3, es, g1, g2, hk⟩ => ?_)
  · obtain ⟨rfl, ew⟩ := hy
    subst es
    obtain ⟨d, ed, rd⟩ := rs.get ew
    rw [List.getElem?_map] at ed
    obtain ⟨e, ee, rfl⟩ := Option.map_eq_some_iff.mp ed
    have hil : i < l.length := by rw [← hlen]; exact hi
    have oke : okEdge n e = true := ke e (List.mem_of_getElem? ee)
    show (tSeq _ _) _ [some (V.ref x), some (V.int n), some (V.ref a), some w] H4
    refine t_known (F := F) (δ := [.un, .val (.int n), .val (.tup (l.map edD)), .val (edD e)]) (leH _ hk) rfl (vals (.val (edD e)) (some w) F Le.refl fun d h => by cases h; exact ⟨w, rfl, rd⟩) (fun i s h => ?_) (h2 e oke) fun F5 H5 x5 => iteF ?_
    · match i, h with
      | 0, h => cases h; rfl
      | 1, h => cases h; rfl
      | 2, h => cases h; rfl
      | 3, h => cases h; rfl
      | i + 4, h => cases h
    obtain ⟨t, rfl, ht⟩ := tup3 rd
    have k5 : ∀ b o, b ≠ x → H b = some o → H5 b = some o := fun b o nb h => x5.keep _ _ (fun z => z) (hk b o nb h)
    have f1 : H5 x = some (.ins A dx [("labels", .ref L)]) := x5.keep _ _ (fun z => z) g1
    have f2 : H5 L = some (.dT (kvsE (l.take i))) := x5.keep _ _ (fun z => z) g2
    have cut : cutV [V.int e.1, V.int e.2.1, V.int e.2.2] none (some 2) = [V.int e.1, V.int e.2.1] := rfl
    have nw : ¬ (HT.sIx ([V.int e.1, V.int e.2.1, V.int e.2.2] : List V).length 0 none = 0 ∧ HT.sIx ([V.int e.1, V.int e.2.1, V.int e.2.2] : List V).length ([V.int e.1, V.int e.2.1, V.int e.2.2] : List V).length (some 2) = ([V.int e.1, V.int e.2.1, V.int e.2.2] : List V).length) := fun z => absurd (show (2 : Nat) = 3 from z.2) (by decide)
    have absent : keyE e ∉ (kvsE (l.take i)).map (·.1) := fun z => by
      obtain ⟨p, hp, ep⟩ := List.mem_map.mp z
      unfold kvsE at hp
      obtain ⟨y, hy, rfl⟩ := List.mem_map.mp hp
      have ek := keyE_inj ep
      obtain ⟨j, hj, ej⟩ := List.mem_iff_getElem.mp hy
      rw [List.getElem_take] at ej
      have hji : j < i := by rw [List.length_take] at hj; omega
      have e2 : l[i] = e := by rw [List.getElem?_eq_getElem hil] at ee; exact Option.some.inj ee
      have nd := List.pairwise_iff_getElem.mp kd j i (by rw [List.length_map]; omega) (by rw [List.length_map]; exact hil) hji
      rw [List.getElem_map, List.getElem_map, ej, e2] at nd
      exact nd ek
    refine ⟨_, rfl, 2, rfl, t, _, rfl, sqT_le (leH _ k5) ht, fun z => absurd z nw, fun _ p hp => ?_⟩
    rw [cut]
    have np : x ≠ p := ne_of_none f1 hp
    have nLp : L ≠ p := ne_of_none f2 hp
    refine ⟨_, rfl, x, A, dx, _, .ref L, rfl, by rw [upd_ne np]; exact f1, hc, nl, rfl, L, none, rfl, ?_, false, rfl, iteF ?_⟩
    · have := DGet.t (k := keyE e) (show upd H5 p (.tup [.int e.1, .int e.2.1]) L = some (.dT (kvsE (l.take i))) by rw [upd_ne nLp]; exact f2) (show upd H5 p (.tup [.int e.1, .int e.2.1]) p = some (.tup ((keyE e).map kV)) from upd_same)
      rw [valV_absent absent] at this
      exact this
    have k6 : ∀ b o, b ≠ x → H b = some o → upd H5 p (.tup [.int e.1, .int e.2.1]) b = some o := fun b o nb h => by
      rw [upd_ne (ne_of_none (k5 b o nb h) hp)]; exact k5 b o nb h
    refine ⟨_, rfl, t, _, 2, .int e.2.2, rfl, rfl, sqT_le (leH _ k6) ht, rfl, ?_⟩
    refine ⟨_, rfl, x, A, dx, _, .ref L, rfl, by rw [upd_ne np]; exact f1, hc, nl, rfl, ?_⟩
    refine ⟨_, rfl, 2, rfl, t, _, rfl, sqT_le (leH _ k6) ht, fun z => absurd z nw, fun _ p2 hp2 => ?_⟩
    rw [cut]
    have f1' : upd H5 p (.tup [.int e.1, .int e.2.1]) x = some (.ins A dx [("labels", .ref L)]) := by rw [upd_ne np]; exact f1
    have f2' : upd H5 p (.tup [.int e.1, .int e.2.1]) L = some (.dT (kvsE (l.take i))) := by rw [upd_ne nLp]; exact f2
    have np2 : x ≠ p2 := ne_of_none f1' hp2
    have nLp2 : L ≠ p2 := ne_of_none f2' hp2
    refine ⟨L, _, rfl, DPut.t (k := keyE e) (by rw [upd_ne nLp2]; exact f2') upd_same ?_, ?_⟩
    · unfold kvsE
      rw [List.length_map, List.length_take]
      rw [sizeLine_eq]; omega
    · refine ⟨some (.ref t), rfl, by rw [upd_ne (Ne.symm nLx), upd_ne np2]; exact f1', ?_, fun b o nb h => ?_⟩
      · rw [upd_same, putK_new absent, List.take_add_one, ee]
        unfold kvsE
        rw [List.map_append]; rfl
      · have h6 := k6 b o nb h
        rw [upd_ne (ne_of_none h hHL), upd_ne (ne_of_none h6 hp2)]; exact h6
  · rw [hlen, List.take_length] at g2
    subst es
    refine ⟨_, rfl, _, rfl, x, A, dx, _, rfl, g1, hc, ns, by show 1 < 1000; decide, ?_⟩
    refine q _ L (fun b o nb h => by rw [upd_ne nb]; exact hk b o nb h) hHL nLx ?_ (by rw [upd_ne nLx]; exact g2)
    rw [upd_same]
    have e : putF "size" (V.int n) ([("labels", V.ref L)] : List (Str × V)) = ([("labels", V.ref L), ("size", V.int n)] : List (Str × V)) := by
      show (if ("labels" : Str) = "size" then _ else _) = _
      rw [if_neg (by decide)]
      rfl
    rw [e]
end DL

set_option Elab.async false
set_option linter.all false
set_option maxRecDepth 100000
set_option maxHeartbeats 4000000
/-! how the functions on data are evaluated -/
namespace DL
open PySem PySem.Spec PyProof.Rows L2
section
variable {α β : Type}
theorem rbind_ok (a : α) (st : Option Dr) (g : α → Md β) : (Res.ok a st).bind g = g a st := rfl
theorem rbind_err (c : Str) (w : Option Str) (st : Option Dr) (g : α → Md β) : (Res.err c w st).bind g = .err c w st := rfl
theorem rbind_stuck (g : α → Md β) : (Res.stuck : Res α).bind g = .stuck := rfl
def Res.bindS : Res α → (α → Md β) → Res β
  | .ok a st, g => g a st
  | _, _ => .stuck
theorem bindS_eq (f : Md α) (g : α → Md β) (st : Option Dr) : DL.bindS f g st = (f st).bindS g := by
  unfold DL.bindS Res.bindS
  cases f st <;> rfl
theorem rbindS_ok (a : α) (st : Option Dr) (g : α → Md β) : (Res.ok a st).bindS g = g a st := rfl
theorem mbind_eq (f : Md α) (g : α → Md β) (st : Option Dr) : Md.bind f g st = (f st).bind g := rfl
theorem mpure_eq (a : α) (st : Option Dr) : Md.pure a st = .ok a st := rfl
theorem mofO_some (a : α) (st : Option Dr) : Md.ofO (some a) st = .ok a st := rfl
theorem mofO_none (st : Option Dr) : (Md.ofO none : Md α) st = .stuck := rfl
theorem ite_md {c : Prop} [Decidable c] (f g : Md α) (st : Option Dr) : (if c then f else g) st = if c then f st else g st := by split <;> rfl
theorem ite_rbind {c : Prop} [Decidable c] (f g : Res α) (h : α → Md β) : (if c then f else g).bind h = if c then f.bind h else g.bind h := by split <;> rfl
theorem ite_rbindS {c : Prop} [Decidable c] (f g : Res α) (h : α → Md β) : (if c then f else g).bind h = if c then f.bind h else g.bind h := by split <;> rfl
/-- what a call gives -/
def callR (r : Res D) (st : Option Dr) : Res D := match r with
  | .ok d _ => .ok d st
  | .err c w _ => .err c w st
  | .stuck => .stuck
theorem callR_ok (d : D) (s st : Option Dr) : callR (.ok d s) st = .ok d st := rfl
theorem eCall_eq (n : Nat) (g : List D → Md D) (fs : DEnv → Md (List D)) (δ : DEnv) (st : Option Dr) : eCall n g fs δ st = (fs δ st).bind fun ds st => if ds.length = n then callR (g ds none) st else .stuck := by
  unfold eCall
  rfl
/-! ### comprehensions over lists told by a function -/
theorem compA_map {γ : Type} {g : GD} {t : DEnv → Md Bool} {e : DEnv → Md D} {δ : DEnv} {st : Option Dr} {enc : γ → D} {p : γ → Bool} {q : γ → D} : ∀ {l : List γ} {acc : List D},
    (∀ x ∈ l, ∃ δ1, g (enc x) δ = some δ1 ∧ t δ1 st = .ok (p x) st ∧ (p x = true → e δ1 st = .ok (q x) st)) → compA g t e δ (l.map enc) acc st = .ok (acc ++ (l.filter p).map q) st
  | [], acc, _ => by
    show Res.ok acc st = _
    rw [List.filter_nil, List.map_nil, List.append_nil]
  | x :: r, acc, h => by
    obtain ⟨δ1, h1, h2, h3⟩ := h x List.mem_cons_self
    have ih := fun acc => compA_map (acc := acc) fun y hy => h y (List.mem_cons_of_mem _ hy)
    rw [List.map_cons]
    unfold compA
    rw [h1]
    dsimp only
    rw [bindS_eq, h2, rbindS_ok]
    cases hp : p x with
    | true =>
      rw [if_pos rfl, bindS_eq, h3 hp, rbindS_ok, ih, List.filter_cons_of_pos hp, List.map_cons, List.append_assoc]
      rfl
    | false =>
      rw [if_neg Bool.false_ne_true, ih, List.filter_cons_of_neg (by rw [hp]; exact Bool.false_ne_true)]
theorem eComp_map {γ : Type} {vs : List Nat} {f : DEnv → Md (List D)} {g : GD} {t : DEnv → Md Bool} {e : DEnv → Md D} {δ : DEnv} {st st' : Option Dr} {enc : γ → D} {p : γ → Bool} {q : γ → D} {l : List γ} (hf : f δ st = .ok (l.map enc) st') (hl : l.length ≤ lim)
    (h : ∀ x ∈ l, ∃ δ1, g (enc x) (wipeD δ vs) = some δ1 ∧ t δ1 st' = .ok (p x) st' ∧ (p x = true → e δ1 st' = .ok (q x) st')) : eComp vs f g t e δ st = .ok ((l.filter p).map q) st' := by
  unfold eComp
  rw [mbind_eq, hf, rbind_ok, if_pos (by rw [List.length_map]; exact hl), compA_map h, List.nil_append]
/-- .. without a test -/
theorem eComp_all {γ : Type} {vs : List Nat} {f : DEnv → Md (List D)} {g : GD} {e : DEnv → Md D} {δ : DEnv} {st st' : Option Dr} {enc q : γ → D} {l : List γ} (hf : f δ st = .ok (l.map enc) st') (hl : l.length ≤ lim)
    (h : ∀ x ∈ l, ∃ δ1, g (enc x) (wipeD δ vs) = some δ1 ∧ e δ1 st' = .ok (q x) st') : eComp vs f g tYesD e δ st = .ok (l.map q) st' := by
  have := eComp_map (p := fun _ => true) (t := tYesD) hf hl fun x hx => by
    obtain ⟨δ1, h1, h2⟩ := h x hx
    exact ⟨δ1, h1, rfl, fun _ => h2⟩
  rw [this, List.filter_eq_self.mpr fun _ _ => rfl]
/-! ### loops -/
theorem forL_inv {γ τ : Type} {g : GD} {body : DEnv → Md Fl} {enc : γ → D} {R : τ → DEnv → Option Dr → Prop} {f : τ → γ → τ} : ∀ {l : List γ} {s : τ} {δ : DEnv} {st : Option Dr}, R s δ st →
    (∀ x ∈ l, ∀ s δ st, R s δ st → ∃ δ1 δ2 st2, g (enc x) δ = some δ1 ∧ body δ1 st = .ok (.nx δ2) st2 ∧ R (f s x) δ2 st2) → ∃ δ' st', forL g body (l.map enc) δ st = .ok (.nx δ') st' ∧ R (l.foldl f s) δ' st'
  | [], s, δ, st, h, _ => ⟨δ, st, rfl, h⟩
  | x :: r, s, δ, st, h, hs => by
    obtain ⟨δ1, δ2, st2, h1, h2, h3⟩ := hs x List.mem_cons_self s δ st h
    obtain ⟨δ', st', h4, h5⟩ := forL_inv h3 fun y hy => hs y (List.mem_cons_of_mem _ hy)
    refine ⟨δ', st', ?_, h5⟩
    rw [List.map_cons]
    unfold forL
    rw [h1]
    dsimp only
    rw [mbind_eq, h2, rbind_ok]
    exact h4
theorem whileN_step {c : DEnv → Md Bool} {body : DEnv → Md Fl} {n : Nat} {δ δ2 : DEnv} {st st1 st2 : Option Dr} (h1 : c δ st = .ok true st1) (h2 : body δ st1 = .ok (.nx δ2) st2) : whileN c body (n + 1) δ st = whileN c body n δ2 st2 := by
  rw [whileN, mbind_eq, h1, rbind_ok, if_pos rfl, mbind_eq, h2, rbind_ok]
theorem whileN_end {c : DEnv → Md Bool} {body : DEnv → Md Fl} {n : Nat} {δ : DEnv} {st st1 : Option Dr} (h1 : c δ st = .ok false st1) : whileN c body (n + 1) δ st = .ok (.nx δ) st1 := by
  rw [whileN, mbind_eq, h1, rbind_ok, if_neg Bool.false_ne_true]; rfl
theorem sSeq_nx {f g : DEnv → Md Fl} {δ δ2 : DEnv} {st st2 : Option Dr} (h : f δ st = .ok (.nx δ2) st2) : sSeq f g δ st = g δ2 st2 := by
  unfold sSeq; rw [mbind_eq, h, rbind_ok]; rfl
theorem sFor_eq {f : DEnv → Md (List D)} {g : GD} {b : DEnv → Md Fl} {δ : DEnv} {st st' : Option Dr} {ds : List D} (h : f δ st = .ok ds st') : sFor f g b δ st = forL g b ds δ st' := by
  unfold sFor; rw [mbind_eq, h, rbind_ok]
end
/-! ### == of data made of ints -/
mutual
def io : D → Bool
  | .int _ => true
  | .tup ds => ios ds
  | .lst ds => ios ds
  | _ => false
def ios : List D → Bool
  | [] => true
  | d :: ds => io d && ios ds
end
mutual
def dep : D → Nat
  | .tup ds => deps ds + 1
  | .lst ds => deps ds + 1
  | _ => 0
def deps : List D → Nat
  | [] => 0
  | d :: ds => max (dep d) (deps ds)
end
mutual
theorem io_py : ∀ d : D, io d = true → ∃ p, toPy d = some p ∧ p.canLay0 = true ∧ p.depth = dep d
  | .int i, _ => ⟨.int i, rfl, rfl, rfl⟩
  | .tup ds, h => by
    obtain ⟨ps, e, l, k⟩ := ios_py ds (by unfold io at h; exact h)
    exact ⟨.tuple ps, by unfold toPy; rw [e]; rfl, by simpa [PyData.canLay0] using l, by simp [PyData.depth, dep, k]⟩
  | .lst ds, h => by
    obtain ⟨ps, e, l, k⟩ := ios_py ds (by unfold io at h; exact h)
    exact ⟨.list ps, by unfold toPy; rw [e]; rfl, by simpa [PyData.canLay0] using l, by simp [PyData.depth, dep, k]⟩
  | .non, h => by simp [io] at h
  | .bl _, h => by simp [io] at h
  | .str _, h => by simp [io] at h
  | .dic _ _, h => by simp [io] at h
  | .obj _ _ _, h => by simp [io] at h
  | .ref _, h => by simp [io] at h
theorem ios_py : ∀ ds : List D, ios ds = true → ∃ ps, toPys ds = some ps ∧ PyData.canLayAll0 ps = true ∧ PyData.depthAll ps = deps ds
  | [], _ => ⟨[], rfl, rfl, rfl⟩
  | d :: ds, h => by
    unfold ios at h
    rw [Bool.and_eq_true] at h
    obtain ⟨p, e1, l1, k1⟩ := io_py d h.1
    obtain ⟨ps, e2, l2, k2⟩ := ios_py ds h.2
    exact ⟨p :: ps, by unfold toPys; rw [e1, e2]; rfl, by simp [PyData.canLayAll0, l1, l2], by simp [PyData.depthAll, deps, k1, k2]⟩
end
mutual
theorem io_eq : ∀ (d e : D) (p q : PyData), io d = true → io e = true → toPy d = some p → toPy e = some q → (PyData.eqv p q = true ↔ d = e)
  | .int i, .int j, _, _, _, _, e1, e2 => by
    cases e1; cases e2
    simp [PyData.eqv]
  | .int i, .tup ds, _, _, _, _, e1, e2 => by
    cases e1
    unfold toPy at e2
    obtain ⟨ps, _, rfl⟩ := Option.map_eq_some_iff.mp e2
    simp [PyData.eqv]
  | .int i, .lst ds, _, _, _, _, e1, e2 => by
    cases e1
    unfold toPy at e2
    obtain ⟨ps, _, rfl⟩ := Option.map_eq_some_iff.mp e2
    simp [PyData.eqv]
  | .tup ds, .int i, _, _, _, _, e1, e2 => by
    cases e2
    unfold toPy at e1
    obtain ⟨ps, _, rfl⟩ := Option.map_eq_some_iff.mp e1
    simp [PyData.eqv]
  | .lst ds, .int i, _, _, _, _, e1, e2 => by
    cases e2
    unfold toPy at e1
    obtain ⟨ps, _, rfl⟩ := Option.map_eq_some_iff.mp e1
    simp [PyData.eqv]
  | .tup ds, .tup es, _, _, h1, h2, e1, e2 => by
    unfold toPy at e1 e2
    obtain ⟨ps, f1, rfl⟩ := Option.map_eq_some_iff.mp e1
    obtain ⟨qs, f2, rfl⟩ := Option.map_eq_some_iff.mp e2
    unfold io at h1 h2
    have := ios_eq ds es ps qs h1 h2 f1 f2
    simp [PyData.eqv, this]
  | .lst ds, .lst es, _, _, h1, h2, e1, e2 => by
    unfold toPy at e1 e2
    obtain ⟨ps, f1, rfl⟩ := Option.map_eq_some_iff.mp e1
    obtain ⟨qs, f2, rfl⟩ := Option.map_eq_some_iff.mp e2
    unfold io at h1 h2
    have := ios_eq ds es ps qs h1 h2 f1 f2
    simp [PyData.eqv, this]
  | .tup ds, .lst es, _, _, h1, h2, e1, e2 => by
    unfold toPy at e1 e2
    obtain ⟨ps, f1, rfl⟩ := Option.map_eq_some_iff.mp e1
    obtain ⟨qs, f2, rfl⟩ := Option.map_eq_some_iff.mp e2
    simp [PyData.eqv]
  | .lst ds, .tup es, _, _, h1, h2, e1, e2 => by
    unfold toPy at e1 e2
    obtain ⟨ps, f1, rfl⟩ := Option.map_eq_some_iff.mp e1
    obtain ⟨qs, f2, rfl⟩ := Option.map_eq_some_iff.mp e2
    simp [PyData.eqv]
  | .non, _, _, _, h, _, _, _ => by simp [io] at h
  | .bl _, _, _, _, h, _, _, _ => by simp [io] at h
  | .str _, _, _, _, h, _, _, _ => by simp [io] at h
  | .dic _ _, _, _, _, h, _, _, _ => by simp [io] at h
  | .obj _ _ _, _, _, _, h, _, _, _ => by simp [io] at h
  | .ref _, _, _, _, h, _, _, _ => by simp [io] at h
  | .int _, .non, _, _, _, h, _, _ => by simp [io] at h
  | .int _, .bl _, _, _, _, h, _, _ => by simp [io] at h
  | .int _, .str _, _, _, _, h, _, _ => by simp [io] at h
  | .int _, .dic _ _, _, _, _, h, _, _ => by simp [io] at h
  | .int _, .obj _ _ _, _, _, _, h, _, _ => by simp [io] at h
  | .int _, .ref _, _, _, _, h, _, _ => by simp [io] at h
  | .tup _, .non, _, _, _, h, _, _ => by simp [io] at h
  | .tup _, .bl _, _, _, _, h, _, _ => by simp [io] at h
  | .tup _, .str _, _, _, _, h, _, _ => by simp [io] at h
  | .tup _, .dic _ _, _, _, _, h, _, _ => by simp [io] at h
  | .tup _, .obj _ _ _, _, _, _, h, _, _ => by simp [io] at h
  | .tup _, .ref _, _, _, _, h, _, _ => by simp [io] at h
  | .lst _, .non, _, _, _, h, _, _ => by simp [io] at h
  | .lst _, .bl _, _, _, _, h, _, _ => by simp [io] at h
  | .lst _, .str _, _, _, _, h, _, _ => by simp [io] at h
  | .lst _, .dic _ _, _, _, _, h, _, _ => by simp [io] at h
  | .lst _, .obj _ _ _, _, _, _, h, _, _ => by simp [io] at h
  | .lst _, .ref _, _, _, _, h, _, _ => by simp [io] at h
theorem ios_eq : ∀ (ds es : List D) (ps qs : List PyData), ios ds = true → ios es = true → toPys ds = some ps → toPys es = some qs → (PyData.eqvAll ps qs = true ↔ ds = es)
  | [], [], _, _, _, _, e1, e2 => by cases e1; cases e2; simp [PyData.eqvAll]
  | [], e :: es, _, _, _, _, e1, e2 => by
    cases e1
    unfold toPys at e2
    obtain ⟨q, _, e2⟩ := Option.bind_eq_some_iff.mp e2
    obtain ⟨qs, _, rfl⟩ := Option.map_eq_some_iff.mp e2
    simp [PyData.eqvAll]
  | d :: ds, [], _, _, _, _, e1, e2 => by
    cases e2
    unfold toPys at e1
    obtain ⟨q, _, e1⟩ := Option.bind_eq_some_iff.mp e1
    obtain ⟨qs, _, rfl⟩ := Option.map_eq_some_iff.mp e1
    simp [PyData.eqvAll]
  | d :: ds, e :: es, _, _, h1, h2, e1, e2 => by
    unfold toPys at e1 e2
    obtain ⟨p, f1, e1⟩ := Option.bind_eq_some_iff.mp e1
    obtain ⟨ps, f2, rfl⟩ := Option.map_eq_some_iff.mp e1
    obtain ⟨q, g1, e2⟩ := Option.bind_eq_some_iff.mp e2
    obtain ⟨qs, g2, rfl⟩ := Option.map_eq_some_iff.mp e2
    unfold ios at h1 h2
    rw [Bool.and_eq_true] at h1 h2
    have a := io_eq d e p q h1.1 h2.1 f1 g1
    have b := ios_eq ds es ps qs h1.2 h2.2 f2 g2
    simp [PyData.eqvAll, a, b]
end
theorem shaped_io {d : D} {p : PyData} (h : io d = true) (hd : dep d ≤ 64) (e : toPy d = some p) : SeqAt.shaped p = true := by
  obtain ⟨p', e', l, k⟩ := io_py d h
  rw [e] at e'; cases e'
  unfold SeqAt.shaped
  rw [l, k, Bool.true_and]
  exact decide_eq_true hd
open Classical in
theorem dEqB_io {d e : D} (h1 : io d = true) (h2 : io e = true) (hd : dep d ≤ 64) (he : dep e ≤ 64) : dEqB d e = some (decide (d = e)) := by
  obtain ⟨p, e1, _, _⟩ := io_py d h1
  obtain ⟨q, e2, _, _⟩ := io_py e h2
  have k : (if SeqAt.shaped p && SeqAt.shaped q then some (PyData.eqv p q) else none) = some (decide (d = e)) := by
    rw [shaped_io h1 hd e1, shaped_io h2 he e2]
    have := io_eq d e p q h1 h2 e1 e2
    simp only [Bool.and_self, if_true]
    congr 1
    by_cases z : d = e
    · rw [decide_eq_true z]; exact this.mpr z
    · rw [decide_eq_false z]
      cases y : p.eqv q with
      | false => rfl
      | true => exact absurd (this.mp y) z
  unfold dEqB
  split
  · simp
  · rw [show io _ = false from rfl] at h1; cases h1
  · rw [show io _ = false from rfl] at h1; cases h1
  · rw [e1, e2]; exact k
theorem dEqB_int (a b : Int) : dEqB (.int a) (.int b) = some (decide (a = b)) := rfl
theorem dEqB_str (a b : Str) : dEqB (.str a) (.str b) = some (decide (a = b)) := rfl
theorem dEqB_bl (a b : Bool) : dEqB (.bl a) (.bl b) = some (decide (a = b)) := rfl
theorem io_ints : ∀ l : List Int, ios (l.map D.int) = true
  | [] => rfl
  | a :: l => by rw [List.map_cons]; unfold ios; rw [io_ints l]; rfl
theorem dep_ints : ∀ l : List Int, deps (l.map D.int) = 0
  | [] => rfl
  | a :: l => by rw [List.map_cons]; unfold deps; rw [dep_ints l]; rfl
theorem dint_inj : ∀ {a b : List Int}, a.map D.int = b.map D.int → a = b
  | [], [], _ => rfl
  | [], _ :: _, h => by cases h
  | _ :: _, [], h => by cases h
  | a :: as, b :: bs, h => by
    rw [List.map_cons, List.map_cons] at h
    injection h with h1 h2
    cases h1
    rw [dint_inj h2]
theorem dEqB_tupI (x y : List Int) : dEqB (.tup (x.map D.int)) (.tup (y.map D.int)) = some (decide (x = y)) := by
  rw [dEqB_io (by unfold io; exact io_ints x) (by unfold io; exact io_ints y) (by unfold dep; rw [dep_ints]; decide) (by unfold dep; rw [dep_ints]; decide)]
  congr 1
  have : (D.tup (x.map D.int) = D.tup (y.map D.int)) ↔ x = y := ⟨fun h => by injection h with h; exact dint_inj h, fun h => by rw [h]⟩
  simp only [this]
theorem dEqB_lstI (x y : List Int) : dEqB (.lst (x.map D.int)) (.lst (y.map D.int)) = some (decide (x = y)) := by
  rw [dEqB_io (by unfold io; exact io_ints x) (by unfold io; exact io_ints y) (by unfold dep; rw [dep_ints]; decide) (by unfold dep; rw [dep_ints]; decide)]
  congr 1
  have : (D.lst (x.map D.int) = D.lst (y.map D.int)) ↔ x = y := ⟨fun h => by injection h with h; exact dint_inj h, fun h => by rw [h]⟩
  simp only [this]
end DL

set_option Elab.async false
set_option linter.all false
set_option maxRecDepth 100000
set_option maxHeartbeats 4000000
namespace DL
open PySem PySem.Spec PyProof.Rows L2
def topS (i : Nat) : Stmt := PySem.Challenge.pw_mirrorwalk_k64_whole_numbers_tell_length.main.body.getD i (.Pass ⟨0, 0, 0, 0⟩)
abbrev s_law_all : Stmt := (topS 56)
abbrev s_law_draw : Stmt := (topS 39)
abbrev s_law_edges : Stmt := (topS 53)
abbrev s_law_kind : Stmt := (topS 52)
abbrev s_law_plus : Stmt := (topS 41)
abbrev s_law_slope : Stmt := (topS 44)
abbrev s_law_times : Stmt := (topS 42)
abbrev s_law_taken : Stmt := (topS 45)
abbrev s_law_mirrored : Stmt := (topS 46)
abbrev s_law_moved : Stmt := (topS 48)
abbrev s_law_sign : Stmt := (topS 43)
abbrev s_law_side : Stmt := (topS 49)
abbrev s_law_simple : Stmt := (topS 47)
abbrev s_law_normal : Stmt := (topS 50)
abbrev s_law_same : Stmt := (topS 40)
abbrev s_law_step : Stmt := (topS 54)
abbrev s_law_window : Stmt := (topS 55)
abbrev s_law_word : Stmt := (topS 51)
abbrev s_is_integer : Stmt := (topS 6)
abbrev s_look_at_kind : Stmt := (topS 19)
abbrev s_size_of : Stmt := (topS 21)
abbrev s_plain : Stmt := (topS 22)
abbrev s_is_window : Stmt := (topS 23)
abbrev s_plain_row : Stmt := (topS 36)
abbrev s_signed_numbers : Stmt := (topS 35)
abbrev s_all_windows : Stmt := (topS 34)
abbrev s_falls : Stmt := (topS 28)
abbrev s_look_at_window : Stmt := (topS 24)
abbrev s_ends_of : Stmt := (topS 29)
abbrev s_turned_back : Stmt := (topS 27)
abbrev s_beginnings_of : Stmt := (topS 30)
abbrev s_pairs_out_of_order : Stmt := (topS 32)
abbrev s_length_of : Stmt := (topS 33)
abbrev s_is_edge : Stmt := (topS 11)
abbrev s_Diagram___init : Stmt := inClass (topS 10) 0
abbrev s_line_diagram : Stmt := (topS 20)
abbrev s_is_word : Stmt := (topS 14)
abbrev s_look_at_word : Stmt := (topS 15)
abbrev s_stepped : Stmt := (topS 25)
abbrev s_window_of : Stmt := (topS 26)
abbrev s_word_of : Stmt := (topS 31)
abbrev s_law_draws : Stmt := (topS 38)
abbrev s_law : Stmt := (topS 57)
structure TT (K : PySem.W.Frag) (mg : Str → Option Value) where
  f_law_all : Addr
  fd_law_all : FuncData
  F_law_all : Fun K "_law_all" "_law_all" s_law_all f_law_all fd_law_all
  b_law_all : Binds K fd_law_all ["kind", "many"] []
  g_law_all : mg "_law_all" = some (.ref f_law_all)
  f_law_draw : Addr
  fd_law_draw : FuncData
  F_law_draw : Fun K "_law_draw" "_law_draw" s_law_draw f_law_draw fd_law_draw
  b_law_draw : Binds K fd_law_draw ["draws", "limit"] []
  g_law_draw : mg "_law_draw" = some (.ref f_law_draw)
  f_law_edges : Addr
  fd_law_edges : FuncData
  F_law_edges : Fun K "_law_edges" "_law_edges" s_law_edges f_law_edges fd_law_edges
  b_law_edges : Binds K fd_law_edges ["kind", "many"] []
  g_law_edges : mg "_law_edges" = some (.ref f_law_edges)
  f_law_kind : Addr
  fd_law_kind : FuncData
  F_law_kind : Fun K "_law_kind" "_law_kind" s_law_kind f_law_kind fd_law_kind
  b_law_kind : Binds K fd_law_kind ["draws"] []
  g_law_kind : mg "_law_kind" = some (.ref f_law_kind)
  f_law_plus : Addr
  fd_law_plus : FuncData
  F_law_plus : Fun K "_law_plus" "_law_plus" s_law_plus f_law_plus fd_law_plus
  b_law_plus : Binds K fd_law_plus ["one", "two"] []
  g_law_plus : mg "_law_plus" = some (.ref f_law_plus)
  f_law_slope : Addr
  fd_law_slope : FuncData
  F_law_slope : Fun K "_law_slope" "_law_slope" s_law_slope f_law_slope fd_law_slope
  b_law_slope : Binds K fd_law_slope ["world", "first", "other"] []
  g_law_slope : mg "_law_slope" = some (.ref f_law_slope)
  f_law_times : Addr
  fd_law_times : FuncData
  F_law_times : Fun K "_law_times" "_law_times" s_law_times f_law_times fd_law_times
  b_law_times : Binds K fd_law_times ["one", "two"] []
  g_law_times : mg "_law_times" = some (.ref f_law_times)
  f_law_taken : Addr
  fd_law_taken : FuncData
  F_law_taken : Fun K "_law_taken" "_law_taken" s_law_taken f_law_taken fd_law_taken
  b_law_taken : Binds K fd_law_taken ["world", "mirror", "root"] []
  g_law_taken : mg "_law_taken" = some (.ref f_law_taken)
  f_law_mirrored : Addr
  fd_law_mirrored : FuncData
  F_law_mirrored : Fun K "_law_mirrored" "_law_mirrored" s_law_mirrored f_law_mirrored fd_law_mirrored
  b_law_mirrored : Binds K fd_law_mirrored ["world", "mirror", "root"] []
  g_law_mirrored : mg "_law_mirrored" = some (.ref f_law_mirrored)
  f_law_moved : Addr
  fd_law_moved : FuncData
  F_law_moved : Fun K "_law_moved" "_law_moved" s_law_moved f_law_moved fd_law_moved
  b_law_moved : Binds K fd_law_moved ["world", "word", "root"] []
  g_law_moved : mg "_law_moved" = some (.ref f_law_moved)
  f_law_sign : Addr
  fd_law_sign : FuncData
  F_law_sign : Fun K "_law_sign" "_law_sign" s_law_sign f_law_sign fd_law_sign
  b_law_sign : Binds K fd_law_sign ["number"] []
  g_law_sign : mg "_law_sign" = some (.ref f_law_sign)
  f_law_side : Addr
  fd_law_side : FuncData
  F_law_side : Fun K "_law_side" "_law_side" s_law_side f_law_side fd_law_side
  b_law_side : Binds K fd_law_side ["root"] []
  g_law_side : mg "_law_side" = some (.ref f_law_side)
  f_law_simple : Addr
  fd_law_simple : FuncData
  F_law_simple : Fun K "_law_simple" "_law_simple" s_law_simple f_law_simple fd_law_simple
  b_law_simple : Binds K fd_law_simple ["world", "mirror"] []
  g_law_simple : mg "_law_simple" = some (.ref f_law_simple)
  f_law_normal : Addr
  fd_law_normal : FuncData
  F_law_normal : Fun K "_law_normal" "_law_normal" s_law_normal f_law_normal fd_law_normal
  b_law_normal : Binds K fd_law_normal ["world", "word"] []
  g_law_normal : mg "_law_normal" = some (.ref f_law_normal)
  f_law_same : Addr
  fd_law_same : FuncData
  F_law_same : Fun K "_law_same" "_law_same" s_law_same f_law_same fd_law_same
  b_law_same : Binds K fd_law_same ["actual", "expected"] []
  g_law_same : mg "_law_same" = some (.ref f_law_same)
  f_law_step : Addr
  fd_law_step : FuncData
  F_law_step : Fun K "_law_step" "_law_step" s_law_step f_law_step fd_law_step
  b_law_step : Binds K fd_law_step ["kind", "row", "mirror"] []
  g_law_step : mg "_law_step" = some (.ref f_law_step)
  f_law_window : Addr
  fd_law_window : FuncData
  F_law_window : Fun K "_law_window" "_law_window" s_law_window f_law_window fd_law_window
  b_law_window : Binds K fd_law_window ["kind", "many", "word"] []
  g_law_window : mg "_law_window" = some (.ref f_law_window)
  f_law_word : Addr
  fd_law_word : FuncData
  F_law_word : Fun K "_law_word" "_law_word" s_law_word f_law_word fd_law_word
  b_law_word : Binds K fd_law_word ["draws", "size", "most"] []
  g_law_word : mg "_law_word" = some (.ref f_law_word)
  f_is_integer : Addr
  fd_is_integer : FuncData
  F_is_integer : Fun K "is_integer" "is_integer" s_is_integer f_is_integer fd_is_integer
  b_is_integer : Binds K fd_is_integer ["value"] []
  g_is_integer : mg "is_integer" = some (.ref f_is_integer)
  f_look_at_kind : Addr
  fd_look_at_kind : FuncData
  F_look_at_kind : Fun K "look_at_kind" "look_at_kind" s_look_at_kind f_look_at_kind fd_look_at_kind
  b_look_at_kind : Binds K fd_look_at_kind ["kind", "many"] []
  g_look_at_kind : mg "look_at_kind" = some (.ref f_look_at_kind)
  f_size_of : Addr
  fd_size_of : FuncData
  F_size_of : Fun K "size_of" "size_of" s_size_of f_size_of fd_size_of
  b_size_of : Binds K fd_size_of ["kind", "many"] []
  g_size_of : mg "size_of" = some (.ref f_size_of)
  f_plain : Addr
  fd_plain : FuncData
  F_plain : Fun K "plain" "plain" s_plain f_plain fd_plain
  b_plain : Binds K fd_plain ["kind", "many"] []
  g_plain : mg "plain" = some (.ref f_plain)
  f_is_window : Addr
  fd_is_window : FuncData
  F_is_window : Fun K "is_window" "is_window" s_is_window f_is_window fd_is_window
  b_is_window : Binds K fd_is_window ["kind", "many", "value"] []
  g_is_window : mg "is_window" = some (.ref f_is_window)
  f_plain_row : Addr
  fd_plain_row : FuncData
  F_plain_row : Fun K "plain_row" "plain_row" s_plain_row f_plain_row fd_plain_row
  b_plain_row : Binds K fd_plain_row ["row"] []
  g_plain_row : mg "plain_row" = some (.ref f_plain_row)
  f_signed_numbers : Addr
  fd_signed_numbers : FuncData
  F_signed_numbers : Fun K "signed_numbers" "signed_numbers" s_signed_numbers f_signed_numbers fd_signed_numbers
  b_signed_numbers : Binds K fd_signed_numbers ["kind", "many"] []
  g_signed_numbers : mg "signed_numbers" = some (.ref f_signed_numbers)
  f_all_windows : Addr
  fd_all_windows : FuncData
  F_all_windows : Fun K "all_windows" "all_windows" s_all_windows f_all_windows fd_all_windows
  b_all_windows : Binds K fd_all_windows ["kind", "many"] []
  g_all_windows : mg "all_windows" = some (.ref f_all_windows)
  f_falls : Addr
  fd_falls : FuncData
  F_falls : Fun K "falls" "falls" s_falls f_falls fd_falls
  b_falls : Binds K fd_falls ["kind", "window", "mirror"] []
  g_falls : mg "falls" = some (.ref f_falls)
  f_look_at_window : Addr
  fd_look_at_window : FuncData
  F_look_at_window : Fun K "look_at_window" "look_at_window" s_look_at_window f_look_at_window fd_look_at_window
  b_look_at_window : Binds K fd_look_at_window ["kind", "many", "value"] []
  g_look_at_window : mg "look_at_window" = some (.ref f_look_at_window)
  f_ends_of : Addr
  fd_ends_of : FuncData
  F_ends_of : Fun K "ends_of" "ends_of" s_ends_of f_ends_of fd_ends_of
  b_ends_of : Binds K fd_ends_of ["kind", "many", "window"] []
  g_ends_of : mg "ends_of" = some (.ref f_ends_of)
  f_turned_back : Addr
  fd_turned_back : FuncData
  F_turned_back : Fun K "turned_back" "turned_back" s_turned_back f_turned_back fd_turned_back
  b_turned_back : Binds K fd_turned_back ["window"] []
  g_turned_back : mg "turned_back" = some (.ref f_turned_back)
  f_beginnings_of : Addr
  fd_beginnings_of : FuncData
  F_beginnings_of : Fun K "beginnings_of" "beginnings_of" s_beginnings_of f_beginnings_of fd_beginnings_of
  b_beginnings_of : Binds K fd_beginnings_of ["kind", "many", "window"] []
  g_beginnings_of : mg "beginnings_of" = some (.ref f_beginnings_of)
  f_pairs_out_of_order : Addr
  fd_pairs_out_of_order : FuncData
  F_pairs_out_of_order : Fun K "pairs_out_of_order" "pairs_out_of_order" s_pairs_out_of_order f_pairs_out_of_order fd_pairs_out_of_order
  b_pairs_out_of_order : Binds K fd_pairs_out_of_order ["window"] []
  g_pairs_out_of_order : mg "pairs_out_of_order" = some (.ref f_pairs_out_of_order)
  f_length_of : Addr
  fd_length_of : FuncData
  F_length_of : Fun K "length_of" "length_of" s_length_of f_length_of fd_length_of
  b_length_of : Binds K fd_length_of ["kind", "many", "window"] []
  g_length_of : mg "length_of" = some (.ref f_length_of)
  f_is_edge : Addr
  fd_is_edge : FuncData
  F_is_edge : Fun K "is_edge" "is_edge" s_is_edge f_is_edge fd_is_edge
  b_is_edge : Binds K fd_is_edge ["value", "size"] []
  g_is_edge : mg "is_edge" = some (.ref f_is_edge)
  f_Diagram___init : Addr
  fd_Diagram___init : FuncData
  F_Diagram___init : Fun K "__init__" "Diagram.__init__" s_Diagram___init f_Diagram___init fd_Diagram___init
  b_Diagram___init : Binds K fd_Diagram___init ["self", "size", "edges"] []
  f_line_diagram : Addr
  fd_line_diagram : FuncData
  F_line_diagram : Fun K "line_diagram" "line_diagram" s_line_diagram f_line_diagram fd_line_diagram
  b_line_diagram : Binds K fd_line_diagram ["kind", "many"] []
  g_line_diagram : mg "line_diagram" = some (.ref f_line_diagram)
  f_is_word : Addr
  fd_is_word : FuncData
  F_is_word : Fun K "is_word" "is_word" s_is_word f_is_word fd_is_word
  b_is_word : Binds K fd_is_word ["diagram", "value"] []
  g_is_word : mg "is_word" = some (.ref f_is_word)
  f_look_at_word : Addr
  fd_look_at_word : FuncData
  F_look_at_word : Fun K "look_at_word" "look_at_word" s_look_at_word f_look_at_word fd_look_at_word
  b_look_at_word : Binds K fd_look_at_word ["diagram", "value"] []
  g_look_at_word : mg "look_at_word" = some (.ref f_look_at_word)
  f_stepped : Addr
  fd_stepped : FuncData
  F_stepped : Fun K "stepped" "stepped" s_stepped f_stepped fd_stepped
  b_stepped : Binds K fd_stepped ["kind", "window", "mirror"] []
  g_stepped : mg "stepped" = some (.ref f_stepped)
  f_window_of : Addr
  fd_window_of : FuncData
  F_window_of : Fun K "window_of" "window_of" s_window_of f_window_of fd_window_of
  b_window_of : Binds K fd_window_of ["kind", "many", "word"] []
  g_window_of : mg "window_of" = some (.ref f_window_of)
  f_word_of : Addr
  fd_word_of : FuncData
  F_word_of : Fun K "word_of" "word_of" s_word_of f_word_of fd_word_of
  b_word_of : Binds K fd_word_of ["kind", "many", "window"] []
  g_word_of : mg "word_of" = some (.ref f_word_of)
  f_law_draws : Addr
  fd_law_draws : FuncData
  F_law_draws : Fun K "_law_draws" "_law_draws" s_law_draws f_law_draws fd_law_draws
  b_law_draws : Binds K fd_law_draws ["script"] []
  g_law_draws : mg "_law_draws" = some (.ref f_law_draws)
  f_law : Addr
  fd_law : FuncData
  F_law : Fun K "law" "law" s_law f_law fd_law
  b_law : Binds K fd_law ["script"] []
  g_law : mg "law" = some (.ref f_law)
  n_abs : mg "abs" = none
  n_all : mg "all" = none
  n_bool : mg "bool" = none
  n_enumerate : mg "enumerate" = none
  n_int : mg "int" = none
  n_isinstance : mg "isinstance" = none
  n_len : mg "len" = none
  n_list : mg "list" = none
  n_max : mg "max" = none
  n_min : mg "min" = none
  n_range : mg "range" = none
  n_sorted : mg "sorted" = none
  n_str : mg "str" = none
  n_sum : mg "sum" = none
  n_tuple : mg "tuple" = none
  C_BadDiagram : Addr
  g_BadDiagram : mg "BadDiagram" = some (.ref C_BadDiagram)
  x_BadDiagram : PySem.W.excIn K C_BadDiagram [.type "ValueError", .type "Exception", .type "BaseException", .type "object"] "ValueError.__new__" = true
  k_BadDiagram : PySem.W.keepIn K (.ref C_BadDiagram) = true
  b_BadDiagram : PySem.W.subIn K (.ref C_BadDiagram) (.type "BaseException") = some true
  t_BadDiagram : PySem.W.typeIn K (.ref C_BadDiagram) = some (.type "type")
  C_BadWord : Addr
  g_BadWord : mg "BadWord" = some (.ref C_BadWord)
  x_BadWord : PySem.W.excIn K C_BadWord [.type "ValueError", .type "Exception", .type "BaseException", .type "object"] "ValueError.__new__" = true
  k_BadWord : PySem.W.keepIn K (.ref C_BadWord) = true
  b_BadWord : PySem.W.subIn K (.ref C_BadWord) (.type "BaseException") = some true
  t_BadWord : PySem.W.typeIn K (.ref C_BadWord) = some (.type "type")
  C_Diagram : Addr
  g_Diagram : mg "Diagram" = some (.ref C_Diagram)
  cl_Diagram : Cls K C_Diagram
  na_Diagram_labels : NoAttr K C_Diagram "labels"
  na_Diagram_size : NoAttr K C_Diagram "size"
  mk_Diagram : Mk K C_Diagram f_Diagram___init
  c_KINDS : Glob K mg "KINDS" (.tup [(.str "A"), (.str "B"), (.str "D")])
  c_LABELS : Glob K mg "LABELS" (.tup [(.int 0), (.int 3), (.int 4), (.int 5), (.int 6)])
  c_MOST : Glob K mg "MOST" (.int 8)
  c_MOST_LETTERS : Glob K mg "MOST_LETTERS" (.int 400)
  c_MOST_MIRRORS : Glob K mg "MOST_MIRRORS" (.int 9)
section
variable {K : PySem.W.Frag} {mg : Str → Option Value}
theorem sc_law_draws : FnScope ["script"] ["script"] (defScope s_law_draws) := ⟨rfl, rfl, rfl, by decide +kernel, rfl, by decide +kernel, by decide +kernel⟩
abbrev N_law_all : List Str := ["kind", "many", "rows", "k", "more", "row", "used", "one"]
theorem sc_law_all : FnScope N_law_all ["kind", "many"] (defScope s_law_all) := ⟨rfl, rfl, rfl, by decide +kernel, rfl, by decide +kernel, by decide +kernel⟩
abbrev b_law_all : DEnv → Md Fl := sSeq (sSet 2 (eL (eLst (eCons (eTup (eNil)) (eNil))))) (sSeq (sFor (iR1 (eBin dAddF (qVar 1) (eN dInt (eCons (eBin dEq (qVar 0) (eC (.str "A"))) (eNil))))) (gdName 3) (sSeq (sSetN 4 (eLst (eNil))) (sSeq (sFor (iSeq (eVar 2)) (gdName 5) (sSeq (sSetN 6 (eComp [7] (iSeq (qVar 5)) (gdName 7) (tYesD) (eN dAbs (eCons (qVar 7) (eNil))))) (sFor (iR2 (eC (.int 1)) (eBin dAddF (eBin dAddF (qVar 1) (eC (.int 1))) (eN dInt (eCons (eBin dEq (qVar 0) (eC (.str "A"))) (eNil))))) (gdName 7) (sIf (mB (eBin dNotIn (qVar 7) (qVar 6))) (sSeq (sApp 4 (eBin dAddF (qVar 5) (eTup (eCons (eVar 7) (eNil))))) (sIf (mB (eBin dNe (qVar 0) (eC (.str "A")))) (sApp 4 (eBin dAddF (qVar 5) (eTup (eCons (eBin dSub (eC (.int 0)) (qVar 7)) (eNil))))) (sNext))) (sNext))))) (sFz 4 (sSet 2 (eVar 4)))))) (sRet (eL (eNN dSort (eCons (eL (eComp [5] (iSeq (qVar 2)) (gdName 5) (mOr (mB (eBin dNe (qVar 0) (eC (.str "D")))) (mB (eBin dEq (eBin dMod (eN dLen (eCons (eL (eComp [7] (iSeq (qVar 5)) (gdName 7) (mB (eBin dLt (qVar 7) (eC (.int 0)))) (eVar 7))) (eNil))) (eC (.int 2))) (eC (.int 0))))) (eVar 5))) (eNil))))))
@[irreducible] def F_law_all : List D → Md D := runF 8 b_law_all
theorem df_law_all {P : Program} {w : World} {base : Heap} (t : TT K mg) : DF P w K mg base 1 t.f_law_all t.fd_law_all ["kind", "many"] F_law_all := by
  unfold F_law_all
  exact df_of t.F_law_all sc_law_all fun cdv A outer s H E C hW hr tk => (dss_cons (ds_set (i := 2) sc_law_all.nd (DN.fz (dn_lst (da_cons (de_tup (da_nil)) (da_nil))))) (dss_cons (ds_for (passes_of rfl) rfl (di_range1 t.n_range (de_op od_addF (dq_var 1) (DE.q (de_ty cd_int t.n_int (dq_cons (DE.q (de_cmp (od_eq hr.units) (dq_var 0) (DE.q (de_str)))) (dq_nil)))))) (dg_name 3 sc_law_all.nd) (dss_cons (ds_setN (i := 4) sc_law_all.nd (dn_lst (da_nil))) (dss_cons (ds_for (passes_of rfl) rfl (di_seq (de_var 2)) (dg_name 5 sc_law_all.nd) (dss_cons (ds_setLc (own := [("one", 7)]) rfl rfl sc_law_all.nd (dj_seq (dq_var 5)) (blkOk_by (by kernel_rfl)) (fun _ _ _ _ _ => dg_name 7 sc_law_all.nd) (fun _ _ _ _ _ => by exact dts_nil) (fun _ _ _ _ _ => by exact de_bi cd_abs t.n_abs (dq_cons (dq_var 7) (dq_nil))) (sw_true rfl rfl rfl (by decide +kernel))) (dss_one (ds_for (passes_of rfl) rfl (di_range2 t.n_range (de_int) (de_op od_addF (DE.q (de_op od_addF (dq_var 1) (DE.q (de_int)))) (DE.q (de_ty cd_int t.n_int (dq_cons (DE.q (de_cmp (od_eq hr.units) (dq_var 0) (DE.q (de_str)))) (dq_nil)))))) (dg_name 7 sc_law_all.nd) (dss_one (ds_if (dt_cmp (od_notIn (Room.u65 hr)) (dq_var 7) (dq_var 6)) (dss_cons (ds_app 4 (de_op od_addF (dq_var 5) (DE.q (de_tup (da_cons (de_var 7) (da_nil)))))) (dss_one (ds_if (dt_cmp (od_ne hr.units) (dq_var 0) (DE.q (de_str))) (dss_one (ds_app 4 (de_op od_addF (dq_var 5) (DE.q (de_tup (da_cons (de_op od_sub (DE.q (de_int)) (dq_var 7)) (da_nil))))))) (dss_nil)))) (dss_nil))))))) (dss_one (ds_fz 4 (ds_set (i := 2) sc_law_all.nd (de_var 4))))))) (dss_one (ds_ret (DN.fz (dn_bi cd_sort t.n_sorted (dq_cons (DE.q (DN.fz (dn_lc (own := [("row", 5)]) rfl rfl sc_law_all.nd (dj_seq (dq_var 2)) (blkOk_by (by kernel_rfl)) (fun _ _ _ _ _ => dg_name 5 sc_law_all.nd) (fun _ _ _ _ _ => by exact dts_one (PW.pt (dw_or (dt_cmp (od_ne hr.units) (dq_var 0) (DE.q (de_str))) (dw_or1 (dt_cmp (od_eq hr.units) (DE.q (de_op od_mod (DE.q (de_bi cd_len t.n_len (dq_cons (DE.q (DN.fz (dn_lc (own := [("one", 7)]) rfl rfl sc_law_all.nd (dj_seq (dq_var 5)) (blkOk_by (by kernel_rfl)) (fun _ _ _ _ _ => dg_name 7 sc_law_all.nd) (fun _ _ _ _ _ => by exact dts_one (dt_cmp od_lt (dq_var 7) (DE.q (de_int)))) (fun _ _ _ _ _ => by exact de_var 7)))) (dq_nil)))) (DE.q (de_int)))) (DE.q (de_int))))))) (fun _ _ _ _ _ => by exact de_var 5)))) (dq_nil))))))))
abbrev N_law_draw : List Str := ["draws", "limit", "cell", "value"]
theorem sc_law_draw : FnScope N_law_draw ["draws", "limit"] (defScope s_law_draw) := ⟨rfl, rfl, rfl, by decide +kernel, rfl, by decide +kernel, by decide +kernel⟩
abbrev b_law_draw : DEnv → Md Fl := sSeq (sIf (mAnd (mB (eBin dEq (eDr 0 2) (eC (.int 0)))) (mB (eBin dLt (eDr 0 1) (eN dLen (eCons (eDr 0 0) (eNil)))))) (sSeq (sSet 2 (eBin dIx (eDr 0 0) (eDr 0 1))) (sSeq (sDr 0 1 (eBin dAddF (eDr 0 1) (eC (.int 1)))) (sSeq (sIf (mB (eBin dGe (qVar 2) (eBin dPow (eC (.int 10)) (eC (.int 18))))) (sDr 0 2 (eVar 2)) (sNext)) (sDr 0 3 (eBin dMod (eN dInt (eCons (eBin dAddF (eBin dAddF (eBin dMulF (eDr 0 3) (eC (.int 48271))) (qVar 2)) (eC (.int 13))) (eNil))) (eC (.int 2147483647))))))) (sNext)) (sSeq (sIf (mB (eBin dGt (eDr 0 2) (eC (.int 0)))) (sSeq (sSet 3 (eBin dMod (eN dInt (eCons (eDr 0 2) (eNil))) (qVar 1))) (sSeq (sDr 0 2 (eBin dDiv (eDr 0 2) (qVar 1))) (sRet (eVar 3)))) (sNext)) (sSeq (sDr 0 3 (eBin dMod (eN dInt (eCons (eBin dAddF (eBin dMulF (eDr 0 3) (eC (.int 69621))) (eC (.int 7))) (eNil))) (eC (.int 2147483629)))) (sRet (eBin dMod (eN dInt (eCons (eBin dDiv (eDr 0 3) (eC (.int 11))) (eNil))) (qVar 1)))))
@[irreducible] def F_law_draw : List D → Md D := runF 4 b_law_draw
theorem df_law_draw {P : Program} {w : World} {base : Heap} (t : TT K mg) : DF P w K mg base 1 t.f_law_draw t.fd_law_draw ["draws", "limit"] F_law_draw := by
  unfold F_law_draw
  exact df_of t.F_law_draw sc_law_draw fun cdv A outer s H E C hW hr tk => (dss_cons (ds_if (PW.pt (dw_and (dt_cmp (od_eq hr.units) (DE.q (de_dr 0 2)) (DE.q (de_int))) (dw_and1 (dt_cmp od_lt (DE.q (de_dr 0 1)) (DE.q (de_bi cd_len t.n_len (dq_cons (DE.q (de_dr 0 0)) (dq_nil)))))))) (dss_cons (ds_set (i := 2) sc_law_draw.nd (de_ix (DE.q (de_dr 0 0)) (DE.q (de_dr 0 1)) (fun _ _ => rfl))) (dss_cons (ds_dr 0 1 (de_op od_addF (DE.q (de_dr 0 1)) (DE.q (de_int)))) (dss_cons (ds_if (dt_cmp od_ge (dq_var 2) (DE.q (de_op od_pow (DE.q (de_int)) (DE.q (de_int))))) (dss_one (ds_dr 0 2 (de_var 2))) (dss_nil)) (dss_one (ds_dr 0 3 (de_op od_mod (DE.q (de_ty cd_int t.n_int (dq_cons (DE.q (de_op od_addF (DE.q (de_op od_addF (DE.q (de_op od_mulF (DE.q (de_dr 0 3)) (DE.q (de_int)))) (dq_var 2))) (DE.q (de_int)))) (dq_nil)))) (DE.q (de_int)))))))) (dss_nil)) (dss_cons (ds_if (dt_cmp od_gt (DE.q (de_dr 0 2)) (DE.q (de_int))) (dss_cons (ds_set (i := 3) sc_law_draw.nd (de_op od_mod (DE.q (de_ty cd_int t.n_int (dq_cons (DE.q (de_dr 0 2)) (dq_nil)))) (dq_var 1))) (dss_cons (ds_dr 0 2 (de_op od_div (DE.q (de_dr 0 2)) (dq_var 1))) (dss_one (ds_ret (de_var 3))))) (dss_nil)) (dss_cons (ds_dr 0 3 (de_op od_mod (DE.q (de_ty cd_int t.n_int (dq_cons (DE.q (de_op od_addF (DE.q (de_op od_mulF (DE.q (de_dr 0 3)) (DE.q (de_int)))) (DE.q (de_int)))) (dq_nil)))) (DE.q (de_int)))) (dss_one (ds_ret (de_op od_mod (DE.q (de_ty cd_int t.n_int (dq_cons (DE.q (de_op od_div (DE.q (de_dr 0 3)) (DE.q (de_int)))) (dq_nil)))) (dq_var 1)))))))
abbrev N_law_edges : List Str := ["kind", "many", "first", "k"]
theorem sc_law_edges : FnScope N_law_edges ["kind", "many"] (defScope s_law_edges) := ⟨rfl, rfl, rfl, by decide +kernel, rfl, by decide +kernel, by decide +kernel⟩
abbrev b_law_edges : DEnv → Md Fl := sSeq (sIf (mB (eBin dEq (qVar 0) (eC (.str "A")))) (sRet (eTup (eCons (eVar 1) (eCons (eN dTuple (eCons (eL (eComp [3] (iR1 (eBin dSub (qVar 1) (eC (.int 1)))) (gdName 3) (tYesD) (eTup (eCons (eVar 3) (eCons (eBin dAddF (qVar 3) (eC (.int 1))) (eCons (eC (.int 3)) (eNil))))))) (eNil))) (eNil))))) (sNext)) (sSeq (sSet 2 (mIf (mB (eBin dEq (qVar 0) (eC (.str "B")))) (eL (eLst (eCons (eTup (eCons (eC (.int 0)) (eCons (eC (.int 1)) (eCons (eC (.int 4)) (eNil))))) (eNil)))) (mIf (mB (eBin dGt (qVar 1) (eC (.int 2)))) (eL (eLst (eCons (eTup (eCons (eC (.int 0)) (eCons (eC (.int 2)) (eCons (eC (.int 3)) (eNil))))) (eNil)))) (eL (eLst (eNil)))))) (sRet (eTup (eCons (eVar 1) (eCons (eN dTuple (eCons (eBin dAddF (qVar 2) (eL (eComp [3] (iR2 (eC (.int 1)) (eBin dSub (qVar 1) (eC (.int 1)))) (gdName 3) (tYesD) (eTup (eCons (eVar 3) (eCons (eBin dAddF (qVar 3) (eC (.int 1))) (eCons (eC (.int 3)) (eNil)))))))) (eNil))) (eNil))))))
@[irreducible] def F_law_edges : List D → Md D := runF 4 b_law_edges
theorem df_law_edges {P : Program} {w : World} {base : Heap} (t : TT K mg) : DF P w K mg base 1 t.f_law_edges t.fd_law_edges ["kind", "many"] F_law_edges := by
  unfold F_law_edges
  exact df_of t.F_law_edges sc_law_edges fun cdv A outer s H E C hW hr tk => (dss_cons (ds_if (dt_cmp (od_eq hr.units) (dq_var 0) (DE.q (de_str))) (dss_one (ds_ret (de_tup (da_cons (de_var 1) (da_cons (de_ty cd_tuple t.n_tuple (dq_cons (DE.q (DN.fz (dn_lc (own := [("k", 3)]) rfl rfl sc_law_edges.nd (DI.j (di_range1 t.n_range (de_op od_sub (dq_var 1) (DE.q (de_int))))) (blkOk_by (by kernel_rfl)) (fun _ _ _ _ _ => dg_name 3 sc_law_edges.nd) (fun _ _ _ _ _ => by exact dts_nil) (fun _ _ _ _ _ => by exact de_tup (da_cons (de_var 3) (da_cons (de_op od_addF (dq_var 3) (DE.q (de_int))) (da_cons (de_int) (da_nil)))))))) (dq_nil))) (da_nil)))))) (dss_nil)) (dss_cons (ds_set (i := 2) sc_law_edges.nd (de_if (dt_cmp (od_eq hr.units) (dq_var 0) (DE.q (de_str))) (DN.fz (dn_lst (da_cons (de_tup (da_cons (de_int) (da_cons (de_int) (da_cons (de_int) (da_nil))))) (da_nil)))) (de_if (dt_cmp od_gt (dq_var 1) (DE.q (de_int))) (DN.fz (dn_lst (da_cons (de_tup (da_cons (de_int) (da_cons (de_int) (da_cons (de_int) (da_nil))))) (da_nil)))) (DN.fz (dn_lst (da_nil)))))) (dss_one (ds_ret (de_tup (da_cons (de_var 1) (da_cons (de_ty cd_tuple t.n_tuple (dq_cons (DE.q (de_op od_addF (dq_var 2) (DE.q (DN.fz (dn_lc (own := [("k", 3)]) rfl rfl sc_law_edges.nd (DI.j (di_range2 t.n_range (de_int) (de_op od_sub (dq_var 1) (DE.q (de_int))))) (blkOk_by (by kernel_rfl)) (fun _ _ _ _ _ => dg_name 3 sc_law_edges.nd) (fun _ _ _ _ _ => by exact dts_nil) (fun _ _ _ _ _ => by exact de_tup (da_cons (de_var 3) (da_cons (de_op od_addF (dq_var 3) (DE.q (de_int))) (da_cons (de_int) (da_nil)))))))))) (dq_nil))) (da_nil))))))))
abbrev N_law_kind : List Str := ["draws", "kind"]
theorem sc_law_kind : FnScope N_law_kind ["draws"] (defScope s_law_kind) := ⟨rfl, rfl, rfl, by decide +kernel, rfl, by decide +kernel, by decide +kernel⟩
abbrev b_law_kind : DEnv → Md Fl := sSeq (sSet 1 (eBin dIx (eL (eLst (eCons (eC (.str "A")) (eCons (eC (.str "B")) (eCons (eC (.str "D")) (eNil)))))) (eCallS 2 (F_law_draw) (eCons (eVar 0) (eCons (eC (.int 3)) (eNil)))))) (sRet (eTup (eCons (eVar 1) (eCons (eBin dAddF (eBin dAddF (eN dInt (eCons (eBin dNe (qVar 1) (eC (.str "A"))) (eNil))) (eC (.int 1))) (eCallS 2 (F_law_draw) (eCons (eVar 0) (eCons (mIf (mB (eBin dEq (qVar 1) (eC (.str "A")))) (eC (.int 3)) (eC (.int 3))) (eNil))))) (eNil)))))
@[irreducible] def F_law_kind : List D → Md D := runF 2 b_law_kind
theorem df_law_kind {P : Program} {w : World} {base : Heap} (t : TT K mg) : DF P w K mg base 2 t.f_law_kind t.fd_law_kind ["draws"] F_law_kind := by
  unfold F_law_kind
  exact df_of t.F_law_kind sc_law_kind fun cdv A outer s H E C hW hr tk => (dss_cons (ds_set (i := 1) sc_law_kind.nd (de_ix (DE.q (DN.fz (dn_lst (da_cons (de_str) (da_cons (de_str) (da_cons (de_str) (da_nil))))))) (DE.q (de_callS (df_law_draw t) (hr.mono (by decide)) t.g_law_draw t.F_law_draw.kp t.b_law_draw tk (da_cons (de_var 0) (da_cons (de_int) (da_nil))))) (fun _ _ => rfl))) (dss_one (ds_ret (de_tup (da_cons (de_var 1) (da_cons (de_op od_addF (DE.q (de_op od_addF (DE.q (de_ty cd_int t.n_int (dq_cons (DE.q (de_cmp (od_ne hr.units) (dq_var 1) (DE.q (de_str)))) (dq_nil)))) (DE.q (de_int)))) (DE.q (de_callS (df_law_draw t) (hr.mono (by decide)) t.g_law_draw t.F_law_draw.kp t.b_law_draw tk (da_cons (de_var 0) (da_cons (de_if (dt_cmp (od_eq hr.units) (dq_var 1) (DE.q (de_str))) (de_int) (de_int)) (da_nil)))))) (da_nil)))))))
abbrev N_law_plus : List Str := ["one", "two"]
theorem sc_law_plus : FnScope N_law_plus ["one", "two"] (defScope s_law_plus) := ⟨rfl, rfl, rfl, by decide +kernel, rfl, by decide +kernel, by decide +kernel⟩
abbrev b_law_plus : DEnv → Md Fl := sRet (eTup (eCons (eBin dAddF (eBin dIx (qVar 0) (eC (.int 0))) (eBin dIx (qVar 1) (eC (.int 0)))) (eCons (eBin dAddF (eBin dIx (qVar 0) (eC (.int 1))) (eBin dIx (qVar 1) (eC (.int 1)))) (eNil))))
@[irreducible] def F_law_plus : List D → Md D := runF 2 b_law_plus
theorem df_law_plus {P : Program} {w : World} {base : Heap} (t : TT K mg) : DF P w K mg base 1 t.f_law_plus t.fd_law_plus ["one", "two"] F_law_plus := by
  unfold F_law_plus
  exact df_of t.F_law_plus sc_law_plus fun cdv A outer s H E C hW hr tk => (dss_one (ds_ret (de_tup (da_cons (de_op od_addF (DE.q (de_ix (dq_var 0) (DE.q (de_int)) (fun _ _ => rfl))) (DE.q (de_ix (dq_var 1) (DE.q (de_int)) (fun _ _ => rfl)))) (da_cons (de_op od_addF (DE.q (de_ix (dq_var 0) (DE.q (de_int)) (fun _ _ => rfl))) (DE.q (de_ix (dq_var 1) (DE.q (de_int)) (fun _ _ => rfl)))) (da_nil))))))
abbrev N_law_slope : List Str := ["world", "first", "other", "size", "edges", "told", "far", "edge"]
theorem sc_law_slope : FnScope N_law_slope ["world", "first", "other"] (defScope s_law_slope) := ⟨rfl, rfl, rfl, by decide +kernel, rfl, by decide +kernel, by decide +kernel⟩
abbrev b_law_slope : DEnv → Md Fl := sSeq (sAsg (gdTup 2 (gdCons (gdName 3) (gdCons (gdName 4) (gdNil)))) (eVar 0)) (sSeq (sIf (mB (eBin dEq (qVar 1) (qVar 2))) (sRet (eTup (eCons (eC (.int 2)) (eCons (eC (.int 0)) (eNil))))) (sNext)) (sSeq (sSetN 5 (eComp [7] (iSeq (qVar 4)) (gdName 7) (mB (eBin dEq (eSl (qVar 7) (oNone) (oSome (eC (.int 2)))) (eTup (eCons (eN dMin2 (eCons (qVar 1) (eCons (qVar 2) (eNil)))) (eCons (eN dMax2 (eCons (qVar 1) (eCons (qVar 2) (eNil)))) (eNil)))))) (eBin dIx (qVar 7) (eC (.int 2))))) (sSeq (sIf (mB (eBin dEq (eN dLen (eCons (qVar 5) (eNil))) (eC (.int 0)))) (sRet (eTup (eCons (eC (.int 0)) (eCons (eC (.int 0)) (eNil))))) (sNext)) (sSeq (sSet 6 (eDix (pCons (eC (.int 3)) (eTup (eCons (eUn dNeg (eC (.int 1))) (eCons (eC (.int 0)) (eNil)))) (pCons (eC (.int 4)) (eTup (eCons (eUn dNeg (eC (.int 2))) (eCons (eC (.int 0)) (eNil)))) (pCons (eC (.int 5)) (eTup (eCons (eC (.int 0)) (eCons (eUn dNeg (eC (.int 1))) (eNil)))) (pCons (eC (.int 6)) (eTup (eCons (eUn dNeg (eC (.int 3))) (eCons (eC (.int 0)) (eNil)))) (pCons (eC (.int 0)) (eTup (eCons (eUn dNeg (eC (.int 2))) (eCons (eC (.int 0)) (eNil)))) (pNil)))))) (eBin dIx (qVar 5) (eC (.int 0))))) (sRet (mIf (mAnd (mB (eBin dIn (eBin dIx (qVar 5) (eC (.int 0))) (eTup (eCons (eC (.int 4)) (eCons (eC (.int 6)) (eNil)))))) (mB (eBin dLt (qVar 1) (qVar 2)))) (eTup (eCons (eUn dNeg (eC (.int 1))) (eCons (eC (.int 0)) (eNil)))) (eVar 6)))))))
@[irreducible] def F_law_slope : List D → Md D := runF 8 b_law_slope
theorem df_law_slope {P : Program} {w : World} {base : Heap} (t : TT K mg) : DF P w K mg base 1 t.f_law_slope t.fd_law_slope ["world", "first", "other"] F_law_slope := by
  unfold F_law_slope
  exact df_of t.F_law_slope sc_law_slope fun cdv A outer s H E C hW hr tk => (dss_cons (ds_asg (de_var 0) (dg_tup rfl (dgs_cons (dg_name 3 sc_law_slope.nd) (dgs_cons (dg_name 4 sc_law_slope.nd) (dgs_nil))))) (dss_cons (ds_if (dt_cmp (od_eq hr.units) (dq_var 1) (dq_var 2)) (dss_one (ds_ret (de_tup (da_cons (de_int) (da_cons (de_int) (da_nil)))))) (dss_nil)) (dss_cons (ds_setLc (own := [("edge", 7)]) rfl rfl sc_law_slope.nd (dj_seq (dq_var 4)) (blkOk_by (by kernel_rfl)) (fun _ _ _ _ _ => dg_name 7 sc_law_slope.nd) (fun _ _ _ _ _ => by exact dts_one (dt_cmp (od_eq hr.units) (DE.q (de_sl (dq_var 7) (do_none) (do_some (de_int)))) (DE.q (de_tup (da_cons (de_bi (cd_min2 rfl) t.n_min (dq_cons (dq_var 1) (dq_cons (dq_var 2) (dq_nil)))) (da_cons (de_bi (cd_max2 rfl) t.n_max (dq_cons (dq_var 1) (dq_cons (dq_var 2) (dq_nil)))) (da_nil))))))) (fun _ _ _ _ _ => by exact de_ix (dq_var 7) (DE.q (de_int)) (fun _ _ => rfl)) (sw_true rfl rfl rfl (by decide +kernel))) (dss_cons (ds_if (dt_cmp (od_eq hr.units) (DE.q (de_bi cd_len t.n_len (dq_cons (dq_var 5) (dq_nil)))) (DE.q (de_int))) (dss_one (ds_ret (de_tup (da_cons (de_int) (da_cons (de_int) (da_nil)))))) (dss_nil)) (dss_cons (ds_set (i := 6) sc_law_slope.nd (de_dix hr (dp_cons (de_int) (de_tup (da_cons (de_negN (de_int)) (da_cons (de_int) (da_nil)))) (dp_cons (de_int) (de_tup (da_cons (de_negN (de_int)) (da_cons (de_int) (da_nil)))) (dp_cons (de_int) (de_tup (da_cons (de_int) (da_cons (de_negN (de_int)) (da_nil)))) (dp_cons (de_int) (de_tup (da_cons (de_negN (de_int)) (da_cons (de_int) (da_nil)))) (dp_cons (de_int) (de_tup (da_cons (de_negN (de_int)) (da_cons (de_int) (da_nil)))) (dp_nil)))))) (de_ix (dq_var 5) (DE.q (de_int)) (fun _ _ => rfl)) (fun _ _ => rfl))) (dss_one (ds_ret (de_if (PW.pt (dw_and (dt_cmp (od_in (Room.u65 hr)) (DE.q (de_ix (dq_var 5) (DE.q (de_int)) (fun _ _ => rfl))) (DE.q (de_tup (da_cons (de_int) (da_cons (de_int) (da_nil)))))) (dw_and1 (dt_cmp od_lt (dq_var 1) (dq_var 2))))) (de_tup (da_cons (de_negN (de_int)) (da_cons (de_int) (da_nil)))) (de_var 6)))))))))
abbrev N_law_times : List Str := ["one", "two"]
theorem sc_law_times : FnScope N_law_times ["one", "two"] (defScope s_law_times) := ⟨rfl, rfl, rfl, by decide +kernel, rfl, by decide +kernel, by decide +kernel⟩
abbrev b_law_times : DEnv → Md Fl := sRet (eTup (eCons (eBin dAddF (eBin dMulF (eBin dIx (qVar 0) (eC (.int 0))) (eBin dIx (qVar 1) (eC (.int 0)))) (eBin dMulF (eBin dIx (qVar 0) (eC (.int 1))) (eBin dIx (qVar 1) (eC (.int 1))))) (eCons (eBin dAddF (eBin dAddF (eBin dMulF (eBin dIx (qVar 0) (eC (.int 0))) (eBin dIx (qVar 1) (eC (.int 1)))) (eBin dMulF (eBin dIx (qVar 0) (eC (.int 1))) (eBin dIx (qVar 1) (eC (.int 0))))) (eBin dMulF (eBin dIx (qVar 0) (eC (.int 1))) (eBin dIx (qVar 1) (eC (.int 1))))) (eNil))))
@[irreducible] def F_law_times : List D → Md D := runF 2 b_law_times
theorem df_law_times {P : Program} {w : World} {base : Heap} (t : TT K mg) : DF P w K mg base 1 t.f_law_times t.fd_law_times ["one", "two"] F_law_times := by
  unfold F_law_times
  exact df_of t.F_law_times sc_law_times fun cdv A outer s H E C hW hr tk => (dss_one (ds_ret (de_tup (da_cons (de_op od_addF (DE.q (de_op od_mulF (DE.q (de_ix (dq_var 0) (DE.q (de_int)) (fun _ _ => rfl))) (DE.q (de_ix (dq_var 1) (DE.q (de_int)) (fun _ _ => rfl))))) (DE.q (de_op od_mulF (DE.q (de_ix (dq_var 0) (DE.q (de_int)) (fun _ _ => rfl))) (DE.q (de_ix (dq_var 1) (DE.q (de_int)) (fun _ _ => rfl)))))) (da_cons (de_op od_addF (DE.q (de_op od_addF (DE.q (de_op od_mulF (DE.q (de_ix (dq_var 0) (DE.q (de_int)) (fun _ _ => rfl))) (DE.q (de_ix (dq_var 1) (DE.q (de_int)) (fun _ _ => rfl))))) (DE.q (de_op od_mulF (DE.q (de_ix (dq_var 0) (DE.q (de_int)) (fun _ _ => rfl))) (DE.q (de_ix (dq_var 1) (DE.q (de_int)) (fun _ _ => rfl))))))) (DE.q (de_op od_mulF (DE.q (de_ix (dq_var 0) (DE.q (de_int)) (fun _ _ => rfl))) (DE.q (de_ix (dq_var 1) (DE.q (de_int)) (fun _ _ => rfl)))))) (da_nil))))))
abbrev N_law_taken : List Str := ["world", "mirror", "root", "told", "other"]
theorem sc_law_taken : FnScope N_law_taken ["world", "mirror", "root"] (defScope s_law_taken) := ⟨rfl, rfl, rfl, by decide +kernel, rfl, by decide +kernel, by decide +kernel⟩
abbrev b_law_taken : DEnv → Md Fl := sSeq (sSet 3 (eTup (eCons (eC (.int 0)) (eCons (eC (.int 0)) (eNil))))) (sSeq (sFor (iR1 (eBin dIx (qVar 0) (eC (.int 0)))) (gdName 4) (sSet 3 (eCall 2 (F_law_plus) (eCons (eVar 3) (eCons (eCall 2 (F_law_times) (eCons (eCall 3 (F_law_slope) (eCons (eVar 0) (eCons (eVar 1) (eCons (eVar 4) (eNil))))) (eCons (eBin dIx (qVar 2) (qVar 4)) (eNil)))) (eNil)))))) (sRet (eVar 3)))
@[irreducible] def F_law_taken : List D → Md D := runF 5 b_law_taken
theorem df_law_taken {P : Program} {w : World} {base : Heap} (t : TT K mg) : DF P w K mg base 2 t.f_law_taken t.fd_law_taken ["world", "mirror", "root"] F_law_taken := by
  unfold F_law_taken
  exact df_of t.F_law_taken sc_law_taken fun cdv A outer s H E C hW hr tk => (dss_cons (ds_set (i := 3) sc_law_taken.nd (de_tup (da_cons (de_int) (da_cons (de_int) (da_nil))))) (dss_cons (ds_for (passes_of rfl) rfl (di_range1 t.n_range (de_ix (dq_var 0) (DE.q (de_int)) (fun _ _ => rfl))) (dg_name 4 sc_law_taken.nd) (dss_one (ds_set (i := 3) sc_law_taken.nd (de_call (df_law_plus t) (hr.mono (by decide)) t.g_law_plus t.F_law_plus.kp t.b_law_plus tk (da_cons (de_var 3) (da_cons (de_call (df_law_times t) (hr.mono (by decide)) t.g_law_times t.F_law_times.kp t.b_law_times tk (da_cons (de_call (df_law_slope t) (hr.mono (by decide)) t.g_law_slope t.F_law_slope.kp t.b_law_slope tk (da_cons (de_var 0) (da_cons (de_var 1) (da_cons (de_var 4) (da_nil))))) (da_cons (de_ix (dq_var 2) (dq_var 4) (fun _ _ => rfl)) (da_nil)))) (da_nil))))))) (dss_one (ds_ret (de_var 3)))))
abbrev N_law_mirrored : List Str := ["world", "mirror", "root", "far"]
theorem sc_law_mirrored : FnScope N_law_mirrored ["world", "mirror", "root"] (defScope s_law_mirrored) := ⟨rfl, rfl, rfl, by decide +kernel, rfl, by decide +kernel, by decide +kernel⟩
abbrev b_law_mirrored : DEnv → Md Fl := sSeq (sSet 3 (eCall 3 (F_law_taken) (eCons (eVar 0) (eCons (eVar 1) (eCons (eVar 2) (eNil)))))) (sRet (eBin dAddF (eBin dAddF (eSl (qVar 2) (oNone) (oSome (eVar 1))) (eTup (eCons (eTup (eCons (eBin dSub (eBin dIx (eBin dIx (qVar 2) (qVar 1)) (eC (.int 0))) (eBin dIx (qVar 3) (eC (.int 0)))) (eCons (eBin dSub (eBin dIx (eBin dIx (qVar 2) (qVar 1)) (eC (.int 1))) (eBin dIx (qVar 3) (eC (.int 1)))) (eNil)))) (eNil)))) (eSl (qVar 2) (oSome (eBin dAddF (qVar 1) (eC (.int 1)))) (oNone))))
@[irreducible] def F_law_mirrored : List D → Md D := runF 4 b_law_mirrored
theorem df_law_mirrored {P : Program} {w : World} {base : Heap} (t : TT K mg) : DF P w K mg base 3 t.f_law_mirrored t.fd_law_mirrored ["world", "mirror", "root"] F_law_mirrored := by
  unfold F_law_mirrored
  exact df_of t.F_law_mirrored sc_law_mirrored fun cdv A outer s H E C hW hr tk => (dss_cons (ds_set (i := 3) sc_law_mirrored.nd (de_call (df_law_taken t) (hr.mono (by decide)) t.g_law_taken t.F_law_taken.kp t.b_law_taken tk (da_cons (de_var 0) (da_cons (de_var 1) (da_cons (de_var 2) (da_nil)))))) (dss_one (ds_ret (de_op od_addF (DE.q (de_op od_addF (DE.q (de_sl (dq_var 2) (do_none) (do_some (de_var 1)))) (DE.q (de_tup (da_cons (de_tup (da_cons (de_op od_sub (DE.q (de_ix (DE.q (de_ix (dq_var 2) (dq_var 1) (fun _ _ => rfl))) (DE.q (de_int)) (fun _ _ => rfl))) (DE.q (de_ix (dq_var 3) (DE.q (de_int)) (fun _ _ => rfl)))) (da_cons (de_op od_sub (DE.q (de_ix (DE.q (de_ix (dq_var 2) (dq_var 1) (fun _ _ => rfl))) (DE.q (de_int)) (fun _ _ => rfl))) (DE.q (de_ix (dq_var 3) (DE.q (de_int)) (fun _ _ => rfl)))) (da_nil)))) (da_nil)))))) (DE.q (de_sl (dq_var 2) (do_some (de_op od_addF (dq_var 1) (DE.q (de_int)))) (do_none)))))))
abbrev N_law_moved : List Str := ["world", "word", "root", "mirror"]
theorem sc_law_moved : FnScope N_law_moved ["world", "word", "root"] (defScope s_law_moved) := ⟨rfl, rfl, rfl, by decide +kernel, rfl, by decide +kernel, by decide +kernel⟩
abbrev b_law_moved : DEnv → Md Fl := sSeq (sFor (iSeq (eUn dRevF (qVar 1))) (gdName 3) (sSet 2 (eCall 3 (F_law_mirrored) (eCons (eVar 0) (eCons (eVar 3) (eCons (eVar 2) (eNil))))))) (sRet (eVar 2))
@[irreducible] def F_law_moved : List D → Md D := runF 4 b_law_moved
theorem df_law_moved {P : Program} {w : World} {base : Heap} (t : TT K mg) : DF P w K mg base 4 t.f_law_moved t.fd_law_moved ["world", "word", "root"] F_law_moved := by
  unfold F_law_moved
  exact df_of t.F_law_moved sc_law_moved fun cdv A outer s H E C hW hr tk => (dss_cons (ds_for (passes_of rfl) rfl (di_seq (de_rev (dq_var 1))) (dg_name 3 sc_law_moved.nd) (dss_one (ds_set (i := 2) sc_law_moved.nd (de_call (df_law_mirrored t) (hr.mono (by decide)) t.g_law_mirrored t.F_law_mirrored.kp t.b_law_mirrored tk (da_cons (de_var 0) (da_cons (de_var 3) (da_cons (de_var 2) (da_nil)))))))) (dss_one (ds_ret (de_var 2))))
abbrev N_law_sign : List Str := ["number", "whole", "rooted", "far"]
theorem sc_law_sign : FnScope N_law_sign ["number"] (defScope s_law_sign) := ⟨rfl, rfl, rfl, by decide +kernel, rfl, by decide +kernel, by decide +kernel⟩
abbrev b_law_sign : DEnv → Md Fl := sSeq (sPar 1 2 (eCons (eBin dAddF (eBin dMulF (eC (.int 2)) (eBin dIx (qVar 0) (eC (.int 0)))) (eBin dIx (qVar 0) (eC (.int 1)))) (eCons (eBin dIx (qVar 0) (eC (.int 1))) (eNil)))) (sSeq (sIf (mAnd (mB (eBin dEq (qVar 1) (eC (.int 0)))) (mB (eBin dEq (qVar 2) (eC (.int 0))))) (sRet (eC (.int 0))) (sNext)) (sSeq (sIf (mOr (mAnd (mB (eBin dGe (qVar 1) (eC (.int 0)))) (mB (eBin dGe (qVar 2) (eC (.int 0))))) (mAnd (mB (eBin dLe (qVar 1) (eC (.int 0)))) (mB (eBin dLe (qVar 2) (eC (.int 0)))))) (sRet (mIf (mB (eBin dGt (eBin dAddF (qVar 1) (qVar 2)) (eC (.int 0)))) (eC (.int 1)) (eUn dNeg (eC (.int 1))))) (sNext)) (sSeq (sSet 3 (eBin dSub (eBin dMulF (qVar 1) (qVar 1)) (eBin dMulF (eBin dMulF (eC (.int 5)) (qVar 2)) (qVar 2)))) (sRet (eBin dMulF (mIf (mB (eBin dGt (qVar 3) (eC (.int 0)))) (eC (.int 1)) (eUn dNeg (eC (.int 1)))) (mIf (mB (eBin dGt (qVar 1) (eC (.int 0)))) (eC (.int 1)) (eUn dNeg (eC (.int 1)))))))))
@[irreducible] def F_law_sign : List D → Md D := runF 4 b_law_sign
theorem df_law_sign {P : Program} {w : World} {base : Heap} (t : TT K mg) : DF P w K mg base 1 t.f_law_sign t.fd_law_sign ["number"] F_law_sign := by
  unfold F_law_sign
  exact df_of t.F_law_sign sc_law_sign fun cdv A outer s H E C hW hr tk => (dss_cons (ds_par (i := 1) (j := 2) rfl sc_law_sign.nd (da_cons (de_op od_addF (DE.q (de_op od_mulF (DE.q (de_int)) (DE.q (de_ix (dq_var 0) (DE.q (de_int)) (fun _ _ => rfl))))) (DE.q (de_ix (dq_var 0) (DE.q (de_int)) (fun _ _ => rfl)))) (da_cons (de_ix (dq_var 0) (DE.q (de_int)) (fun _ _ => rfl)) (da_nil))) (by decide)) (dss_cons (ds_if (PW.pt (dw_and (dt_cmp (od_eq hr.units) (dq_var 1) (DE.q (de_int))) (dw_and1 (dt_cmp (od_eq hr.units) (dq_var 2) (DE.q (de_int)))))) (dss_one (ds_ret (de_int))) (dss_nil)) (dss_cons (ds_if (PW.pt (dw_or (PW.pt (dw_and (dt_cmp od_ge (dq_var 1) (DE.q (de_int))) (dw_and1 (dt_cmp od_ge (dq_var 2) (DE.q (de_int)))))) (dw_or1 (PW.pt (dw_and (dt_cmp od_le (dq_var 1) (DE.q (de_int))) (dw_and1 (dt_cmp od_le (dq_var 2) (DE.q (de_int))))))))) (dss_one (ds_ret (de_if (dt_cmp od_gt (DE.q (de_op od_addF (dq_var 1) (dq_var 2))) (DE.q (de_int))) (de_int) (de_negN (de_int))))) (dss_nil)) (dss_cons (ds_set (i := 3) sc_law_sign.nd (de_op od_sub (DE.q (de_op od_mulF (dq_var 1) (dq_var 1))) (DE.q (de_op od_mulF (DE.q (de_op od_mulF (DE.q (de_int)) (dq_var 2))) (dq_var 2))))) (dss_one (ds_ret (de_op od_mulF (DE.q (de_if (dt_cmp od_gt (dq_var 3) (DE.q (de_int))) (de_int) (de_negN (de_int)))) (DE.q (de_if (dt_cmp od_gt (dq_var 1) (DE.q (de_int))) (de_int) (de_negN (de_int)))))))))))
abbrev N_law_side : List Str := ["root", "signs", "number"]
theorem sc_law_side : FnScope N_law_side ["root"] (defScope s_law_side) := ⟨rfl, rfl, rfl, by decide +kernel, rfl, by decide +kernel, by decide +kernel⟩
abbrev b_law_side : DEnv → Md Fl := sSeq (sSetN 1 (eComp [2] (iSeq (qVar 0)) (gdName 2) (tYesD) (eCall 1 (F_law_sign) (eCons (eVar 2) (eNil))))) (sSeq (sIf (mB (eBin dIn (eUn dNeg (eC (.int 1))) (qVar 1))) (sRet (mIf (mB (eBin dIn (eC (.int 1)) (qVar 1))) (eC (.int 0)) (eUn dNeg (eC (.int 1))))) (sNext)) (sRet (eN dInt (eCons (eBin dIn (eC (.int 1)) (qVar 1)) (eNil)))))
@[irreducible] def F_law_side : List D → Md D := runF 3 b_law_side
theorem df_law_side {P : Program} {w : World} {base : Heap} (t : TT K mg) : DF P w K mg base 2 t.f_law_side t.fd_law_side ["root"] F_law_side := by
  unfold F_law_side
  exact df_of t.F_law_side sc_law_side fun cdv A outer s H E C hW hr tk => (dss_cons (ds_setLc (own := [("number", 2)]) rfl rfl sc_law_side.nd (dj_seq (dq_var 0)) (blkOk_by (by kernel_rfl)) (fun _ _ _ _ _ => dg_name 2 sc_law_side.nd) (fun _ _ _ _ _ => by exact dts_nil) (fun _ _ _ _ _ => by exact de_call (df_law_sign t) (hr.mono (by decide)) t.g_law_sign t.F_law_sign.kp t.b_law_sign takes0 (da_cons (de_var 2) (da_nil))) (sw_true rfl rfl rfl (by decide +kernel))) (dss_cons (ds_if (dt_cmp (od_in (Room.u65 hr)) (DE.q (de_negN (de_int))) (dq_var 1)) (dss_one (ds_ret (de_if (dt_cmp (od_in (Room.u65 hr)) (DE.q (de_int)) (dq_var 1)) (de_int) (de_negN (de_int))))) (dss_nil)) (dss_one (ds_ret (de_ty cd_int t.n_int (dq_cons (DE.q (de_cmp (od_in (Room.u65 hr)) (DE.q (de_int)) (dq_var 1))) (dq_nil)))))))
abbrev N_law_simple : List Str := ["world", "mirror", "other"]
theorem sc_law_simple : FnScope N_law_simple ["world", "mirror"] (defScope s_law_simple) := ⟨rfl, rfl, rfl, by decide +kernel, rfl, by decide +kernel, by decide +kernel⟩
abbrev b_law_simple : DEnv → Md Fl := sRet (eN dTuple (eCons (eL (eComp [2] (iR1 (eBin dIx (qVar 0) (eC (.int 0)))) (gdName 2) (tYesD) (mIf (mB (eBin dEq (qVar 2) (qVar 1))) (eTup (eCons (eC (.int 1)) (eCons (eC (.int 0)) (eNil)))) (eTup (eCons (eC (.int 0)) (eCons (eC (.int 0)) (eNil))))))) (eNil)))
@[irreducible] def F_law_simple : List D → Md D := runF 3 b_law_simple
theorem df_law_simple {P : Program} {w : World} {base : Heap} (t : TT K mg) : DF P w K mg base 1 t.f_law_simple t.fd_law_simple ["world", "mirror"] F_law_simple := by
  unfold F_law_simple
  exact df_of t.F_law_simple sc_law_simple fun cdv A outer s H E C hW hr tk => (dss_one (ds_ret (de_ty cd_tuple t.n_tuple (dq_cons (DE.q (DN.fz (dn_lc (own := [("other", 2)]) rfl rfl sc_law_simple.nd (DI.j (di_range1 t.n_range (de_ix (dq_var 0) (DE.q (de_int)) (fun _ _ => rfl)))) (blkOk_by (by kernel_rfl)) (fun _ _ _ _ _ => dg_name 2 sc_law_simple.nd) (fun _ _ _ _ _ => by exact dts_nil) (fun _ _ _ _ _ => by exact de_if (dt_cmp (od_eq hr.units) (dq_var 2) (dq_var 1)) (de_tup (da_cons (de_int) (da_cons (de_int) (da_nil)))) (de_tup (da_cons (de_int) (da_cons (de_int) (da_nil)))))))) (dq_nil)))))
abbrev N_law_normal : List Str := ["world", "word", "images", "told", "low", "first", "base", "other", "by", "mirror", "k"]
theorem sc_law_normal : FnScope N_law_normal ["world", "word"] (defScope s_law_normal) := ⟨rfl, rfl, rfl, by decide +kernel, rfl, by decide +kernel, by decide +kernel⟩
abbrev b_law_normal : DEnv → Md Fl := sSeq (sSetN 2 (eComp [9] (iR1 (eBin dIx (qVar 0) (eC (.int 0)))) (gdName 9) (tYesD) (eCall 3 (F_law_moved) (eCons (eVar 0) (eCons (eUn dRevF (qVar 1)) (eCons (eCall 2 (F_law_simple) (eCons (eVar 0) (eCons (eVar 9) (eNil)))) (eNil))))))) (sSeq (sSet 3 (eTup (eNil))) (sSeq (sSetN 4 (eComp [9] (iR1 (eBin dIx (qVar 0) (eC (.int 0)))) (gdName 9) (mB (eBin dLt (eCall 1 (F_law_side) (eCons (eBin dIx (qVar 2) (qVar 9)) (eNil))) (eC (.int 0)))) (eVar 9))) (sSeq (whileN (mB (eBin dGt (eN dLen (eCons (qVar 4) (eNil))) (eC (.int 0)))) (sSeq (sSet 5 (eBin dIx (qVar 4) (eC (.int 0)))) (sSeq (sSet 3 (eBin dAddF (qVar 3) (eTup (eCons (eVar 5) (eNil))))) (sSeq (sSet 6 (eBin dIx (qVar 2) (qVar 5))) (sSeq (sFor (iR1 (eBin dIx (qVar 0) (eC (.int 0)))) (gdName 7) (sSeq (sSet 8 (eCall 3 (F_law_slope) (eCons (eVar 0) (eCons (eVar 5) (eCons (eVar 7) (eNil)))))) (sAsgM (gmSub 2 (eVar 7)) (eN dTuple (eCons (eL (eComp [10] (iR1 (eBin dIx (qVar 0) (eC (.int 0)))) (gdName 10) (tYesD) (eCall 2 (F_law_plus) (eCons (eBin dIx (eBin dIx (qVar 2) (qVar 7)) (qVar 10)) (eCons (eCall 2 (F_law_times) (eCons (eTup (eCons (eUn dNeg (eBin dIx (qVar 8) (eC (.int 0)))) (eCons (eUn dNeg (eBin dIx (qVar 8) (eC (.int 1)))) (eNil)))) (eCons (eBin dIx (qVar 6) (qVar 10)) (eNil)))) (eNil)))))) (eNil)))))) (sSetN 4 (eComp [9] (iR1 (eBin dIx (qVar 0) (eC (.int 0)))) (gdName 9) (mB (eBin dLt (eCall 1 (F_law_side) (eCons (eBin dIx (qVar 2) (qVar 9)) (eNil))) (eC (.int 0)))) (eVar 9))))))) 1000) (sRet (eVar 3)))))
@[irreducible] def F_law_normal : List D → Md D := runF 11 b_law_normal
theorem df_law_normal {P : Program} {w : World} {base : Heap} (t : TT K mg) : DF P w K mg base 5 t.f_law_normal t.fd_law_normal ["world", "word"] F_law_normal := by
  unfold F_law_normal
  exact df_of t.F_law_normal sc_law_normal fun cdv A outer s H E C hW hr tk => (dss_cons (ds_setN (i := 2) sc_law_normal.nd (dn_lc (own := [("mirror", 9)]) rfl rfl sc_law_normal.nd (DI.j (di_range1 t.n_range (de_ix (dq_var 0) (DE.q (de_int)) (fun _ _ => rfl)))) (blkOk_by (by kernel_rfl)) (fun _ _ _ _ _ => dg_name 9 sc_law_normal.nd) (fun _ _ _ _ _ => by exact dts_nil) (fun _ _ _ _ _ => by exact de_call (df_law_moved t) (hr.mono (by decide)) t.g_law_moved t.F_law_moved.kp t.b_law_moved takes0 (da_cons (de_var 0) (da_cons (de_rev (dq_var 1)) (da_cons (de_call (df_law_simple t) (hr.mono (by decide)) t.g_law_simple t.F_law_simple.kp t.b_law_simple takes0 (da_cons (de_var 0) (da_cons (de_var 9) (da_nil)))) (da_nil))))))) (dss_cons (ds_set (i := 3) sc_law_normal.nd (de_tup (da_nil))) (dss_cons (ds_setLc (own := [("mirror", 9)]) rfl rfl sc_law_normal.nd (DI.j (di_range1 t.n_range (de_ix (dq_var 0) (DE.q (de_int)) (fun _ _ => rfl)))) (blkOk_by (by kernel_rfl)) (fun _ _ _ _ _ => dg_name 9 sc_law_normal.nd) (fun _ _ _ _ _ => by exact dts_one (dt_cmp od_lt (DE.q (de_call (df_law_side t) (hr.mono (by decide)) t.g_law_side t.F_law_side.kp t.b_law_side takes0 (da_cons (de_ix (dq_var 2) (dq_var 9) (fun _ _ => rfl)) (da_nil)))) (DE.q (de_int)))) (fun _ _ _ _ _ => by exact de_var 9) (sw_true rfl rfl rfl (by decide +kernel))) (dss_cons (ds_while 1000 (passes_of rfl) (dt_cmp od_gt (DE.q (de_bi cd_len t.n_len (dq_cons (dq_var 4) (dq_nil)))) (DE.q (de_int))) (dss_cons (ds_set (i := 5) sc_law_normal.nd (de_ix (dq_var 4) (DE.q (de_int)) (fun _ _ => rfl))) (dss_cons (ds_set (i := 3) sc_law_normal.nd (de_op od_addF (dq_var 3) (DE.q (de_tup (da_cons (de_var 5) (da_nil)))))) (dss_cons (ds_set (i := 6) sc_law_normal.nd (de_ix (dq_var 2) (dq_var 5) (fun _ _ => rfl))) (dss_cons (ds_for (passes_of rfl) rfl (di_range1 t.n_range (de_ix (dq_var 0) (DE.q (de_int)) (fun _ _ => rfl))) (dg_name 7 sc_law_normal.nd) (dss_cons (ds_set (i := 8) sc_law_normal.nd (de_call (df_law_slope t) (hr.mono (by decide)) t.g_law_slope t.F_law_slope.kp t.b_law_slope tk (da_cons (de_var 0) (da_cons (de_var 5) (da_cons (de_var 7) (da_nil)))))) (dss_one (ds_asgM (de_ty cd_tuple t.n_tuple (dq_cons (DE.q (DN.fz (dn_lc (own := [("k", 10)]) rfl rfl sc_law_normal.nd (DI.j (di_range1 t.n_range (de_ix (dq_var 0) (DE.q (de_int)) (fun _ _ => rfl)))) (blkOk_by (by kernel_rfl)) (fun _ _ _ _ _ => dg_name 10 sc_law_normal.nd) (fun _ _ _ _ _ => by exact dts_nil) (fun _ _ _ _ _ => by exact de_call (df_law_plus t) (hr.mono (by decide)) t.g_law_plus t.F_law_plus.kp t.b_law_plus takes0 (da_cons (de_ix (DE.q (de_ix (dq_var 2) (dq_var 7) (fun _ _ => rfl))) (dq_var 10) (fun _ _ => rfl)) (da_cons (de_call (df_law_times t) (hr.mono (by decide)) t.g_law_times t.F_law_times.kp t.b_law_times takes0 (da_cons (de_tup (da_cons (de_negN (de_ix (dq_var 8) (DE.q (de_int)) (fun _ _ => rfl))) (da_cons (de_negN (de_ix (dq_var 8) (DE.q (de_int)) (fun _ _ => rfl))) (da_nil)))) (da_cons (de_ix (dq_var 6) (dq_var 10) (fun _ _ => rfl)) (da_nil)))) (da_nil))))))) (dq_nil))) (dm_sub 2 (de_var 7)))))) (dss_one (ds_setLc (own := [("mirror", 9)]) rfl rfl sc_law_normal.nd (DI.j (di_range1 t.n_range (de_ix (dq_var 0) (DE.q (de_int)) (fun _ _ => rfl)))) (blkOk_by (by kernel_rfl)) (fun _ _ _ _ _ => dg_name 9 sc_law_normal.nd) (fun _ _ _ _ _ => by exact dts_one (dt_cmp od_lt (DE.q (de_call (df_law_side t) (hr.mono (by decide)) t.g_law_side t.F_law_side.kp t.b_law_side takes0 (da_cons (de_ix (dq_var 2) (dq_var 9) (fun _ _ => rfl)) (da_nil)))) (DE.q (de_int)))) (fun _ _ _ _ _ => by exact de_var 9) (sw_true rfl rfl rfl (by decide +kernel))))))))) (dss_one (ds_ret (de_var 3)))))))
abbrev N_law_same : List Str := ["actual", "expected", "k"]
theorem sc_law_same : FnScope N_law_same ["actual", "expected"] (defScope s_law_same) := ⟨rfl, rfl, rfl, by decide +kernel, rfl, by decide +kernel, by decide +kernel⟩
abbrev b_law_same (Fr : List D → Md D) : DEnv → Md Fl := sSeq (sIf (mOr (mB (eUn (dIsi "tuple") (qVar 1))) (mB (eUn (dIsi "list") (qVar 1)))) (sSeq (sIf (mOr (mB (eBin dNe (eUn (dIsi "tuple") (qVar 1)) (eUn (dIsi "tuple") (qVar 0)))) (mB (eBin dNe (eUn (dIsi "list") (qVar 1)) (eUn (dIsi "list") (qVar 0))))) (sRet (eC (.bl false))) (sNext)) (sSeq (sIf (mB (eBin dNe (eN dLen (eCons (qVar 0) (eNil))) (eN dLen (eCons (qVar 1) (eNil))))) (sRet (eC (.bl false))) (sNext)) (sRet (eBin dEq (eN dLen (eCons (eL (eComp [2] (iR1 (eN dLen (eCons (qVar 1) (eNil)))) (gdName 2) (mNot (mB (eCall 2 Fr (eCons (eBin dIx (qVar 0) (qVar 2)) (eCons (eBin dIx (qVar 1) (qVar 2)) (eNil)))))) (eVar 2))) (eNil))) (eC (.int 0)))))) (sNext)) (sSeq (sIf (mB (eUn (dIsi "str") (qVar 1))) (sRet (eAndV (eUn (dIsi "str") (qVar 0)) (eBin dEq (qVar 0) (qVar 1)))) (sNext)) (sSeq (sIf (mB (eBin dIs (qVar 1) (eC .non))) (sRet (eBin dIs (qVar 0) (eC .non))) (sNext)) (sSeq (sIf (mOr (mB (eUn (dIsi "bool") (qVar 1))) (mB (eUn (dIsi "bool") (qVar 0)))) (sRet (eAndV (eUn (dIsi "bool") (qVar 1)) (eAndV (eUn (dIsi "bool") (qVar 0)) (eBin dEq (qVar 0) (qVar 1))))) (sNext)) (sRet (eAndV (eUn (dIsi "int") (qVar 0)) (eAndV (eUn (dIsi "int") (qVar 1)) (eBin dEq (qVar 0) (qVar 1))))))))
def F_law_same : Nat → List D → Md D
  | 0 => fun _ => Md.stuck
  | n + 1 => runF 3 (b_law_same (F_law_same n))
theorem df_law_same {P : Program} {w : World} {base : Heap} (n : Nat) (t : TT K mg) : DF P w K mg base (n + 1) t.f_law_same t.fd_law_same ["actual", "expected"] (F_law_same n) := by
  induction n with
  | zero => exact ⟨fun vs H Q E h => by obtain ⟨hl, mu, ad, F, ds, st, _, _, _, _, q⟩ := h; exact q.elim, fun A outer s H a us vs Q E hr e b r h => by obtain ⟨hl, mu, ad, F, ds, st, _, _, _, _, q⟩ := h; exact q.elim⟩
  | succ n ih =>
    have Gr := ih
    rw [show n + 1 + 1 = (n + 1) + 1 by omega]
    exact df_of t.F_law_same sc_law_same fun cdv A outer s H E C hW hr tk => (dss_cons (ds_if (PW.pt (dw_or (dt_val (de_isi (by decide) (dq_var 1) t.n_isinstance t.n_tuple)) (dw_or1 (dt_val (de_isi (by decide) (dq_var 1) t.n_isinstance t.n_list))))) (dss_cons (ds_if (PW.pt (dw_or (dt_cmp (od_ne hr.units) (DE.q (de_isi (by decide) (dq_var 1) t.n_isinstance t.n_tuple)) (DE.q (de_isi (by decide) (dq_var 0) t.n_isinstance t.n_tuple))) (dw_or1 (dt_cmp (od_ne hr.units) (DE.q (de_isi (by decide) (dq_var 1) t.n_isinstance t.n_list)) (DE.q (de_isi (by decide) (dq_var 0) t.n_isinstance t.n_list)))))) (dss_one (ds_ret (de_bl))) (dss_nil)) (dss_cons (ds_if (dt_cmp (od_ne hr.units) (DE.q (de_bi cd_len t.n_len (dq_cons (dq_var 0) (dq_nil)))) (DE.q (de_bi cd_len t.n_len (dq_cons (dq_var 1) (dq_nil))))) (dss_one (ds_ret (de_bl))) (dss_nil)) (dss_one (ds_ret (de_cmp (od_eq hr.units) (DE.q (de_bi cd_len t.n_len (dq_cons (DE.q (DN.fz (dn_lc (own := [("k", 2)]) rfl rfl sc_law_same.nd (DI.j (di_range1 t.n_range (de_bi cd_len t.n_len (dq_cons (dq_var 1) (dq_nil))))) (blkOk_by (by kernel_rfl)) (fun _ _ _ _ _ => dg_name 2 sc_law_same.nd) (fun _ _ _ _ _ => by exact dts_one (dt_not (dt_val (de_call Gr (hr.mono (Nat.le_refl _)) t.g_law_same t.F_law_same.kp t.b_law_same takes0 (da_cons (de_ix (dq_var 0) (dq_var 2) (fun _ _ => rfl)) (da_cons (de_ix (dq_var 1) (dq_var 2) (fun _ _ => rfl)) (da_nil))))))) (fun _ _ _ _ _ => by exact de_var 2)))) (dq_nil)))) (DE.q (de_int))))))) (dss_nil)) (dss_cons (ds_if (dt_val (de_isi (by decide) (dq_var 1) t.n_isinstance t.n_str)) (dss_one (ds_ret (de_and (de_isi (by decide) (dq_var 0) t.n_isinstance t.n_str) (de_one (de_cmp (od_eq hr.units) (dq_var 0) (dq_var 1)))))) (dss_nil)) (dss_cons (ds_if (dt_cmp od_is (dq_var 1) (DE.q (de_non))) (dss_one (ds_ret (de_cmp od_is (dq_var 0) (DE.q (de_non))))) (dss_nil)) (dss_cons (ds_if (PW.pt (dw_or (dt_val (de_isi (by decide) (dq_var 1) t.n_isinstance t.n_bool)) (dw_or1 (dt_val (de_isi (by decide) (dq_var 0) t.n_isinstance t.n_bool))))) (dss_one (ds_ret (de_and (de_isi (by decide) (dq_var 1) t.n_isinstance t.n_bool) (de_and (de_isi (by decide) (dq_var 0) t.n_isinstance t.n_bool) (de_one (de_cmp (od_eq hr.units) (dq_var 0) (dq_var 1))))))) (dss_nil)) (dss_one (ds_ret (de_and (de_isi (by decide) (dq_var 0) t.n_isinstance t.n_int) (de_and (de_isi (by decide) (dq_var 1) t.n_isinstance t.n_int) (de_one (de_cmp (od_eq hr.units) (dq_var 0) (dq_var 1)))))))))))
abbrev N_law_step : List Str := ["kind", "row", "mirror", "at"]
theorem sc_law_step : FnScope N_law_step ["kind", "row", "mirror"] (defScope s_law_step) := ⟨rfl, rfl, rfl, by decide +kernel, rfl, by decide +kernel, by decide +kernel⟩
abbrev b_law_step : DEnv → Md Fl := sSeq (sSetN 1 (eNN dList (eCons (qVar 1) (eNil)))) (sSeq (sIf (mOr (mB (eBin dEq (qVar 0) (eC (.str "A")))) (mB (eBin dGt (qVar 2) (eC (.int 0))))) (sSeq (sSet 3 (mIf (mB (eBin dEq (qVar 0) (eC (.str "A")))) (eVar 2) (eBin dSub (qVar 2) (eC (.int 1))))) (sAsgM (gmTup 2 (gmCons (gmSub 1 (eVar 3)) (gmCons (gmSub 1 (eBin dAddF (qVar 3) (eC (.int 1)))) (gmNil)))) (eTup (eCons (eBin dIx (qVar 1) (eBin dAddF (qVar 3) (eC (.int 1)))) (eCons (eBin dIx (qVar 1) (qVar 3)) (eNil)))))) (sIf (mB (eBin dEq (qVar 0) (eC (.str "B")))) (sAsgM (gmSub 1 (eC (.int 0))) (eBin dSub (eC (.int 0)) (eBin dIx (qVar 1) (eC (.int 0))))) (sAsgM (gmTup 2 (gmCons (gmSub 1 (eC (.int 0))) (gmCons (gmSub 1 (eC (.int 1))) (gmNil)))) (eTup (eCons (eBin dSub (eC (.int 0)) (eBin dIx (qVar 1) (eC (.int 1)))) (eCons (eBin dSub (eC (.int 0)) (eBin dIx (qVar 1) (eC (.int 0)))) (eNil))))))) (sRet (eN dTuple (eCons (qVar 1) (eNil)))))
@[irreducible] def F_law_step : List D → Md D := runF 4 b_law_step
theorem df_law_step {P : Program} {w : World} {base : Heap} (t : TT K mg) : DF P w K mg base 1 t.f_law_step t.fd_law_step ["kind", "row", "mirror"] F_law_step := by
  unfold F_law_step
  exact df_of t.F_law_step sc_law_step fun cdv A outer s H E C hW hr tk => (dss_cons (ds_setN (i := 1) sc_law_step.nd (dn_ty cd_list t.n_list (dq_cons (dq_var 1) (dq_nil)))) (dss_cons (ds_if (PW.pt (dw_or (dt_cmp (od_eq hr.units) (dq_var 0) (DE.q (de_str))) (dw_or1 (dt_cmp od_gt (dq_var 2) (DE.q (de_int)))))) (dss_cons (ds_set (i := 3) sc_law_step.nd (de_if (dt_cmp (od_eq hr.units) (dq_var 0) (DE.q (de_str))) (de_var 2) (de_op od_sub (dq_var 2) (DE.q (de_int))))) (dss_one (ds_asgM (de_tup (da_cons (de_ix (dq_var 1) (DE.q (de_op od_addF (dq_var 3) (DE.q (de_int)))) (fun _ _ => rfl)) (da_cons (de_ix (dq_var 1) (dq_var 3) (fun _ _ => rfl)) (da_nil)))) (dm_tup rfl (dms_cons (dm_sub 1 (de_var 3)) (dms_cons (dm_sub 1 (de_op od_addF (dq_var 3) (DE.q (de_int)))) (dms_nil))))))) (dss_one (ds_if (dt_cmp (od_eq hr.units) (dq_var 0) (DE.q (de_str))) (dss_one (ds_asgM (de_op od_sub (DE.q (de_int)) (DE.q (de_ix (dq_var 1) (DE.q (de_int)) (fun _ _ => rfl)))) (dm_sub 1 (de_int)))) (dss_one (ds_asgM (de_tup (da_cons (de_op od_sub (DE.q (de_int)) (DE.q (de_ix (dq_var 1) (DE.q (de_int)) (fun _ _ => rfl)))) (da_cons (de_op od_sub (DE.q (de_int)) (DE.q (de_ix (dq_var 1) (DE.q (de_int)) (fun _ _ => rfl)))) (da_nil)))) (dm_tup rfl (dms_cons (dm_sub 1 (de_int)) (dms_cons (dm_sub 1 (de_int)) (dms_nil))))))))) (dss_one (ds_ret (de_ty cd_tuple t.n_tuple (dq_cons (dq_var 1) (dq_nil)))))))
abbrev N_law_window : List Str := ["kind", "many", "word", "row", "mirror"]
theorem sc_law_window : FnScope N_law_window ["kind", "many", "word"] (defScope s_law_window) := ⟨rfl, rfl, rfl, by decide +kernel, rfl, by decide +kernel, by decide +kernel⟩
abbrev b_law_window : DEnv → Md Fl := sSeq (sSet 3 (eRg (iR2 (eC (.int 1)) (eBin dAddF (eBin dAddF (qVar 1) (eC (.int 1))) (eN dInt (eCons (eBin dEq (qVar 0) (eC (.str "A"))) (eNil))))))) (sSeq (sFor (iSeq (eVar 2)) (gdName 4) (sSet 3 (eCall 3 (F_law_step) (eCons (eVar 0) (eCons (eVar 3) (eCons (eVar 4) (eNil))))))) (sRet (eVar 3)))
@[irreducible] def F_law_window : List D → Md D := runF 5 b_law_window
theorem df_law_window {P : Program} {w : World} {base : Heap} (t : TT K mg) : DF P w K mg base 2 t.f_law_window t.fd_law_window ["kind", "many", "word"] F_law_window := by
  unfold F_law_window
  exact df_of t.F_law_window sc_law_window fun cdv A outer s H E C hW hr tk => (dss_cons (ds_set (i := 3) sc_law_window.nd (de_tupRg rfl t.n_tuple (drg_2 t.n_range (de_int) (de_op od_addF (DE.q (de_op od_addF (dq_var 1) (DE.q (de_int)))) (DE.q (de_ty cd_int t.n_int (dq_cons (DE.q (de_cmp (od_eq hr.units) (dq_var 0) (DE.q (de_str)))) (dq_nil)))))))) (dss_cons (ds_for (passes_of rfl) rfl (di_seq (de_var 2)) (dg_name 4 sc_law_window.nd) (dss_one (ds_set (i := 3) sc_law_window.nd (de_call (df_law_step t) (hr.mono (by decide)) t.g_law_step t.F_law_step.kp t.b_law_step tk (da_cons (de_var 0) (da_cons (de_var 3) (da_cons (de_var 4) (da_nil)))))))) (dss_one (ds_ret (de_var 3)))))
abbrev N_law_word : List Str := ["draws", "size", "most", "k"]
theorem sc_law_word : FnScope N_law_word ["draws", "size", "most"] (defScope s_law_word) := ⟨rfl, rfl, rfl, by decide +kernel, rfl, by decide +kernel, by decide +kernel⟩
abbrev b_law_word : DEnv → Md Fl := sRet (eN dTuple (eCons (eL (eComp [3] (iR1 (eCallS 2 (F_law_draw) (eCons (eVar 0) (eCons (eBin dAddF (qVar 2) (eC (.int 1))) (eNil))))) (gdName 3) (tYesD) (eCallS 2 (F_law_draw) (eCons (eVar 0) (eCons (eVar 1) (eNil)))))) (eNil)))
@[irreducible] def F_law_word : List D → Md D := runF 4 b_law_word
theorem df_law_word {P : Program} {w : World} {base : Heap} (t : TT K mg) : DF P w K mg base 2 t.f_law_word t.fd_law_word ["draws", "size", "most"] F_law_word := by
  unfold F_law_word
  exact df_of t.F_law_word sc_law_word fun cdv A outer s H E C hW hr tk => (dss_one (ds_ret (de_ty cd_tuple t.n_tuple (dq_cons (DE.q (DN.fz (dn_lc (own := [("k", 3)]) rfl rfl sc_law_word.nd (DI.j (di_range1 t.n_range (de_callS (df_law_draw t) (hr.mono (by decide)) t.g_law_draw t.F_law_draw.kp t.b_law_draw tk (da_cons (de_var 0) (da_cons (de_op od_addF (dq_var 2) (DE.q (de_int))) (da_nil)))))) (blkOk_by (by kernel_rfl)) (fun _ _ _ _ _ => dg_name 3 sc_law_word.nd) (fun _ _ _ _ _ => by exact dts_nil) (fun _ _ _ _ _ => by exact de_callS (df_law_draw t) (hr.mono (by decide)) t.g_law_draw t.F_law_draw.kp t.b_law_draw takes0 (da_cons (de_var 0) (da_cons (de_var 1) (da_nil))))))) (dq_nil)))))
abbrev N_is_integer : List Str := ["value"]
theorem sc_is_integer : FnScope N_is_integer ["value"] (defScope s_is_integer) := ⟨rfl, rfl, rfl, by decide +kernel, rfl, by decide +kernel, by decide +kernel⟩
abbrev b_is_integer : DEnv → Md Fl := sRet (eAndV (eUn (dIsi "int") (qVar 0)) (eNot (eUn (dIsi "bool") (qVar 0))))
@[irreducible] def F_is_integer : List D → Md D := runF 1 b_is_integer
theorem df_is_integer {P : Program} {w : World} {base : Heap} (t : TT K mg) : DF P w K mg base 1 t.f_is_integer t.fd_is_integer ["value"] F_is_integer := by
  unfold F_is_integer
  exact df_of t.F_is_integer sc_is_integer fun cdv A outer s H E C hW hr tk => (dss_one (ds_ret (de_and (de_isi (by decide) (dq_var 0) t.n_isinstance t.n_int) (de_one (de_not (de_isi (by decide) (dq_var 0) t.n_isinstance t.n_bool))))))
abbrev N_look_at_kind : List Str := ["kind", "many"]
theorem sc_look_at_kind : FnScope N_look_at_kind ["kind", "many"] (defScope s_look_at_kind) := ⟨rfl, rfl, rfl, by decide +kernel, rfl, by decide +kernel, by decide +kernel⟩
abbrev b_look_at_kind : DEnv → Md Fl := sIf (mOr (mB (eBin dNotIn (qVar 0) (eC (.tup [(.str "A"), (.str "B"), (.str "D")])))) (mOr (mNot (mB (eCall 1 (F_is_integer) (eCons (eVar 1) (eNil))))) (mNot (mB (eChain dLe dLe (mIf (mB (eBin dEq (qVar 0) (eC (.str "A")))) (eC (.int 1)) (eC (.int 2))) (qVar 1) (eC (.int 8))))))) (sRaise "BadDiagram") (sNext)
@[irreducible] def F_look_at_kind : List D → Md D := runF 2 b_look_at_kind
theorem df_look_at_kind {P : Program} {w : World} {base : Heap} (t : TT K mg) : DF P w K mg base 2 t.f_look_at_kind t.fd_look_at_kind ["kind", "many"] F_look_at_kind := by
  unfold F_look_at_kind
  exact df_of t.F_look_at_kind sc_look_at_kind fun cdv A outer s H E C hW hr tk => (dss_one (ds_if (PW.pt (dw_or (dt_cmp (od_notIn (Room.u65 hr)) (dq_var 0) (DE.q (de_glob t.c_KINDS))) (dw_or (dt_not (dt_val (de_call (df_is_integer t) (hr.mono (by decide)) t.g_is_integer t.F_is_integer.kp t.b_is_integer tk (da_cons (de_var 1) (da_nil))))) (dw_or1 (dt_not (dt_chain od_le od_le (DE.q (de_if (dt_cmp (od_eq hr.units) (dq_var 0) (DE.q (de_str))) (de_int) (de_int))) (dq_var 1) (DE.q (de_glob t.c_MOST)))))))) (dss_one (ds_raise rfl tk t.g_BadDiagram (pmk_own PySem.F.excBase_ValueError t.x_BadDiagram t.g_BadDiagram t.k_BadDiagram (raises_own t.b_BadDiagram t.t_BadDiagram) rfl))) (dss_nil)))
abbrev N_size_of : List Str := ["kind", "many"]
theorem sc_size_of : FnScope N_size_of ["kind", "many"] (defScope s_size_of) := ⟨rfl, rfl, rfl, by decide +kernel, rfl, by decide +kernel, by decide +kernel⟩
abbrev b_size_of : DEnv → Md Fl := sRet (mIf (mB (eBin dEq (qVar 0) (eC (.str "A")))) (eBin dAddF (qVar 1) (eC (.int 1))) (eVar 1))
@[irreducible] def F_size_of : List D → Md D := runF 2 b_size_of
theorem df_size_of {P : Program} {w : World} {base : Heap} (t : TT K mg) : DF P w K mg base 1 t.f_size_of t.fd_size_of ["kind", "many"] F_size_of := by
  unfold F_size_of
  exact df_of t.F_size_of sc_size_of fun cdv A outer s H E C hW hr tk => (dss_one (ds_ret (de_if (dt_cmp (od_eq hr.units) (dq_var 0) (DE.q (de_str))) (de_op od_addF (dq_var 1) (DE.q (de_int))) (de_var 1))))
abbrev N_plain : List Str := ["kind", "many"]
theorem sc_plain : FnScope N_plain ["kind", "many"] (defScope s_plain) := ⟨rfl, rfl, rfl, by decide +kernel, rfl, by decide +kernel, by decide +kernel⟩
abbrev b_plain : DEnv → Md Fl := sSeq (sDrop (eCall 2 (F_look_at_kind) (eCons (eVar 0) (eCons (eVar 1) (eNil))))) (sRet (eRg (iR2 (eC (.int 1)) (eBin dAddF (eCall 2 (F_size_of) (eCons (eVar 0) (eCons (eVar 1) (eNil)))) (eC (.int 1))))))
@[irreducible] def F_plain : List D → Md D := runF 2 b_plain
theorem df_plain {P : Program} {w : World} {base : Heap} (t : TT K mg) : DF P w K mg base 3 t.f_plain t.fd_plain ["kind", "many"] F_plain := by
  unfold F_plain
  exact df_of t.F_plain sc_plain fun cdv A outer s H E C hW hr tk => (dss_cons (ds_expr (de_call (df_look_at_kind t) (hr.mono (by decide)) t.g_look_at_kind t.F_look_at_kind.kp t.b_look_at_kind tk (da_cons (de_var 0) (da_cons (de_var 1) (da_nil))))) (dss_one (ds_ret (de_tupRg rfl t.n_tuple (drg_2 t.n_range (de_int) (de_op od_addF (DE.q (de_call (df_size_of t) (hr.mono (by decide)) t.g_size_of t.F_size_of.kp t.b_size_of tk (da_cons (de_var 0) (da_cons (de_var 1) (da_nil))))) (DE.q (de_int))))))))
abbrev N_is_window : List Str := ["kind", "many", "value", "below", "one"]
theorem sc_is_window : FnScope N_is_window ["kind", "many", "value"] (defScope s_is_window) := ⟨rfl, rfl, rfl, by decide +kernel, rfl, by decide +kernel, by decide +kernel⟩
abbrev b_is_window : DEnv → Md Fl := sSeq (sDrop (eCall 2 (F_look_at_kind) (eCons (eVar 0) (eCons (eVar 1) (eNil))))) (sSeq (sIf (mOr (mNot (mB (eUn (dIsi "tuple") (qVar 2)))) (mOr (mB (eBin dNe (eN dLen (eCons (qVar 2) (eNil))) (eCall 2 (F_size_of) (eCons (eVar 0) (eCons (eVar 1) (eNil)))))) (mNot (mB (eN dAll (eCons (eL (eComp [4] (iSeq (qVar 2)) (gdName 4) (tYesD) (eCall 1 (F_is_integer) (eCons (eVar 4) (eNil))))) (eNil))))))) (sRet (eC (.bl false))) (sNext)) (sSeq (sIf (mB (eBin dNe (eL (eNN dSort (eCons (eL (eComp [4] (iSeq (qVar 2)) (gdName 4) (tYesD) (eN dAbs (eCons (qVar 4) (eNil))))) (eNil)))) (eL (eNN dList (eCons (eCall 2 (F_plain) (eCons (eVar 0) (eCons (eVar 1) (eNil)))) (eNil)))))) (sRet (eC (.bl false))) (sNext)) (sSeq (sSet 3 (eN dLen (eCons (eL (eComp [4] (iSeq (qVar 2)) (gdName 4) (mB (eBin dLt (qVar 4) (eC (.int 0)))) (eVar 4))) (eNil)))) (sRet (mIf (mB (eBin dEq (qVar 0) (eC (.str "A")))) (eBin dEq (qVar 3) (eC (.int 0))) (eOrV (eBin dEq (qVar 0) (eC (.str "B"))) (eBin dEq (eBin dMod (qVar 3) (eC (.int 2))) (eC (.int 0)))))))))
@[irreducible] def F_is_window : List D → Md D := runF 5 b_is_window
theorem df_is_window {P : Program} {w : World} {base : Heap} (t : TT K mg) : DF P w K mg base 4 t.f_is_window t.fd_is_window ["kind", "many", "value"] F_is_window := by
  unfold F_is_window
  exact df_of t.F_is_window sc_is_window fun cdv A outer s H E C hW hr tk => (dss_cons (ds_expr (de_call (df_look_at_kind t) (hr.mono (by decide)) t.g_look_at_kind t.F_look_at_kind.kp t.b_look_at_kind tk (da_cons (de_var 0) (da_cons (de_var 1) (da_nil))))) (dss_cons (ds_if (PW.pt (dw_or (dt_not (dt_val (de_isi (by decide) (dq_var 2) t.n_isinstance t.n_tuple))) (dw_or (dt_cmp (od_ne hr.units) (DE.q (de_bi cd_len t.n_len (dq_cons (dq_var 2) (dq_nil)))) (DE.q (de_call (df_size_of t) (hr.mono (by decide)) t.g_size_of t.F_size_of.kp t.b_size_of tk (da_cons (de_var 0) (da_cons (de_var 1) (da_nil)))))) (dw_or1 (dt_not (dt_val (de_bi (cd_all rfl) t.n_all (dq_cons (DE.q (DN.fz (dn_lc (own := [("one", 4)]) rfl rfl sc_is_window.nd (dj_seq (dq_var 2)) (blkOk_by (by kernel_rfl)) (fun _ _ _ _ _ => dg_name 4 sc_is_window.nd) (fun _ _ _ _ _ => by exact dts_nil) (fun _ _ _ _ _ => by exact de_call (df_is_integer t) (hr.mono (by decide)) t.g_is_integer t.F_is_integer.kp t.b_is_integer takes0 (da_cons (de_var 4) (da_nil)))))) (dq_nil))))))))) (dss_one (ds_ret (de_bl))) (dss_nil)) (dss_cons (ds_if (dt_cmp (od_ne hr.units) (DE.q (DN.fz (dn_bi cd_sort t.n_sorted (dq_cons (DE.q (DN.fz (dn_lc (own := [("one", 4)]) rfl rfl sc_is_window.nd (dj_seq (dq_var 2)) (blkOk_by (by kernel_rfl)) (fun _ _ _ _ _ => dg_name 4 sc_is_window.nd) (fun _ _ _ _ _ => by exact dts_nil) (fun _ _ _ _ _ => by exact de_bi cd_abs t.n_abs (dq_cons (dq_var 4) (dq_nil)))))) (dq_nil))))) (DE.q (DN.fz (dn_ty cd_list t.n_list (dq_cons (DE.q (de_call (df_plain t) (hr.mono (by decide)) t.g_plain t.F_plain.kp t.b_plain tk (da_cons (de_var 0) (da_cons (de_var 1) (da_nil))))) (dq_nil)))))) (dss_one (ds_ret (de_bl))) (dss_nil)) (dss_cons (ds_set (i := 3) sc_is_window.nd (de_bi cd_len t.n_len (dq_cons (DE.q (DN.fz (dn_lc (own := [("one", 4)]) rfl rfl sc_is_window.nd (dj_seq (dq_var 2)) (blkOk_by (by kernel_rfl)) (fun _ _ _ _ _ => dg_name 4 sc_is_window.nd) (fun _ _ _ _ _ => by exact dts_one (dt_cmp od_lt (dq_var 4) (DE.q (de_int)))) (fun _ _ _ _ _ => by exact de_var 4)))) (dq_nil)))) (dss_one (ds_ret (de_if (dt_cmp (od_eq hr.units) (dq_var 0) (DE.q (de_str))) (de_cmp (od_eq hr.units) (dq_var 3) (DE.q (de_int))) (de_or (de_cmp (od_eq hr.units) (dq_var 0) (DE.q (de_str))) (de_one (de_cmp (od_eq hr.units) (DE.q (de_op od_mod (dq_var 3) (DE.q (de_int)))) (DE.q (de_int))))))))))))
abbrev N_plain_row : List Str := ["row", "one"]
theorem sc_plain_row : FnScope N_plain_row ["row"] (defScope s_plain_row) := ⟨rfl, rfl, rfl, by decide +kernel, rfl, by decide +kernel, by decide +kernel⟩
abbrev b_plain_row : DEnv → Md Fl := sRet (eL (eComp [1] (iSeq (qVar 0)) (gdName 1) (tYesD) (eN dAbs (eCons (qVar 1) (eNil)))))
@[irreducible] def F_plain_row : List D → Md D := runF 2 b_plain_row
theorem df_plain_row {P : Program} {w : World} {base : Heap} (t : TT K mg) : DF P w K mg base 1 t.f_plain_row t.fd_plain_row ["row"] F_plain_row := by
  unfold F_plain_row
  exact df_of t.F_plain_row sc_plain_row fun cdv A outer s H E C hW hr tk => (dss_one (ds_ret (DN.fz (dn_lc (own := [("one", 1)]) rfl rfl sc_plain_row.nd (dj_seq (dq_var 0)) (blkOk_by (by kernel_rfl)) (fun _ _ _ _ _ => dg_name 1 sc_plain_row.nd) (fun _ _ _ _ _ => by exact dts_nil) (fun _ _ _ _ _ => by exact de_bi cd_abs t.n_abs (dq_cons (dq_var 1) (dq_nil)))))))
abbrev N_signed_numbers : List Str := ["kind", "many", "upper", "one"]
theorem sc_signed_numbers : FnScope N_signed_numbers ["kind", "many"] (defScope s_signed_numbers) := ⟨rfl, rfl, rfl, by decide +kernel, rfl, by decide +kernel, by decide +kernel⟩
abbrev b_signed_numbers : DEnv → Md Fl := sSeq (sSet 2 (eL (eNN dList (eCons (eCall 2 (F_plain) (eCons (eVar 0) (eCons (eVar 1) (eNil)))) (eNil))))) (sRet (mIf (mB (eBin dEq (qVar 0) (eC (.str "A")))) (eVar 2) (eBin dAddF (eL (eComp [3] (iSeq (eUn dRevF (qVar 2))) (gdName 3) (tYesD) (eUn dNeg (eVar 3)))) (qVar 2))))
@[irreducible] def F_signed_numbers : List D → Md D := runF 4 b_signed_numbers
theorem df_signed_numbers {P : Program} {w : World} {base : Heap} (t : TT K mg) : DF P w K mg base 4 t.f_signed_numbers t.fd_signed_numbers ["kind", "many"] F_signed_numbers := by
  unfold F_signed_numbers
  exact df_of t.F_signed_numbers sc_signed_numbers fun cdv A outer s H E C hW hr tk => (dss_cons (ds_set (i := 2) sc_signed_numbers.nd (DN.fz (dn_ty cd_list t.n_list (dq_cons (DE.q (de_call (df_plain t) (hr.mono (by decide)) t.g_plain t.F_plain.kp t.b_plain tk (da_cons (de_var 0) (da_cons (de_var 1) (da_nil))))) (dq_nil))))) (dss_one (ds_ret (de_if (dt_cmp (od_eq hr.units) (dq_var 0) (DE.q (de_str))) (de_var 2) (de_op od_addF (DE.q (DN.fz (dn_lc (own := [("one", 3)]) rfl rfl sc_signed_numbers.nd (dj_seq (DE.q (de_rev (dq_var 2)))) (blkOk_by (by kernel_rfl)) (fun _ _ _ _ _ => dg_name 3 sc_signed_numbers.nd) (fun _ _ _ _ _ => by exact dts_nil) (fun _ _ _ _ _ => by exact de_negN (de_var 3))))) (dq_var 2))))))
abbrev N_all_windows : List Str := ["kind", "many", "rows", "_", "row", "one"]
theorem sc_all_windows : FnScope N_all_windows ["kind", "many"] (defScope s_all_windows) := ⟨rfl, rfl, rfl, by decide +kernel, rfl, by decide +kernel, by decide +kernel⟩
abbrev b_all_windows : DEnv → Md Fl := sSeq (sDrop (eCall 2 (F_look_at_kind) (eCons (eVar 0) (eCons (eVar 1) (eNil))))) (sSeq (sSet 2 (eL (eLst (eCons (eTup (eNil)) (eNil))))) (sSeq (sFor (iR1 (eCall 2 (F_size_of) (eCons (eVar 0) (eCons (eVar 1) (eNil))))) (gdName 3) (sSetN 2 (eComp2 [4, 5] (iSeq (qVar 2)) (gdName 4) (tYesD) (iSeq (eCall 2 (F_signed_numbers) (eCons (eVar 0) (eCons (eVar 1) (eNil))))) [5] (gdName 5) (mB (eBin dNotIn (eN dAbs (eCons (qVar 5) (eNil))) (eCall 1 (F_plain_row) (eCons (eVar 4) (eNil))))) (eBin dAddF (qVar 4) (eTup (eCons (eVar 5) (eNil))))))) (sRet (eN dTuple (eCons (eL (eComp [4] (iSeq (qVar 2)) (gdName 4) (mB (eCall 3 (F_is_window) (eCons (eVar 0) (eCons (eVar 1) (eCons (eVar 4) (eNil)))))) (eVar 4))) (eNil))))))
@[irreducible] def F_all_windows : List D → Md D := runF 6 b_all_windows
theorem df_all_windows {P : Program} {w : World} {base : Heap} (t : TT K mg) : DF P w K mg base 5 t.f_all_windows t.fd_all_windows ["kind", "many"] F_all_windows := by
  unfold F_all_windows
  exact df_of t.F_all_windows sc_all_windows fun cdv A outer s H E C hW hr tk => (dss_cons (ds_expr (de_call (df_look_at_kind t) (hr.mono (by decide)) t.g_look_at_kind t.F_look_at_kind.kp t.b_look_at_kind tk (da_cons (de_var 0) (da_cons (de_var 1) (da_nil))))) (dss_cons (ds_set (i := 2) sc_all_windows.nd (DN.fz (dn_lst (da_cons (de_tup (da_nil)) (da_nil))))) (dss_cons (ds_for (passes_of rfl) rfl (di_range1 t.n_range (de_call (df_size_of t) (hr.mono (by decide)) t.g_size_of t.F_size_of.kp t.b_size_of tk (da_cons (de_var 0) (da_cons (de_var 1) (da_nil))))) (dg_name 3 sc_all_windows.nd) (dss_one (ds_setLc2 (own := [("row", 4), ("one", 5)]) (vs1 := [5]) rfl rfl rfl sc_all_windows.nd (dj_seq (dq_var 2)) (blkOk_by (by kernel_rfl)) (go_name 4) (fun _ _ _ _ _ => dg_name 4 sc_all_windows.nd) (fun _ _ _ _ _ => by exact dts_nil) (fun _ _ _ _ _ => by exact di_seq (de_call (df_signed_numbers t) (hr.mono (by decide)) t.g_signed_numbers t.F_signed_numbers.kp t.b_signed_numbers takes0 (da_cons (de_var 0) (da_cons (de_var 1) (da_nil))))) (fun _ _ _ _ _ => dg_name 5 sc_all_windows.nd) (fun _ _ _ _ _ => by exact dts_one (dt_cmp (od_notIn (Room.u65 hr)) (DE.q (de_bi cd_abs t.n_abs (dq_cons (dq_var 5) (dq_nil)))) (DE.q (de_call (df_plain_row t) (hr.mono (by decide)) t.g_plain_row t.F_plain_row.kp t.b_plain_row takes0 (da_cons (de_var 4) (da_nil)))))) (fun _ _ _ _ _ => by exact de_op od_addF (dq_var 4) (DE.q (de_tup (da_cons (de_var 5) (da_nil))))) (sw_true rfl rfl rfl (by decide +kernel))))) (dss_one (ds_ret (de_ty cd_tuple t.n_tuple (dq_cons (DE.q (DN.fz (dn_lc (own := [("row", 4)]) rfl rfl sc_all_windows.nd (dj_seq (dq_var 2)) (blkOk_by (by kernel_rfl)) (fun _ _ _ _ _ => dg_name 4 sc_all_windows.nd) (fun _ _ _ _ _ => by exact dts_one (dt_val (de_call (df_is_window t) (hr.mono (by decide)) t.g_is_window t.F_is_window.kp t.b_is_window takes0 (da_cons (de_var 0) (da_cons (de_var 1) (da_cons (de_var 4) (da_nil))))))) (fun _ _ _ _ _ => by exact de_var 4)))) (dq_nil))))))))
abbrev N_falls : List Str := ["kind", "window", "mirror"]
theorem sc_falls : FnScope N_falls ["kind", "window", "mirror"] (defScope s_falls) := ⟨rfl, rfl, rfl, by decide +kernel, rfl, by decide +kernel, by decide +kernel⟩
abbrev b_falls : DEnv → Md Fl := sSeq (sIf (mB (eBin dEq (qVar 0) (eC (.str "A")))) (sRet (eBin dGt (eBin dIx (qVar 1) (qVar 2)) (eBin dIx (qVar 1) (eBin dAddF (qVar 2) (eC (.int 1)))))) (sNext)) (sSeq (sIf (mB (eBin dGt (qVar 2) (eC (.int 0)))) (sRet (eBin dGt (eBin dIx (qVar 1) (eBin dSub (qVar 2) (eC (.int 1)))) (eBin dIx (qVar 1) (qVar 2)))) (sNext)) (sRet (mIf (mB (eBin dEq (qVar 0) (eC (.str "B")))) (eBin dLt (eBin dIx (qVar 1) (eC (.int 0))) (eC (.int 0))) (eBin dLt (eBin dAddF (eBin dIx (qVar 1) (eC (.int 0))) (eBin dIx (qVar 1) (eC (.int 1)))) (eC (.int 0))))))
@[irreducible] def F_falls : List D → Md D := runF 3 b_falls
theorem df_falls {P : Program} {w : World} {base : Heap} (t : TT K mg) : DF P w K mg base 1 t.f_falls t.fd_falls ["kind", "window", "mirror"] F_falls := by
  unfold F_falls
  exact df_of t.F_falls sc_falls fun cdv A outer s H E C hW hr tk => (dss_cons (ds_if (dt_cmp (od_eq hr.units) (dq_var 0) (DE.q (de_str))) (dss_one (ds_ret (de_cmp od_gt (DE.q (de_ix (dq_var 1) (dq_var 2) (fun _ _ => rfl))) (DE.q (de_ix (dq_var 1) (DE.q (de_op od_addF (dq_var 2) (DE.q (de_int)))) (fun _ _ => rfl)))))) (dss_nil)) (dss_cons (ds_if (dt_cmp od_gt (dq_var 2) (DE.q (de_int))) (dss_one (ds_ret (de_cmp od_gt (DE.q (de_ix (dq_var 1) (DE.q (de_op od_sub (dq_var 2) (DE.q (de_int)))) (fun _ _ => rfl))) (DE.q (de_ix (dq_var 1) (dq_var 2) (fun _ _ => rfl)))))) (dss_nil)) (dss_one (ds_ret (de_if (dt_cmp (od_eq hr.units) (dq_var 0) (DE.q (de_str))) (de_cmp od_lt (DE.q (de_ix (dq_var 1) (DE.q (de_int)) (fun _ _ => rfl))) (DE.q (de_int))) (de_cmp od_lt (DE.q (de_op od_addF (DE.q (de_ix (dq_var 1) (DE.q (de_int)) (fun _ _ => rfl))) (DE.q (de_ix (dq_var 1) (DE.q (de_int)) (fun _ _ => rfl))))) (DE.q (de_int))))))))
abbrev N_look_at_window : List Str := ["kind", "many", "value"]
theorem sc_look_at_window : FnScope N_look_at_window ["kind", "many", "value"] (defScope s_look_at_window) := ⟨rfl, rfl, rfl, by decide +kernel, rfl, by decide +kernel, by decide +kernel⟩
abbrev b_look_at_window : DEnv → Md Fl := sIf (mNot (mB (eCall 3 (F_is_window) (eCons (eVar 0) (eCons (eVar 1) (eCons (eVar 2) (eNil))))))) (sRaise "BadWord") (sNext)
@[irreducible] def F_look_at_window : List D → Md D := runF 3 b_look_at_window
theorem df_look_at_window {P : Program} {w : World} {base : Heap} (t : TT K mg) : DF P w K mg base 5 t.f_look_at_window t.fd_look_at_window ["kind", "many", "value"] F_look_at_window := by
  unfold F_look_at_window
  exact df_of t.F_look_at_window sc_look_at_window fun cdv A outer s H E C hW hr tk => (dss_one (ds_if (dt_not (dt_val (de_call (df_is_window t) (hr.mono (by decide)) t.g_is_window t.F_is_window.kp t.b_is_window tk (da_cons (de_var 0) (da_cons (de_var 1) (da_cons (de_var 2) (da_nil))))))) (dss_one (ds_raise rfl tk t.g_BadWord (pmk_own PySem.F.excBase_ValueError t.x_BadWord t.g_BadWord t.k_BadWord (raises_own t.b_BadWord t.t_BadWord) rfl))) (dss_nil)))
abbrev N_ends_of : List Str := ["kind", "many", "window", "mirror"]
theorem sc_ends_of : FnScope N_ends_of ["kind", "many", "window"] (defScope s_ends_of) := ⟨rfl, rfl, rfl, by decide +kernel, rfl, by decide +kernel, by decide +kernel⟩
abbrev b_ends_of : DEnv → Md Fl := sSeq (sDrop (eCall 3 (F_look_at_window) (eCons (eVar 0) (eCons (eVar 1) (eCons (eVar 2) (eNil)))))) (sRet (eN dTuple (eCons (eL (eComp [3] (iR1 (eVar 1)) (gdName 3) (mB (eCall 3 (F_falls) (eCons (eVar 0) (eCons (eVar 2) (eCons (eVar 3) (eNil)))))) (eVar 3))) (eNil))))
@[irreducible] def F_ends_of : List D → Md D := runF 4 b_ends_of
theorem df_ends_of {P : Program} {w : World} {base : Heap} (t : TT K mg) : DF P w K mg base 6 t.f_ends_of t.fd_ends_of ["kind", "many", "window"] F_ends_of := by
  unfold F_ends_of
  exact df_of t.F_ends_of sc_ends_of fun cdv A outer s H E C hW hr tk => (dss_cons (ds_expr (de_call (df_look_at_window t) (hr.mono (by decide)) t.g_look_at_window t.F_look_at_window.kp t.b_look_at_window tk (da_cons (de_var 0) (da_cons (de_var 1) (da_cons (de_var 2) (da_nil)))))) (dss_one (ds_ret (de_ty cd_tuple t.n_tuple (dq_cons (DE.q (DN.fz (dn_lc (own := [("mirror", 3)]) rfl rfl sc_ends_of.nd (DI.j (di_range1 t.n_range (de_var 1))) (blkOk_by (by kernel_rfl)) (fun _ _ _ _ _ => dg_name 3 sc_ends_of.nd) (fun _ _ _ _ _ => by exact dts_one (dt_val (de_call (df_falls t) (hr.mono (by decide)) t.g_falls t.F_falls.kp t.b_falls takes0 (da_cons (de_var 0) (da_cons (de_var 2) (da_cons (de_var 3) (da_nil))))))) (fun _ _ _ _ _ => by exact de_var 3)))) (dq_nil))))))
abbrev N_turned_back : List Str := ["window", "found", "at", "one"]
theorem sc_turned_back : FnScope N_turned_back ["window"] (defScope s_turned_back) := ⟨rfl, rfl, rfl, by decide +kernel, rfl, by decide +kernel, by decide +kernel⟩
abbrev b_turned_back : DEnv → Md Fl := sSeq (sSetN 1 (eBinN dRepL (eL (eLst (eCons (eC (.int 0)) (eNil)))) (eN dLen (eCons (qVar 0) (eNil))))) (sSeq (sFor (iEn (eVar 0)) (gdTup 2 (gdCons (gdName 2) (gdCons (gdName 3) (gdNil)))) (sAsgM (gmSub 1 (eBin dSub (eN dAbs (eCons (qVar 3) (eNil))) (eC (.int 1)))) (mIf (mB (eBin dGt (qVar 3) (eC (.int 0)))) (eBin dAddF (qVar 2) (eC (.int 1))) (eBin dSub (eUn dNeg (eVar 2)) (eC (.int 1)))))) (sRet (eN dTuple (eCons (qVar 1) (eNil)))))
@[irreducible] def F_turned_back : List D → Md D := runF 4 b_turned_back
theorem df_turned_back {P : Program} {w : World} {base : Heap} (t : TT K mg) : DF P w K mg base 1 t.f_turned_back t.fd_turned_back ["window"] F_turned_back := by
  unfold F_turned_back
  exact df_of t.F_turned_back sc_turned_back fun cdv A outer s H E C hW hr tk => (dss_cons (ds_setN (i := 1) sc_turned_back.nd (dn_op od_repL (DE.q (DN.fz (dn_lst (da_cons (de_int) (da_nil))))) (DE.q (de_bi cd_len t.n_len (dq_cons (dq_var 0) (dq_nil)))))) (dss_cons (ds_for (passes_of rfl) rfl (di_enum t.n_enumerate (de_var 0)) (dg_tup rfl (dgs_cons (dg_name 2 sc_turned_back.nd) (dgs_cons (dg_name 3 sc_turned_back.nd) (dgs_nil)))) (dss_one (ds_asgM (de_if (dt_cmp od_gt (dq_var 3) (DE.q (de_int))) (de_op od_addF (dq_var 2) (DE.q (de_int))) (de_op od_sub (DE.q (de_negN (de_var 2))) (DE.q (de_int)))) (dm_sub 1 (de_op od_sub (DE.q (de_bi cd_abs t.n_abs (dq_cons (dq_var 3) (dq_nil)))) (DE.q (de_int))))))) (dss_one (ds_ret (de_ty cd_tuple t.n_tuple (dq_cons (dq_var 1) (dq_nil)))))))
abbrev N_beginnings_of : List Str := ["kind", "many", "window"]
theorem sc_beginnings_of : FnScope N_beginnings_of ["kind", "many", "window"] (defScope s_beginnings_of) := ⟨rfl, rfl, rfl, by decide +kernel, rfl, by decide +kernel, by decide +kernel⟩
abbrev b_beginnings_of : DEnv → Md Fl := sSeq (sDrop (eCall 3 (F_look_at_window) (eCons (eVar 0) (eCons (eVar 1) (eCons (eVar 2) (eNil)))))) (sRet (eCall 3 (F_ends_of) (eCons (eVar 0) (eCons (eVar 1) (eCons (eCall 1 (F_turned_back) (eCons (eVar 2) (eNil))) (eNil))))))
@[irreducible] def F_beginnings_of : List D → Md D := runF 3 b_beginnings_of
theorem df_beginnings_of {P : Program} {w : World} {base : Heap} (t : TT K mg) : DF P w K mg base 7 t.f_beginnings_of t.fd_beginnings_of ["kind", "many", "window"] F_beginnings_of := by
  unfold F_beginnings_of
  exact df_of t.F_beginnings_of sc_beginnings_of fun cdv A outer s H E C hW hr tk => (dss_cons (ds_expr (de_call (df_look_at_window t) (hr.mono (by decide)) t.g_look_at_window t.F_look_at_window.kp t.b_look_at_window tk (da_cons (de_var 0) (da_cons (de_var 1) (da_cons (de_var 2) (da_nil)))))) (dss_one (ds_ret (de_call (df_ends_of t) (hr.mono (by decide)) t.g_ends_of t.F_ends_of.kp t.b_ends_of tk (da_cons (de_var 0) (da_cons (de_var 1) (da_cons (de_call (df_turned_back t) (hr.mono (by decide)) t.g_turned_back t.F_turned_back.kp t.b_turned_back tk (da_cons (de_var 2) (da_nil))) (da_nil))))))))
abbrev N_pairs_out_of_order : List Str := ["window", "found", "at", "one", "other"]
theorem sc_pairs_out_of_order : FnScope N_pairs_out_of_order ["window"] (defScope s_pairs_out_of_order) := ⟨rfl, rfl, rfl, by decide +kernel, rfl, by decide +kernel, by decide +kernel⟩
abbrev b_pairs_out_of_order : DEnv → Md Fl := sSeq (sSet 1 (eC (.int 0))) (sSeq (sFor (iEn (eVar 0)) (gdTup 2 (gdCons (gdName 2) (gdCons (gdName 3) (gdNil)))) (sAug 1 dAddI (eN dLen (eCons (eL (eComp [4] (iSeq (eSl (qVar 0) (oSome (eBin dAddF (qVar 2) (eC (.int 1)))) (oNone))) (gdName 4) (mB (eBin dLt (qVar 4) (qVar 3))) (eVar 4))) (eNil))))) (sRet (eVar 1)))
@[irreducible] def F_pairs_out_of_order : List D → Md D := runF 5 b_pairs_out_of_order
theorem df_pairs_out_of_order {P : Program} {w : World} {base : Heap} (t : TT K mg) : DF P w K mg base 1 t.f_pairs_out_of_order t.fd_pairs_out_of_order ["window"] F_pairs_out_of_order := by
  unfold F_pairs_out_of_order
  exact df_of t.F_pairs_out_of_order sc_pairs_out_of_order fun cdv A outer s H E C hW hr tk => (dss_cons (ds_set (i := 1) sc_pairs_out_of_order.nd (de_int)) (dss_cons (ds_for (passes_of rfl) rfl (di_enum t.n_enumerate (de_var 0)) (dg_tup rfl (dgs_cons (dg_name 2 sc_pairs_out_of_order.nd) (dgs_cons (dg_name 3 sc_pairs_out_of_order.nd) (dgs_nil)))) (dss_one (ds_augI (i := 1) sc_pairs_out_of_order.nd (de_bi cd_len t.n_len (dq_cons (DE.q (DN.fz (dn_lc (own := [("other", 4)]) rfl rfl sc_pairs_out_of_order.nd (dj_seq (DE.q (de_sl (dq_var 0) (do_some (de_op od_addF (dq_var 2) (DE.q (de_int)))) (do_none)))) (blkOk_by (by kernel_rfl)) (fun _ _ _ _ _ => dg_name 4 sc_pairs_out_of_order.nd) (fun _ _ _ _ _ => by exact dts_one (dt_cmp od_lt (dq_var 4) (dq_var 3))) (fun _ _ _ _ _ => by exact de_var 4)))) (dq_nil))) ip_add dAddI_int))) (dss_one (ds_ret (de_var 1)))))
abbrev N_length_of : List Str := ["kind", "many", "window", "below", "one"]
theorem sc_length_of : FnScope N_length_of ["kind", "many", "window"] (defScope s_length_of) := ⟨rfl, rfl, rfl, by decide +kernel, rfl, by decide +kernel, by decide +kernel⟩
abbrev b_length_of : DEnv → Md Fl := sSeq (sDrop (eCall 3 (F_look_at_window) (eCons (eVar 0) (eCons (eVar 1) (eCons (eVar 2) (eNil)))))) (sSeq (sSetN 3 (eComp [4] (iSeq (qVar 2)) (gdName 4) (mB (eBin dLt (qVar 4) (eC (.int 0)))) (eVar 4))) (sSeq (sIf (mB (eBin dEq (qVar 0) (eC (.str "A")))) (sRet (eCall 1 (F_pairs_out_of_order) (eCons (eVar 2) (eNil)))) (sNext)) (sRet (eBin dSub (eBin dSub (eCall 1 (F_pairs_out_of_order) (eCons (eVar 2) (eNil))) (eN dSum (eCons (qVar 3) (eNil)))) (mIf (mB (eBin dEq (qVar 0) (eC (.str "D")))) (eN dLen (eCons (qVar 3) (eNil))) (eC (.int 0)))))))
@[irreducible] def F_length_of : List D → Md D := runF 5 b_length_of
theorem df_length_of {P : Program} {w : World} {base : Heap} (t : TT K mg) : DF P w K mg base 6 t.f_length_of t.fd_length_of ["kind", "many", "window"] F_length_of := by
  unfold F_length_of
  exact df_of t.F_length_of sc_length_of fun cdv A outer s H E C hW hr tk => (dss_cons (ds_expr (de_call (df_look_at_window t) (hr.mono (by decide)) t.g_look_at_window t.F_look_at_window.kp t.b_look_at_window tk (da_cons (de_var 0) (da_cons (de_var 1) (da_cons (de_var 2) (da_nil)))))) (dss_cons (ds_setLc (own := [("one", 4)]) rfl rfl sc_length_of.nd (dj_seq (dq_var 2)) (blkOk_by (by kernel_rfl)) (fun _ _ _ _ _ => dg_name 4 sc_length_of.nd) (fun _ _ _ _ _ => by exact dts_one (dt_cmp od_lt (dq_var 4) (DE.q (de_int)))) (fun _ _ _ _ _ => by exact de_var 4) (sw_true rfl rfl rfl (by decide +kernel))) (dss_cons (ds_if (dt_cmp (od_eq hr.units) (dq_var 0) (DE.q (de_str))) (dss_one (ds_ret (de_call (df_pairs_out_of_order t) (hr.mono (by decide)) t.g_pairs_out_of_order t.F_pairs_out_of_order.kp t.b_pairs_out_of_order tk (da_cons (de_var 2) (da_nil))))) (dss_nil)) (dss_one (ds_ret (de_op od_sub (DE.q (de_op od_sub (DE.q (de_call (df_pairs_out_of_order t) (hr.mono (by decide)) t.g_pairs_out_of_order t.F_pairs_out_of_order.kp t.b_pairs_out_of_order tk (da_cons (de_var 2) (da_nil)))) (DE.q (de_bi (cd_sum rfl) t.n_sum (dq_cons (dq_var 3) (dq_nil)))))) (DE.q (de_if (dt_cmp (od_eq hr.units) (dq_var 0) (DE.q (de_str))) (de_bi cd_len t.n_len (dq_cons (dq_var 3) (dq_nil))) (de_int)))))))))
abbrev N_is_edge : List Str := ["value", "size", "one"]
theorem sc_is_edge : FnScope N_is_edge ["value", "size"] (defScope s_is_edge) := ⟨rfl, rfl, rfl, by decide +kernel, rfl, by decide +kernel, by decide +kernel⟩
abbrev b_is_edge : DEnv → Md Fl := sSeq (sIf (mOr (mNot (mB (eUn (dIsi "tuple") (qVar 0)))) (mOr (mB (eBin dNe (eN dLen (eCons (qVar 0) (eNil))) (eC (.int 3)))) (mNot (mB (eN dAll (eCons (eL (eComp [2] (iSeq (qVar 0)) (gdName 2) (tYesD) (eCall 1 (F_is_integer) (eCons (eVar 2) (eNil))))) (eNil))))))) (sRet (eC (.bl false))) (sNext)) (sRet (eAndV (eChain3 dLe dLt dLt (eC (.int 0)) (eBin dIx (qVar 0) (eC (.int 0))) (eBin dIx (qVar 0) (eC (.int 1))) (qVar 1)) (eBin dIn (eBin dIx (qVar 0) (eC (.int 2))) (eC (.tup [(.int 0), (.int 3), (.int 4), (.int 5), (.int 6)])))))
@[irreducible] def F_is_edge : List D → Md D := runF 3 b_is_edge
theorem df_is_edge {P : Program} {w : World} {base : Heap} (t : TT K mg) : DF P w K mg base 2 t.f_is_edge t.fd_is_edge ["value", "size"] F_is_edge := by
  unfold F_is_edge
  exact df_of t.F_is_edge sc_is_edge fun cdv A outer s H E C hW hr tk => (dss_cons (ds_if (PW.pt (dw_or (dt_not (dt_val (de_isi (by decide) (dq_var 0) t.n_isinstance t.n_tuple))) (dw_or (dt_cmp (od_ne hr.units) (DE.q (de_bi cd_len t.n_len (dq_cons (dq_var 0) (dq_nil)))) (DE.q (de_int))) (dw_or1 (dt_not (dt_val (de_bi (cd_all rfl) t.n_all (dq_cons (DE.q (DN.fz (dn_lc (own := [("one", 2)]) rfl rfl sc_is_edge.nd (dj_seq (dq_var 0)) (blkOk_by (by kernel_rfl)) (fun _ _ _ _ _ => dg_name 2 sc_is_edge.nd) (fun _ _ _ _ _ => by exact dts_nil) (fun _ _ _ _ _ => by exact de_call (df_is_integer t) (hr.mono (by decide)) t.g_is_integer t.F_is_integer.kp t.b_is_integer takes0 (da_cons (de_var 2) (da_nil)))))) (dq_nil))))))))) (dss_one (ds_ret (de_bl))) (dss_nil)) (dss_one (ds_ret (de_and (de_chain3 od_le od_lt od_lt (DE.q (de_int)) (DE.q (de_ix (dq_var 0) (DE.q (de_int)) (fun _ _ => rfl))) (DE.q (de_ix (dq_var 0) (DE.q (de_int)) (fun _ _ => rfl))) (dq_var 1)) (de_one (de_cmp (od_in (Room.u65 hr)) (DE.q (de_ix (dq_var 0) (DE.q (de_int)) (fun _ _ => rfl))) (DE.q (de_glob t.c_LABELS))))))))
abbrev N_Diagram___init : List Str := ["self", "size", "edges", "edge"]
theorem sc_Diagram___init : FnScope N_Diagram___init ["self", "size", "edges"] (defScope s_Diagram___init) := ⟨rfl, rfl, rfl, by decide +kernel, rfl, by decide +kernel, by decide +kernel⟩
def tD1 : DEnv → Md Bool := mOr (mNot (mB (eCall 1 (F_is_integer) (eCons (eVar 1) (eNil))))) (mOr (mNot (mB (eChain dLe dLe (eC (.int 0)) (qVar 1) (eC (.int 9))))) (mNot (mB (eUn (dIsi "tuple") (qVar 2)))))
def tD2 : DEnv → Md Bool := mNot (mB (eCall 2 (F_is_edge) (eCons (eVar 3) (eCons (eVar 1) (eNil)))))
theorem tD1_no {n : Int} {es : List D} (h0 : 0 ≤ n) (h9 : n ≤ 9) : tD1 [.un, .val (.int n), .val (.tup es), .un] none = .ok false none := by
  unfold tD1
  unfold F_is_integer
  have e0 : decide (0 ≤ n) = true := decide_eq_true h0
  have e9 : decide (n ≤ 9) = true := decide_eq_true h9
  simp [mbind_eq, mpure_eq, mofO_some, mofO_none, rbind_ok, rbind_err, rbind_stuck, bindS_eq, rbindS_ok, callR_ok, eCall_eq, runF, startD, eVar, qVar, eC, mIfN, eBin, eUn, eCons, eNil, eTup, eLst, eL, eN, eNN, eBinN, mB, mD, mAnd, mOr, mNot, mIf, eAndV, eOrV, eNot, eChain, eChain3, eSl, oNone, oSome, sSeq, Fl.then, sNext, sDrop, sRet, sRetN, sIf, sSet, sSetN, sFz, fz, sAsg, sPar, sAug, sApp, sExt, sAsgM, gmName, gmSub, gmNil, gmCons, gmTup, gdName, gdNil, gdCons, gdTup, iSeq, seqD, iL, iT, iListD, iTupD, iR1, iR2, eRg, rgD, sFor, wipeD, tYesD, dAddF, dSub, dMulF, dDiv, dMod, dLt, dLe, dGt, dGe, dNeg, dIx, atI, ixN, dSl, dRevF, dLen, dTuple, dList, dAbs, dInt, dEq, dNe, dEqB_int, dEqB_str, dEqB_bl, dIs, dIsN, dIn, dNotIn, dIsi, tyName, isT, eComp, compA, ite_md, ite_rbind, lim, e0, e9]
theorem tD2_no {n : Int} {es : List D} {x : Edge} (h : okEdge n x = true) : tD2 [.un, .val (.int n), .val (.tup es), .val (edD x)] none = .ok false none := by
  obtain ⟨a, b, c⟩ := x
  unfold okEdge at h
  simp only [Bool.and_eq_true, Bool.or_eq_true, decide_eq_true_eq, beq_iff_eq] at h
  obtain ⟨⟨⟨h1, h2⟩, h3⟩, h4⟩ := h
  unfold tD2
  unfold F_is_edge
  have e1 : decide (0 ≤ a) = true := decide_eq_true h1
  have e2 : decide (a < b) = true := decide_eq_true h2
  have e3 : decide (b < n) = true := decide_eq_true h3
  have i1 : ∀ k : Int, F_is_integer [.int k] none = .ok (.bl true) none := fun k => by
    unfold F_is_integer
    simp [mbind_eq, mpure_eq, mofO_some, mofO_none, rbind_ok, rbind_err, rbind_stuck, bindS_eq, rbindS_ok, callR_ok, eCall_eq, runF, startD, eVar, qVar, eC, mIfN, eBin, eUn, eCons, eNil, eTup, eLst, eL, eN, eNN, eBinN, mB, mD, mAnd, mOr, mNot, mIf, eAndV, eOrV, eNot, eChain, eChain3, eSl, oNone, oSome, sSeq, Fl.then, sNext, sDrop, sRet, sRetN, sIf, sSet, sSetN, sFz, fz, sAsg, sPar, sAug, sApp, sExt, sAsgM, gmName, gmSub, gmNil, gmCons, gmTup, gdName, gdNil, gdCons, gdTup, iSeq, seqD, iL, iT, iListD, iTupD, iR1, iR2, eRg, rgD, sFor, wipeD, tYesD, dAddF, dSub, dMulF, dDiv, dMod, dLt, dLe, dGt, dGe, dNeg, dIx, atI, ixN, dSl, dRevF, dLen, dTuple, dList, dAbs, dInt, dEq, dNe, dEqB_int, dEqB_str, dEqB_bl, dIs, dIsN, dIn, dNotIn, dIsi, tyName, isT, eComp, compA, ite_md, ite_rbind, lim]
  rcases h4 with (((rfl | rfl) | rfl) | rfl) | rfl <;> simp [mbind_eq, mpure_eq, mofO_some, mofO_none, rbind_ok, rbind_err, rbind_stuck, bindS_eq, rbindS_ok, callR_ok, eCall_eq, runF, startD, eVar, qVar, eC, mIfN, eBin, eUn, eCons, eNil, eTup, eLst, eL, eN, eNN, eBinN, mB, mD, mAnd, mOr, mNot, mIf, eAndV, eOrV, eNot, eChain, eChain3, eSl, oNone, oSome, sSeq, Fl.then, sNext, sDrop, sRet, sRetN, sIf, sSet, sSetN, sFz, fz, sAsg, sPar, sAug, sApp, sExt, sAsgM, gmName, gmSub, gmNil, gmCons, gmTup, gdName, gdNil, gdCons, gdTup, iSeq, seqD, iL, iT, iListD, iTupD, iR1, iR2, eRg, rgD, sFor, wipeD, tYesD, dAddF, dSub, dMulF, dDiv, dMod, dLt, dLe, dGt, dGe, dNeg, dIx, atI, ixN, dSl, dRevF, dLen, dTuple, dList, dAbs, dInt, dEq, dNe, dEqB_int, dEqB_str, dEqB_bl, dIs, dIsN, dIn, dNotIn, dIsi, tyName, isT, eComp, compA, ite_md, ite_rbind, lim, edD, i1, e1, e2, e3, dAll, asBls, dInB, PyData.eqv, toPys, toPy]
theorem ok_Diagram___init {P : Program} {w : World} {base : Heap} (t : TT K mg) : FnOk P w K mg base (L2.CX P w) 3 t.f_Diagram___init t.fd_Diagram___init ["self", "size", "edges"] (spDiag K mg t.C_Diagram) := by
  refine t.F_Diagram___init.okX sc_Diagram___init (fun vs H Q E h => by obtain ⟨x, dx, F, n, v, l, rfl, _⟩ := h; rfl) (fun cdv A outer s H vs Q E hr h => ?_)
  obtain ⟨x, dx, F, n, v, l, rfl, hx, lF, nx, rv, ok, q⟩ := h
  have tk0 : Takes (cxOf (L2.CX P w) P w K mg base N_Diagram___init "Diagram.__init__" (defScope s_Diagram___init) t.f_Diagram___init cdv A outer s H E) (fun cls d _ H => E cls d H) := takes_of rfl rfl rfl rfl
  have nd := sc_Diagram___init.nd
  refine ⟨_, pss_cons (ps_if (PT.any (f := tD1) (W := fun cls d _ H => E cls d H) fun C hC => by
      have tk : Takes (cxOf (L2.CX P w) P w K mg base N_Diagram___init "Diagram.__init__" (defScope s_Diagram___init) t.f_Diagram___init cdv A outer s H E) C.W := by rw [hC]; exact tk0
      exact PW.pt (dw_or (dt_not (dt_val (de_call (df_is_integer t) (hr.mono (by decide)) t.g_is_integer t.F_is_integer.kp t.b_is_integer tk (da_cons (de_var 1) (da_nil))))) (dw_or (dt_not (dt_chain od_le od_le (DE.q (de_int)) (dq_var 1) (DE.q (de_glob t.c_MOST_MIRRORS)))) (dw_or1 (dt_not (dt_val (de_isi (by decide) (dq_var 2) t.n_isinstance t.n_tuple))))))) pss_never pss_nil)
    (pss_cons (ps_fld (pv 0) pe_dnewT rfl)
    (pss_cons (ps_for (passes_of rfl) rfl (pi_tup (pv 2)) (pg_name (i := 3) nd rfl (.inl rfl))
      (pss_cons (ps_if (PW.pt (pw_or (PT.any (f := tD2) (W := fun cls d _ H => E cls d H) fun C hC => by
      have tk : Takes (cxOf (L2.CX P w) P w K mg base N_Diagram___init "Diagram.__init__" (defScope s_Diagram___init) t.f_Diagram___init cdv A outer s H E) C.W := by rw [hC]; exact tk0
      exact dt_not (dt_val (de_call (df_is_edge t) (hr.mono (by decide)) t.g_is_edge t.F_is_edge.kp t.b_is_edge tk (da_cons (de_var 3) (da_cons (de_var 1) (da_nil)))))) (pw_or1 (pt_cmp (pc_din (Room.u1 hr) (pe_slice sl_tupA (pv 3) po_none (po_some pe_int)) (pe_fld (pv 0) rfl)) rfl)))) pss_never pss_nil)
      (pss_one (ps_dput (Room.u1 hr) (pe_fld (pv 0) rfl) (pe_slice sl_tupA (pv 3) po_none (po_some pe_int)) (pe_ix ix_tup (pv 3) pe_int (fun _ _ => rfl)) rfl))))
    (pss_one (ps_fld (pv 0) (pv 1) rfl)))), ?_⟩
  exact diag_read (f1 := tD1) (f2 := tD2) t.cl_Diagram t.na_Diagram_labels t.na_Diagram_size hx lF nx rv ok (fun h0 h9 => tD1_no h0 h9) (fun e he => tD2_no he) q
abbrev N_line_diagram : List Str := ["kind", "many", "edges", "k"]
theorem sc_line_diagram : FnScope N_line_diagram ["kind", "many"] (defScope s_line_diagram) := ⟨rfl, rfl, rfl, by decide +kernel, rfl, by decide +kernel, by decide +kernel⟩
abbrev b_line_diagram : DEnv → Md Fl := sSeq (sDrop (eCall 2 (F_look_at_kind) (eCons (eVar 0) (eCons (eVar 1) (eNil))))) (sSeq (sIf (mB (eBin dEq (qVar 0) (eC (.str "A")))) (sRet (eDiag (eCons (eVar 1) (eCons (eN dTuple (eCons (eL (eComp [3] (iR1 (eBin dSub (qVar 1) (eC (.int 1)))) (gdName 3) (tYesD) (eTup (eCons (eVar 3) (eCons (eBin dAddF (qVar 3) (eC (.int 1))) (eCons (eC (.int 3)) (eNil))))))) (eNil))) (eNil))))) (sNext)) (sSeq (sSetN 2 (mIfN (mB (eBin dEq (qVar 0) (eC (.str "B")))) (eLst (eCons (eTup (eCons (eC (.int 0)) (eCons (eC (.int 1)) (eCons (eC (.int 4)) (eNil))))) (eNil))) (mIfN (mB (eBin dGt (qVar 1) (eC (.int 2)))) (eLst (eCons (eTup (eCons (eC (.int 0)) (eCons (eC (.int 2)) (eCons (eC (.int 3)) (eNil))))) (eNil))) (eLst (eNil))))) (sSeq (sExt 2 (eL (eComp [3] (iR2 (eC (.int 1)) (eBin dSub (qVar 1) (eC (.int 1)))) (gdName 3) (tYesD) (eTup (eCons (eVar 3) (eCons (eBin dAddF (qVar 3) (eC (.int 1))) (eCons (eC (.int 3)) (eNil)))))))) (sRet (eDiag (eCons (eVar 1) (eCons (eN dTuple (eCons (qVar 2) (eNil))) (eNil))))))))
@[irreducible] def F_line_diagram : List D → Md D := runF 4 b_line_diagram
theorem df_line_diagram {P : Program} {w : World} {base : Heap} (t : TT K mg) : DF P w K mg base 5 t.f_line_diagram t.fd_line_diagram ["kind", "many"] F_line_diagram := by
  unfold F_line_diagram
  exact df_of t.F_line_diagram sc_line_diagram fun cdv A outer s H E C hW hr tk => (dss_cons (ds_expr (de_call (df_look_at_kind t) (hr.mono (by decide)) t.g_look_at_kind t.F_look_at_kind.kp t.b_look_at_kind tk (da_cons (de_var 0) (da_cons (de_var 1) (da_nil))))) (dss_cons (ds_if (dt_cmp (od_eq hr.units) (dq_var 0) (DE.q (de_str))) (dss_one (ds_ret (de_Diag t.mk_Diagram (ok_Diagram___init t) (hr.mono (by decide)) t.g_Diagram t.b_Diagram___init (da_cons (de_var 1) (da_cons (de_ty cd_tuple t.n_tuple (dq_cons (DE.q (DN.fz (dn_lc (own := [("k", 3)]) rfl rfl sc_line_diagram.nd (DI.j (di_range1 t.n_range (de_op od_sub (dq_var 1) (DE.q (de_int))))) (blkOk_by (by kernel_rfl)) (fun _ _ _ _ _ => dg_name 3 sc_line_diagram.nd) (fun _ _ _ _ _ => by exact dts_nil) (fun _ _ _ _ _ => by exact de_tup (da_cons (de_var 3) (da_cons (de_op od_addF (dq_var 3) (DE.q (de_int))) (da_cons (de_int) (da_nil)))))))) (dq_nil))) (da_nil)))))) (dss_nil)) (dss_cons (ds_setN (i := 2) sc_line_diagram.nd (dn_if (dt_cmp (od_eq hr.units) (dq_var 0) (DE.q (de_str))) (dn_lst (da_cons (de_tup (da_cons (de_int) (da_cons (de_int) (da_cons (de_int) (da_nil))))) (da_nil))) (dn_if (dt_cmp od_gt (dq_var 1) (DE.q (de_int))) (dn_lst (da_cons (de_tup (da_cons (de_int) (da_cons (de_int) (da_cons (de_int) (da_nil))))) (da_nil))) (dn_lst (da_nil))))) (dss_cons (ds_ext 2 (DN.fz (dn_lc (own := [("k", 3)]) rfl rfl sc_line_diagram.nd (DI.j (di_range2 t.n_range (de_int) (de_op od_sub (dq_var 1) (DE.q (de_int))))) (blkOk_by (by kernel_rfl)) (fun _ _ _ _ _ => dg_name 3 sc_line_diagram.nd) (fun _ _ _ _ _ => by exact dts_nil) (fun _ _ _ _ _ => by exact de_tup (da_cons (de_var 3) (da_cons (de_op od_addF (dq_var 3) (DE.q (de_int))) (da_cons (de_int) (da_nil)))))))) (dss_one (ds_ret (de_Diag t.mk_Diagram (ok_Diagram___init t) (hr.mono (by decide)) t.g_Diagram t.b_Diagram___init (da_cons (de_var 1) (da_cons (de_ty cd_tuple t.n_tuple (dq_cons (dq_var 2) (dq_nil))) (da_nil))))))))))
abbrev N_is_word : List Str := ["diagram", "value", "one"]
theorem sc_is_word : FnScope N_is_word ["diagram", "value"] (defScope s_is_word) := ⟨rfl, rfl, rfl, by decide +kernel, rfl, by decide +kernel, by decide +kernel⟩
abbrev b_is_word : DEnv → Md Fl := sSeq (sIf (mOr (mNot (mB (eUn (dIsi "tuple") (qVar 1)))) (mB (eBin dGt (eN dLen (eCons (qVar 1) (eNil))) (eC (.int 400))))) (sRet (eC (.bl false))) (sNext)) (sRet (eN dAll (eCons (eL (eComp [2] (iSeq (qVar 1)) (gdName 2) (tYesD) (eAndV (eCall 1 (F_is_integer) (eCons (eVar 2) (eNil))) (eChain dLe dLt (eC (.int 0)) (qVar 2) (eUn (dFld "Diagram" "size") (eVar 0)))))) (eNil))))
@[irreducible] def F_is_word : List D → Md D := runF 3 b_is_word
theorem df_is_word {P : Program} {w : World} {base : Heap} (t : TT K mg) : DF P w K mg base 2 t.f_is_word t.fd_is_word ["diagram", "value"] F_is_word := by
  unfold F_is_word
  exact df_of t.F_is_word sc_is_word fun cdv A outer s H E C hW hr tk => (dss_cons (ds_if (PW.pt (dw_or (dt_not (dt_val (de_isi (by decide) (dq_var 1) t.n_isinstance t.n_tuple))) (dw_or1 (dt_cmp od_gt (DE.q (de_bi cd_len t.n_len (dq_cons (dq_var 1) (dq_nil)))) (DE.q (de_glob t.c_MOST_LETTERS)))))) (dss_one (ds_ret (de_bl))) (dss_nil)) (dss_one (ds_ret (de_bi (cd_all rfl) t.n_all (dq_cons (DE.q (DN.fz (dn_lc (own := [("one", 2)]) rfl rfl sc_is_word.nd (dj_seq (dq_var 1)) (blkOk_by (by kernel_rfl)) (fun _ _ _ _ _ => dg_name 2 sc_is_word.nd) (fun _ _ _ _ _ => by exact dts_nil) (fun _ _ _ _ _ => by exact de_and (de_call (df_is_integer t) (hr.mono (by decide)) t.g_is_integer t.F_is_integer.kp t.b_is_integer takes0 (da_cons (de_var 2) (da_nil))) (de_one (de_chain od_le od_lt (DE.q (de_int)) (dq_var 2) (DE.q (de_fld t.g_Diagram t.cl_Diagram t.na_Diagram_size (de_var 0))))))))) (dq_nil))))))
abbrev N_look_at_word : List Str := ["diagram", "value"]
theorem sc_look_at_word : FnScope N_look_at_word ["diagram", "value"] (defScope s_look_at_word) := ⟨rfl, rfl, rfl, by decide +kernel, rfl, by decide +kernel, by decide +kernel⟩
abbrev b_look_at_word : DEnv → Md Fl := sIf (mNot (mB (eCall 2 (F_is_word) (eCons (eVar 0) (eCons (eVar 1) (eNil)))))) (sRaise "BadWord") (sNext)
@[irreducible] def F_look_at_word : List D → Md D := runF 2 b_look_at_word
theorem df_look_at_word {P : Program} {w : World} {base : Heap} (t : TT K mg) : DF P w K mg base 3 t.f_look_at_word t.fd_look_at_word ["diagram", "value"] F_look_at_word := by
  unfold F_look_at_word
  exact df_of t.F_look_at_word sc_look_at_word fun cdv A outer s H E C hW hr tk => (dss_one (ds_if (dt_not (dt_val (de_call (df_is_word t) (hr.mono (by decide)) t.g_is_word t.F_is_word.kp t.b_is_word tk (da_cons (de_var 0) (da_cons (de_var 1) (da_nil)))))) (dss_one (ds_raise rfl tk t.g_BadWord (pmk_own PySem.F.excBase_ValueError t.x_BadWord t.g_BadWord t.k_BadWord (raises_own t.b_BadWord t.t_BadWord) rfl))) (dss_nil)))
abbrev N_stepped : List Str := ["kind", "window", "mirror", "at"]
theorem sc_stepped : FnScope N_stepped ["kind", "window", "mirror"] (defScope s_stepped) := ⟨rfl, rfl, rfl, by decide +kernel, rfl, by decide +kernel, by decide +kernel⟩
abbrev b_stepped : DEnv → Md Fl := sSeq (sIf (mOr (mB (eBin dEq (qVar 0) (eC (.str "A")))) (mB (eBin dGt (qVar 2) (eC (.int 0))))) (sSeq (sSet 3 (mIf (mB (eBin dEq (qVar 0) (eC (.str "A")))) (eVar 2) (eBin dSub (qVar 2) (eC (.int 1))))) (sRet (eBin dAddF (eBin dAddF (eSl (qVar 1) (oNone) (oSome (eVar 3))) (eTup (eCons (eBin dIx (qVar 1) (eBin dAddF (qVar 3) (eC (.int 1)))) (eCons (eBin dIx (qVar 1) (qVar 3)) (eNil))))) (eSl (qVar 1) (oSome (eBin dAddF (qVar 3) (eC (.int 2)))) (oNone))))) (sNext)) (sSeq (sIf (mB (eBin dEq (qVar 0) (eC (.str "B")))) (sRet (eBin dAddF (eTup (eCons (eUn dNeg (eBin dIx (qVar 1) (eC (.int 0)))) (eNil))) (eSl (qVar 1) (oSome (eC (.int 1))) (oNone)))) (sNext)) (sRet (eBin dAddF (eTup (eCons (eUn dNeg (eBin dIx (qVar 1) (eC (.int 1)))) (eCons (eUn dNeg (eBin dIx (qVar 1) (eC (.int 0)))) (eNil)))) (eSl (qVar 1) (oSome (eC (.int 2))) (oNone)))))
@[irreducible] def F_stepped : List D → Md D := runF 4 b_stepped
theorem df_stepped {P : Program} {w : World} {base : Heap} (t : TT K mg) : DF P w K mg base 1 t.f_stepped t.fd_stepped ["kind", "window", "mirror"] F_stepped := by
  unfold F_stepped
  exact df_of t.F_stepped sc_stepped fun cdv A outer s H E C hW hr tk => (dss_cons (ds_if (PW.pt (dw_or (dt_cmp (od_eq hr.units) (dq_var 0) (DE.q (de_str))) (dw_or1 (dt_cmp od_gt (dq_var 2) (DE.q (de_int)))))) (dss_cons (ds_set (i := 3) sc_stepped.nd (de_if (dt_cmp (od_eq hr.units) (dq_var 0) (DE.q (de_str))) (de_var 2) (de_op od_sub (dq_var 2) (DE.q (de_int))))) (dss_one (ds_ret (de_op od_addF (DE.q (de_op od_addF (DE.q (de_sl (dq_var 1) (do_none) (do_some (de_var 3)))) (DE.q (de_tup (da_cons (de_ix (dq_var 1) (DE.q (de_op od_addF (dq_var 3) (DE.q (de_int)))) (fun _ _ => rfl)) (da_cons (de_ix (dq_var 1) (dq_var 3) (fun _ _ => rfl)) (da_nil))))))) (DE.q (de_sl (dq_var 1) (do_some (de_op od_addF (dq_var 3) (DE.q (de_int)))) (do_none))))))) (dss_nil)) (dss_cons (ds_if (dt_cmp (od_eq hr.units) (dq_var 0) (DE.q (de_str))) (dss_one (ds_ret (de_op od_addF (DE.q (de_tup (da_cons (de_negN (de_ix (dq_var 1) (DE.q (de_int)) (fun _ _ => rfl))) (da_nil)))) (DE.q (de_sl (dq_var 1) (do_some (de_int)) (do_none)))))) (dss_nil)) (dss_one (ds_ret (de_op od_addF (DE.q (de_tup (da_cons (de_negN (de_ix (dq_var 1) (DE.q (de_int)) (fun _ _ => rfl))) (da_cons (de_negN (de_ix (dq_var 1) (DE.q (de_int)) (fun _ _ => rfl))) (da_nil))))) (DE.q (de_sl (dq_var 1) (do_some (de_int)) (do_none))))))))
abbrev N_window_of : List Str := ["kind", "many", "word", "found", "mirror"]
theorem sc_window_of : FnScope N_window_of ["kind", "many", "word"] (defScope s_window_of) := ⟨rfl, rfl, rfl, by decide +kernel, rfl, by decide +kernel, by decide +kernel⟩
abbrev b_window_of : DEnv → Md Fl := sSeq (sDrop (eCall 2 (F_look_at_word) (eCons (eCall 2 (F_line_diagram) (eCons (eVar 0) (eCons (eVar 1) (eNil)))) (eCons (eVar 2) (eNil))))) (sSeq (sSet 3 (eCall 2 (F_plain) (eCons (eVar 0) (eCons (eVar 1) (eNil))))) (sSeq (sFor (iSeq (eVar 2)) (gdName 4) (sSet 3 (eCall 3 (F_stepped) (eCons (eVar 0) (eCons (eVar 3) (eCons (eVar 4) (eNil))))))) (sRet (eVar 3))))
@[irreducible] def F_window_of : List D → Md D := runF 5 b_window_of
theorem df_window_of {P : Program} {w : World} {base : Heap} (t : TT K mg) : DF P w K mg base 6 t.f_window_of t.fd_window_of ["kind", "many", "word"] F_window_of := by
  unfold F_window_of
  exact df_of t.F_window_of sc_window_of fun cdv A outer s H E C hW hr tk => (dss_cons (ds_expr (de_call (df_look_at_word t) (hr.mono (by decide)) t.g_look_at_word t.F_look_at_word.kp t.b_look_at_word tk (da_cons (de_call (df_line_diagram t) (hr.mono (by decide)) t.g_line_diagram t.F_line_diagram.kp t.b_line_diagram tk (da_cons (de_var 0) (da_cons (de_var 1) (da_nil)))) (da_cons (de_var 2) (da_nil))))) (dss_cons (ds_set (i := 3) sc_window_of.nd (de_call (df_plain t) (hr.mono (by decide)) t.g_plain t.F_plain.kp t.b_plain tk (da_cons (de_var 0) (da_cons (de_var 1) (da_nil))))) (dss_cons (ds_for (passes_of rfl) rfl (di_seq (de_var 2)) (dg_name 4 sc_window_of.nd) (dss_one (ds_set (i := 3) sc_window_of.nd (de_call (df_stepped t) (hr.mono (by decide)) t.g_stepped t.F_stepped.kp t.b_stepped tk (da_cons (de_var 0) (da_cons (de_var 3) (da_cons (de_var 4) (da_nil)))))))) (dss_one (ds_ret (de_var 3))))))
abbrev N_word_of : List Str := ["kind", "many", "window", "letters", "back", "going"]
theorem sc_word_of : FnScope N_word_of ["kind", "many", "window"] (defScope s_word_of) := ⟨rfl, rfl, rfl, by decide +kernel, rfl, by decide +kernel, by decide +kernel⟩
abbrev b_word_of : DEnv → Md Fl := sSeq (sDrop (eCall 3 (F_look_at_window) (eCons (eVar 0) (eCons (eVar 1) (eCons (eVar 2) (eNil)))))) (sSeq (sSetN 3 (eLst (eNil))) (sSeq (sSet 4 (eCall 1 (F_turned_back) (eCons (eVar 2) (eNil)))) (sSeq (sSet 5 (eCall 3 (F_ends_of) (eCons (eVar 0) (eCons (eVar 1) (eCons (eVar 4) (eNil)))))) (sSeq (whileN (mB (eBin dGt (eN dLen (eCons (qVar 5) (eNil))) (eC (.int 0)))) (sSeq (sApp 3 (eBin dIx (qVar 5) (eC (.int 0)))) (sSeq (sSet 4 (eCall 3 (F_stepped) (eCons (eVar 0) (eCons (eVar 4) (eCons (eBin dIx (qVar 5) (eC (.int 0))) (eNil)))))) (sSet 5 (eCall 3 (F_ends_of) (eCons (eVar 0) (eCons (eVar 1) (eCons (eVar 4) (eNil)))))))) 1000) (sRet (eN dTuple (eCons (qVar 3) (eNil))))))))
@[irreducible] def F_word_of : List D → Md D := runF 6 b_word_of
theorem df_word_of {P : Program} {w : World} {base : Heap} (t : TT K mg) : DF P w K mg base 7 t.f_word_of t.fd_word_of ["kind", "many", "window"] F_word_of := by
  unfold F_word_of
  exact df_of t.F_word_of sc_word_of fun cdv A outer s H E C hW hr tk => (dss_cons (ds_expr (de_call (df_look_at_window t) (hr.mono (by decide)) t.g_look_at_window t.F_look_at_window.kp t.b_look_at_window tk (da_cons (de_var 0) (da_cons (de_var 1) (da_cons (de_var 2) (da_nil)))))) (dss_cons (ds_setN (i := 3) sc_word_of.nd (dn_lst (da_nil))) (dss_cons (ds_set (i := 4) sc_word_of.nd (de_call (df_turned_back t) (hr.mono (by decide)) t.g_turned_back t.F_turned_back.kp t.b_turned_back tk (da_cons (de_var 2) (da_nil)))) (dss_cons (ds_set (i := 5) sc_word_of.nd (de_call (df_ends_of t) (hr.mono (by decide)) t.g_ends_of t.F_ends_of.kp t.b_ends_of tk (da_cons (de_var 0) (da_cons (de_var 1) (da_cons (de_var 4) (da_nil)))))) (dss_cons (ds_while 1000 (passes_of rfl) (dt_cmp od_gt (DE.q (de_bi cd_len t.n_len (dq_cons (dq_var 5) (dq_nil)))) (DE.q (de_int))) (dss_cons (ds_app 3 (de_ix (dq_var 5) (DE.q (de_int)) (fun _ _ => rfl))) (dss_cons (ds_set (i := 4) sc_word_of.nd (de_call (df_stepped t) (hr.mono (by decide)) t.g_stepped t.F_stepped.kp t.b_stepped tk (da_cons (de_var 0) (da_cons (de_var 4) (da_cons (de_ix (dq_var 5) (DE.q (de_int)) (fun _ _ => rfl)) (da_nil)))))) (dss_one (ds_set (i := 5) sc_word_of.nd (de_call (df_ends_of t) (hr.mono (by decide)) t.g_ends_of t.F_ends_of.kp t.b_ends_of tk (da_cons (de_var 0) (da_cons (de_var 1) (da_cons (de_var 4) (da_nil)))))))))) (dss_one (ds_ret (de_ty cd_tuple t.n_tuple (dq_cons (dq_var 3) (dq_nil))))))))))
abbrev N_law : List Str := ["script", "draws", "kind", "many", "world", "rows", "turn", "word", "row", "least", "ends", "starts", "mirror"]
theorem sc_law : FnScope N_law ["script"] (defScope s_law) := ⟨rfl, rfl, rfl, by decide +kernel, rfl, by decide +kernel, by decide +kernel⟩
abbrev b_law : DEnv → Md Fl := sSeq (sAsg (gdTup 2 (gdCons (gdName 2) (gdCons (gdName 3) (gdNil)))) (eCallS 1 (F_law_kind) (eCons (eVar 1) (eNil)))) (sSeq (sSet 4 (eCall 2 (F_law_edges) (eCons (eVar 2) (eCons (eVar 3) (eNil))))) (sSeq (sSet 5 (eCall 2 (F_law_all) (eCons (eVar 2) (eCons (eVar 3) (eNil))))) (sSeq (sIf (mNot (mB (eCall 2 (F_law_same 6) (eCons (eCall 2 (F_all_windows) (eCons (eVar 2) (eCons (eVar 3) (eNil)))) (eCons (eN dTuple (eCons (qVar 5) (eNil))) (eNil)))))) (sRet (eC (.bl false))) (sNext)) (sSeq (sFor (iR1 (eC (.int 8))) (gdName 6) (sSeq (sSet 7 (eCallS 3 (F_law_word) (eCons (eVar 1) (eCons (eVar 3) (eCons (eC (.int 10)) (eNil)))))) (sSeq (sSet 8 (eCall 3 (F_law_window) (eCons (eVar 2) (eCons (eVar 3) (eCons (eVar 7) (eNil)))))) (sSeq (sIf (mB (eBin dGt (qVar 6) (eC (.int 3)))) (sSeq (sSet 8 (eBin dIx (qVar 5) (eCallS 2 (F_law_draw) (eCons (eVar 1) (eCons (eN dLen (eCons (qVar 5) (eNil))) (eNil)))))) (sSet 7 (eCall 3 (F_word_of) (eCons (eVar 2) (eCons (eVar 3) (eCons (eVar 8) (eNil))))))) (sNext)) (sSeq (sSet 9 (eCall 2 (F_law_normal) (eCons (eVar 4) (eCons (eVar 7) (eNil))))) (sSeq (sIf (mOr (mNot (mB (eCall 2 (F_law_same 6) (eCons (eCall 3 (F_word_of) (eCons (eVar 2) (eCons (eVar 3) (eCons (eVar 8) (eNil))))) (eCons (eVar 9) (eNil)))))) (mNot (mB (eCall 2 (F_law_same 6) (eCons (eCall 3 (F_length_of) (eCons (eVar 2) (eCons (eVar 3) (eCons (eVar 8) (eNil))))) (eCons (eN dLen (eCons (qVar 9) (eNil))) (eNil))))))) (sRet (eC (.bl false))) (sNext)) (sSeq (sSetN 10 (eComp [12] (iR1 (eVar 3)) (gdName 12) (mB (eBin dLt (eN dLen (eCons (eCall 2 (F_law_normal) (eCons (eVar 4) (eCons (eBin dAddF (qVar 9) (eTup (eCons (eVar 12) (eNil)))) (eNil)))) (eNil))) (eN dLen (eCons (qVar 9) (eNil))))) (eVar 12))) (sSeq (sSetN 11 (eComp [12] (iR1 (eVar 3)) (gdName 12) (mB (eBin dLt (eN dLen (eCons (eCall 2 (F_law_normal) (eCons (eVar 4) (eCons (eBin dAddF (eTup (eCons (eVar 12) (eNil))) (qVar 9)) (eNil)))) (eNil))) (eN dLen (eCons (qVar 9) (eNil))))) (eVar 12))) (sSeq (sIf (mOr (mNot (mB (eCall 2 (F_law_same 6) (eCons (eCall 3 (F_ends_of) (eCons (eVar 2) (eCons (eVar 3) (eCons (eVar 8) (eNil))))) (eCons (eN dTuple (eCons (qVar 10) (eNil))) (eNil)))))) (mNot (mB (eCall 2 (F_law_same 6) (eCons (eCall 3 (F_beginnings_of) (eCons (eVar 2) (eCons (eVar 3) (eCons (eVar 8) (eNil))))) (eCons (eN dTuple (eCons (qVar 11) (eNil))) (eNil))))))) (sRet (eC (.bl false))) (sNext)) (sIf (mOr (mNot (mB (eCall 2 (F_law_same 6) (eCons (eCall 3 (F_window_of) (eCons (eVar 2) (eCons (eVar 3) (eCons (eVar 9) (eNil))))) (eCons (eVar 8) (eNil)))))) (mB (eBin dNe (eCall 3 (F_law_window) (eCons (eVar 2) (eCons (eVar 3) (eCons (eVar 9) (eNil))))) (qVar 8)))) (sRet (eC (.bl false))) (sNext))))))))))) (sRet (eC (.bl true)))))))
theorem ok_law {P : Program} {w : World} {base : Heap} (t : TT K mg) (hL : LawOk 1 13 b_law) : FnOk P w K mg base (L2.CX P w) 8 t.f_law t.fd_law ["script"] (spLaw K) := by
  have GD : FnOk P w K mg base (L2.CX P w) 1 t.f_law_draws t.fd_law_draws ["script"] (spDraws K) := by
    refine t.F_law_draws.okX sc_law_draws (fun vs H Q E h => by obtain ⟨a, ns, rfl, _⟩ := h; rfl) (fun cdv A outer s H vs Q E hr h => ?_)
    obtain ⟨a, ns, rfl, hS, q⟩ := h
    refine ⟨_, pss_one (ps_ret (pe_lst (pa_cons (pe_callTy call_list_of rfl t.n_list (by decide +kernel) (pa_cons (pv 0) pa_nil) (by decide)) (pa_cons pe_int (pa_cons pe_int (pa_cons pe_int pa_nil)))))), ?_⟩
    refine ⟨_, rfl, a, _, rfl, .inl hS, fun as has => ⟨by show 4 ≤ sizeLine; rw [sizeLine_eq]; decide, fun ad had => ?_⟩⟩
    have ne : as ≠ ad := fun z => by rw [z, upd_same] at had; cases had
    exact q as ad _ ne has (by rw [upd_ne (Ne.symm ne)] at had; exact had) rfl
  refine t.F_law.okX sc_law (fun vs H Q E h => by obtain ⟨a, ns, rfl, _⟩ := h; rfl) (fun cdv A outer s H vs Q E hr h => ?_)
  obtain ⟨a, ns, rfl, hS, hl, q⟩ := h
  have tk0 : Takes (cxOf (L2.CX P w) P w K mg base N_law "law" (defScope s_law) t.f_law cdv A outer s H E) (fun cls d _ H => E cls d H) := takes_of rfl rfl rfl rfl
  refine ⟨_, pss_cons (ps_set (i := 1) sc_law.nd rfl (.inl rfl) (pe_call GD (hr.mono (by decide)) rfl t.g_law_draws t.F_law_draws.kp t.b_law_draws .nil pass00 (pa_cons (pv 0) pa_nil)) (by rfl) (.inl rfl)) (PSs.any (f := b_law) (W := fun cls d _ H => E cls d H) fun C hC => by
      have tk : Takes (cxOf (L2.CX P w) P w K mg base N_law "law" (defScope s_law) t.f_law cdv A outer s H E) C.W := by rw [hC]; exact tk0
      exact dss_cons (ds_asg (de_callS (df_law_kind t) (hr.mono (by decide)) t.g_law_kind t.F_law_kind.kp t.b_law_kind tk (da_cons (de_var 1) (da_nil))) (dg_tup rfl (dgs_cons (dg_name 2 sc_law.nd) (dgs_cons (dg_name 3 sc_law.nd) (dgs_nil))))) (dss_cons (ds_set (i := 4) sc_law.nd (de_call (df_law_edges t) (hr.mono (by decide)) t.g_law_edges t.F_law_edges.kp t.b_law_edges tk (da_cons (de_var 2) (da_cons (de_var 3) (da_nil))))) (dss_cons (ds_set (i := 5) sc_law.nd (de_call (df_law_all t) (hr.mono (by decide)) t.g_law_all t.F_law_all.kp t.b_law_all tk (da_cons (de_var 2) (da_cons (de_var 3) (da_nil))))) (dss_cons (ds_if (dt_not (dt_val (de_call (df_law_same 6 t) (hr.mono (by decide)) t.g_law_same t.F_law_same.kp t.b_law_same tk (da_cons (de_call (df_all_windows t) (hr.mono (by decide)) t.g_all_windows t.F_all_windows.kp t.b_all_windows tk (da_cons (de_var 2) (da_cons (de_var 3) (da_nil)))) (da_cons (de_ty cd_tuple t.n_tuple (dq_cons (dq_var 5) (dq_nil))) (da_nil)))))) (dss_one (ds_ret (de_bl))) (dss_nil)) (dss_cons (ds_for (passes_of rfl) rfl (di_range1 t.n_range (de_int)) (dg_name 6 sc_law.nd) (dss_cons (ds_set (i := 7) sc_law.nd (de_callS (df_law_word t) (hr.mono (by decide)) t.g_law_word t.F_law_word.kp t.b_law_word tk (da_cons (de_var 1) (da_cons (de_var 3) (da_cons (de_int) (da_nil)))))) (dss_cons (ds_set (i := 8) sc_law.nd (de_call (df_law_window t) (hr.mono (by decide)) t.g_law_window t.F_law_window.kp t.b_law_window tk (da_cons (de_var 2) (da_cons (de_var 3) (da_cons (de_var 7) (da_nil)))))) (dss_cons (ds_if (dt_cmp od_gt (dq_var 6) (DE.q (de_int))) (dss_cons (ds_set (i := 8) sc_law.nd (de_ix (dq_var 5) (DE.q (de_callS (df_law_draw t) (hr.mono (by decide)) t.g_law_draw t.F_law_draw.kp t.b_law_draw tk (da_cons (de_var 1) (da_cons (de_bi cd_len t.n_len (dq_cons (dq_var 5) (dq_nil))) (da_nil))))) (fun _ _ => rfl))) (dss_one (ds_set (i := 7) sc_law.nd (de_call (df_word_of t) (hr.mono (by decide)) t.g_word_of t.F_word_of.kp t.b_word_of tk (da_cons (de_var 2) (da_cons (de_var 3) (da_cons (de_var 8) (da_nil)))))))) (dss_nil)) (dss_cons (ds_set (i := 9) sc_law.nd (de_call (df_law_normal t) (hr.mono (by decide)) t.g_law_normal t.F_law_normal.kp t.b_law_normal tk (da_cons (de_var 4) (da_cons (de_var 7) (da_nil))))) (dss_cons (ds_if (PW.pt (dw_or (dt_not (dt_val (de_call (df_law_same 6 t) (hr.mono (by decide)) t.g_law_same t.F_law_same.kp t.b_law_same tk (da_cons (de_call (df_word_of t) (hr.mono (by decide)) t.g_word_of t.F_word_of.kp t.b_word_of tk (da_cons (de_var 2) (da_cons (de_var 3) (da_cons (de_var 8) (da_nil))))) (da_cons (de_var 9) (da_nil)))))) (dw_or1 (dt_not (dt_val (de_call (df_law_same 6 t) (hr.mono (by decide)) t.g_law_same t.F_law_same.kp t.b_law_same tk (da_cons (de_call (df_length_of t) (hr.mono (by decide)) t.g_length_of t.F_length_of.kp t.b_length_of tk (da_cons (de_var 2) (da_cons (de_var 3) (da_cons (de_var 8) (da_nil))))) (da_cons (de_bi cd_len t.n_len (dq_cons (dq_var 9) (dq_nil))) (da_nil))))))))) (dss_one (ds_ret (de_bl))) (dss_nil)) (dss_cons (ds_setLc (own := [("mirror", 12)]) rfl rfl sc_law.nd (DI.j (di_range1 t.n_range (de_var 3))) (blkOk_by (by kernel_rfl)) (fun _ _ _ _ _ => dg_name 12 sc_law.nd) (fun _ _ _ _ _ => by exact dts_one (dt_cmp od_lt (DE.q (de_bi cd_len t.n_len (dq_cons (DE.q (de_call (df_law_normal t) (hr.mono (by decide)) t.g_law_normal t.F_law_normal.kp t.b_law_normal takes0 (da_cons (de_var 4) (da_cons (de_op od_addF (dq_var 9) (DE.q (de_tup (da_cons (de_var 12) (da_nil))))) (da_nil))))) (dq_nil)))) (DE.q (de_bi cd_len t.n_len (dq_cons (dq_var 9) (dq_nil)))))) (fun _ _ _ _ _ => by exact de_var 12) (sw_true rfl rfl rfl (by decide +kernel))) (dss_cons (ds_setLc (own := [("mirror", 12)]) rfl rfl sc_law.nd (DI.j (di_range1 t.n_range (de_var 3))) (blkOk_by (by kernel_rfl)) (fun _ _ _ _ _ => dg_name 12 sc_law.nd) (fun _ _ _ _ _ => by exact dts_one (dt_cmp od_lt (DE.q (de_bi cd_len t.n_len (dq_cons (DE.q (de_call (df_law_normal t) (hr.mono (by decide)) t.g_law_normal t.F_law_normal.kp t.b_law_normal takes0 (da_cons (de_var 4) (da_cons (de_op od_addF (DE.q (de_tup (da_cons (de_var 12) (da_nil)))) (dq_var 9)) (da_nil))))) (dq_nil)))) (DE.q (de_bi cd_len t.n_len (dq_cons (dq_var 9) (dq_nil)))))) (fun _ _ _ _ _ => by exact de_var 12) (sw_true rfl rfl rfl (by decide +kernel))) (dss_cons (ds_if (PW.pt (dw_or (dt_not (dt_val (de_call (df_law_same 6 t) (hr.mono (by decide)) t.g_law_same t.F_law_same.kp t.b_law_same tk (da_cons (de_call (df_ends_of t) (hr.mono (by decide)) t.g_ends_of t.F_ends_of.kp t.b_ends_of tk (da_cons (de_var 2) (da_cons (de_var 3) (da_cons (de_var 8) (da_nil))))) (da_cons (de_ty cd_tuple t.n_tuple (dq_cons (dq_var 10) (dq_nil))) (da_nil)))))) (dw_or1 (dt_not (dt_val (de_call (df_law_same 6 t) (hr.mono (by decide)) t.g_law_same t.F_law_same.kp t.b_law_same tk (da_cons (de_call (df_beginnings_of t) (hr.mono (by decide)) t.g_beginnings_of t.F_beginnings_of.kp t.b_beginnings_of tk (da_cons (de_var 2) (da_cons (de_var 3) (da_cons (de_var 8) (da_nil))))) (da_cons (de_ty cd_tuple t.n_tuple (dq_cons (dq_var 11) (dq_nil))) (da_nil))))))))) (dss_one (ds_ret (de_bl))) (dss_nil)) (dss_one (ds_if (PW.pt (dw_or (dt_not (dt_val (de_call (df_law_same 6 t) (hr.mono (by decide)) t.g_law_same t.F_law_same.kp t.b_law_same tk (da_cons (de_call (df_window_of t) (hr.mono (by decide)) t.g_window_of t.F_window_of.kp t.b_window_of tk (da_cons (de_var 2) (da_cons (de_var 3) (da_cons (de_var 9) (da_nil))))) (da_cons (de_var 8) (da_nil)))))) (dw_or1 (dt_cmp (od_ne hr.units) (DE.q (de_call (df_law_window t) (hr.mono (by decide)) t.g_law_window t.F_law_window.kp t.b_law_window tk (da_cons (de_var 2) (da_cons (de_var 3) (da_cons (de_var 9) (da_nil)))))) (dq_var 8))))) (dss_one (ds_ret (de_bl))) (dss_nil)))))))))))) (dss_one (ds_ret (de_bl)))))))), ?_⟩
  refine ⟨_, rfl, a, ns, rfl, hS, fun as ad H' ne h1 h2 e => ?_⟩
  subst e
  exact ⟨⟨_, _, _, _, _⟩, rfl, law_start (σ := (L2.start N_law [.ref a]).set 1 (some (.ref ad))) hL hl ne upd_same (by rw [upd_ne ne, upd_same]) rfl rfl rfl q⟩
end
end DL

set_option Elab.async false
set_option linter.all false
set_option maxRecDepth 100000
set_option maxHeartbeats 4000000
namespace DL
open PySem PySem.Spec PyProof.Rows L2
def tt_mk {K : PySem.W.Frag} {h : Heap} {mg : Str → Option Value} {C_BadDiagram C_BadWord C_Diagram f_law_all f_law_draw f_law_edges f_law_kind f_law_plus f_law_slope f_law_times f_law_taken f_law_mirrored f_law_moved f_law_sign f_law_side f_law_simple f_law_normal f_law_same f_law_step f_law_window f_law_word f_is_integer f_look_at_kind f_size_of f_plain f_is_window f_plain_row f_signed_numbers f_all_windows f_falls f_look_at_window f_ends_of f_turned_back f_beginnings_of f_pairs_out_of_order f_length_of f_is_edge f_Diagram___init f_line_diagram f_is_word f_look_at_word f_stepped f_window_of f_word_of f_law_draws f_law A_KINDS A_LABELS : Addr} (X : K.In h) (G : h.Ns mainGlobals mg)
    {od0 an0 od1 an1 od2 an2 od3 an3 od4 an4 od5 an5 od6 an6 od7 an7 od8 an8 od9 an9 od10 an10 od11 an11 od12 an12 od13 an13 od14 an14 od15 an15 od16 an16 od17 an17 od18 an18 od19 an19 od20 an20 od21 an21 od22 an22 od23 an23 od24 an24 od25 an25 od26 an26 od27 an27 od28 an28 od29 an29 od30 an30 od31 an31 od32 an32 od33 an33 od34 an34 od35 an35 od36 an36 od37 an37 od38 an38 od39 an39 od40 an40 od41 an41 od42 an42 ao_KINDS ao_LABELS : Option Addr} {sl0 sl1 sl2 sl3 sl4 sl5 sl6 sl7 sl8 sl9 sl10 sl11 sl12 sl13 sl14 sl15 sl16 sl17 sl18 sl19 sl20 sl21 sl22 sl23 sl24 sl25 sl26 sl27 sl28 sl29 sl30 sl31 sl32 sl33 sl34 sl35 sl36 sl37 sl38 sl39 sl40 sl41 sl42 as_KINDS as_LABELS : Array (Option Value)} {oc0 kV0 dc0 pm0 cd0 ct0 oc1 kV1 dc1 pm1 cd1 ct1 oc2 kV2 dc2 pm2 cd2 ct2 oc3 kV3 dc3 pm3 cd3 ct3 oc4 kV4 dc4 pm4 cd4 ct4 oc5 kV5 dc5 pm5 cd5 ct5 oc6 kV6 dc6 pm6 cd6 ct6 oc7 kV7 dc7 pm7 cd7 ct7 oc8 kV8 dc8 pm8 cd8 ct8 oc9 kV9 dc9 pm9 cd9 ct9 oc10 kV10 dc10 pm10 cd10 ct10 oc11 kV11 dc11 pm11 cd11 ct11 oc12 kV12 dc12 pm12 cd12 ct12 oc13 kV13 dc13 pm13 cd13 ct13 oc14 kV14 dc14 pm14 cd14 ct14 oc15 kV15 dc15 pm15 cd15 ct15 oc16 kV16 dc16 pm16 cd16 ct16 oc17 kV17 dc17 pm17 cd17 ct17 oc18 kV18 dc18 pm18 cd18 ct18 oc19 kV19 dc19 pm19 cd19 ct19 oc20 kV20 dc20 pm20 cd20 ct20 oc21 kV21 dc21 pm21 cd21 ct21 oc22 kV22 dc22 pm22 cd22 ct22 oc23 kV23 dc23 pm23 cd23 ct23 oc24 kV24 dc24 pm24 cd24 ct24 oc25 kV25 dc25 pm25 cd25 ct25 oc26 kV26 dc26 pm26 cd26 ct26 oc27 kV27 dc27 pm27 cd27 ct27 oc28 kV28 dc28 pm28 cd28 ct28 oc29 kV29 dc29 pm29 cd29 ct29 oc30 kV30 dc30 pm30 cd30 ct30 oc31 kV31 dc31 pm31 cd31 ct31 oc32 kV32 dc32 pm32 cd32 ct32 oc33 kV33 dc33 pm33 cd33 ct33 oc34 kV34 dc34 pm34 cd34 ct34 oc35 kV35 dc35 pm35 cd35 ct35 oc36 kV36 dc36 pm36 cd36 ct36 oc37 kV37 dc37 pm37 cd37 ct37 oc38 kV38 dc38 pm38 cd38 ct38 oc39 kV39 dc39 pm39 cd39 ct39 oc40 kV40 dc40 pm40 cd40 ct40 oc41 kV41 dc41 pm41 cd41 ct41 oc42 kV42 dc42 pm42 cd42 ct42 : Value} {tok_KINDS_0 tok_KINDS_1 tok_KINDS_2 tok_LABELS_0 tok_LABELS_1 tok_LABELS_2 tok_LABELS_3 tok_LABELS_4 tok_MOST tok_MOST_LETTERS tok_MOST_MIRRORS : Tok} {an_KINDS an_LABELS : Nat}
    (aC_BadDiagram : PySem.W.nsIn K mainGlobals "BadDiagram" = some (some (.ref C_BadDiagram)))
    (aC_BadWord : PySem.W.nsIn K mainGlobals "BadWord" = some (some (.ref C_BadWord)))
    (aC_Diagram : PySem.W.nsIn K mainGlobals "Diagram" = some (some (.ref C_Diagram)))
    (a_law_all : PySem.W.nsIn K mainGlobals "_law_all" = some (some (.ref f_law_all)))
    (l_law_all : K.lookup f_law_all = some ⟨oc0, od0, .func (PySem.W.fnOf "_law_all" "_law_all" (defArgs s_law_all) (defBody s_law_all) (defScope s_law_all) .none kV0 dc0 pm0 an0 cd0 ct0), sl0⟩)
    (c_law_all : PySem.W.codeIn K cd0 "_law_all" = true)
    (k_law_all : PySem.W.keepIn K (.ref f_law_all) = true)
    (a_law_draw : PySem.W.nsIn K mainGlobals "_law_draw" = some (some (.ref f_law_draw)))
    (l_law_draw : K.lookup f_law_draw = some ⟨oc1, od1, .func (PySem.W.fnOf "_law_draw" "_law_draw" (defArgs s_law_draw) (defBody s_law_draw) (defScope s_law_draw) .none kV1 dc1 pm1 an1 cd1 ct1), sl1⟩)
    (c_law_draw : PySem.W.codeIn K cd1 "_law_draw" = true)
    (k_law_draw : PySem.W.keepIn K (.ref f_law_draw) = true)
    (a_law_edges : PySem.W.nsIn K mainGlobals "_law_edges" = some (some (.ref f_law_edges)))
    (l_law_edges : K.lookup f_law_edges = some ⟨oc2, od2, .func (PySem.W.fnOf "_law_edges" "_law_edges" (defArgs s_law_edges) (defBody s_law_edges) (defScope s_law_edges) .none kV2 dc2 pm2 an2 cd2 ct2), sl2⟩)
    (c_law_edges : PySem.W.codeIn K cd2 "_law_edges" = true)
    (k_law_edges : PySem.W.keepIn K (.ref f_law_edges) = true)
    (a_law_kind : PySem.W.nsIn K mainGlobals "_law_kind" = some (some (.ref f_law_kind)))
    (l_law_kind : K.lookup f_law_kind = some ⟨oc3, od3, .func (PySem.W.fnOf "_law_kind" "_law_kind" (defArgs s_law_kind) (defBody s_law_kind) (defScope s_law_kind) .none kV3 dc3 pm3 an3 cd3 ct3), sl3⟩)
    (c_law_kind : PySem.W.codeIn K cd3 "_law_kind" = true)
    (k_law_kind : PySem.W.keepIn K (.ref f_law_kind) = true)
    (a_law_plus : PySem.W.nsIn K mainGlobals "_law_plus" = some (some (.ref f_law_plus)))
    (l_law_plus : K.lookup f_law_plus = some ⟨oc4, od4, .func (PySem.W.fnOf "_law_plus" "_law_plus" (defArgs s_law_plus) (defBody s_law_plus) (defScope s_law_plus) .none kV4 dc4 pm4 an4 cd4 ct4), sl4⟩)
    (c_law_plus : PySem.W.codeIn K cd4 "_law_plus" = true)
    (k_law_plus : PySem.W.keepIn K (.ref f_law_plus) = true)
    (a_law_slope : PySem.W.nsIn K mainGlobals "_law_slope" = some (some (.ref f_law_slope)))
    (l_law_slope : K.lookup f_law_slope = some ⟨oc5, od5, .func (PySem.W.fnOf "_law_slope" "_law_slope" (defArgs s_law_slope) (defBody s_law_slope) (defScope s_law_slope) .none kV5 dc5 pm5 an5 cd5 ct5), sl5⟩)
    (c_law_slope : PySem.W.codeIn K cd5 "_law_slope" = true)
    (k_law_slope : PySem.W.keepIn K (.ref f_law_slope) = true)
    (a_law_times : PySem.W.nsIn K mainGlobals "_law_times" = some (some (.ref f_law_times)))
    (l_law_times : K.lookup f_law_times = some ⟨oc6, od6, .func (PySem.W.fnOf "_law_times" "_law_times" (defArgs s_law_times) (defBody s_law_times) (defScope s_law_times) .none kV6 dc6 pm6 an6 cd6 ct6), sl6⟩)
    (c_law_times : PySem.W.codeIn K cd6 "_law_times" = true)
    (k_law_times : PySem.W.keepIn K (.ref f_law_times) = true)
    (a_law_taken : PySem.W.nsIn K mainGlobals "_law_taken" = some (some (.ref f_law_taken)))
    (l_law_taken : K.lookup f_law_taken = some ⟨oc7, od7, .func (PySem.W.fnOf "_law_taken" "_law_taken" (defArgs s_law_taken) (defBody s_law_taken) (defScope s_law_taken) .none kV7 dc7 pm7 an7 cd7 ct7), sl7⟩)
    (c_law_taken : PySem.W.codeIn K cd7 "_law_taken" = true)
    (k_law_taken : PySem.W.keepIn K (.ref f_law_taken) = true)
    (a_law_mirrored : PySem.W.nsIn K mainGlobals "_law_mirrored" = some (some (.ref f_law_mirrored)))
    (l_law_mirrored : K.lookup f_law_mirrored = some ⟨oc8, od8, .func (PySem.W.fnOf "_law_mirrored" "_law_mirrored" (defArgs s_law_mirrored) (defBody s_law_mirrored) (defScope s_law_mirrored) .none kV8 dc8 pm8 an8 cd8 ct8), sl8⟩)
    (c_law_mirrored : PySem.W.codeIn K cd8 "_law_mirrored" = true)
    (k_law_mirrored : PySem.W.keepIn K (.ref f_law_mirrored) = true)
    (a_law_moved : PySem.W.nsIn K mainGlobals "_law_moved" = some (some (.ref f_law_moved)))
    (l_law_moved : K.lookup f_law_moved = some ⟨oc9, od9, .func (PySem.W.fnOf "_law_moved" "_law_moved" (defArgs s_law_moved) (defBody s_law_moved) (defScope s_law_moved) .none kV9 dc9 pm9 an9 cd9 ct9), sl9⟩)
    (c_law_moved : PySem.W.codeIn K cd9 "_law_moved" = true)
    (k_law_moved : PySem.W.keepIn K (.ref f_law_moved) = true)
    (a_law_sign : PySem.W.nsIn K mainGlobals "_law_sign" = some (some (.ref f_law_sign)))
    (l_law_sign : K.lookup f_law_sign = some ⟨oc10, od10, .func (PySem.W.fnOf "_law_sign" "_law_sign" (defArgs s_law_sign) (defBody s_law_sign) (defScope s_law_sign) .none kV10 dc10 pm10 an10 cd10 ct10), sl10⟩)
    (c_law_sign : PySem.W.codeIn K cd10 "_law_sign" = true)
    (k_law_sign : PySem.W.keepIn K (.ref f_law_sign) = true)
    (a_law_side : PySem.W.nsIn K mainGlobals "_law_side" = some (some (.ref f_law_side)))
    (l_law_side : K.lookup f_law_side = some ⟨oc11, od11, .func (PySem.W.fnOf "_law_side" "_law_side" (defArgs s_law_side) (defBody s_law_side) (defScope s_law_side) .none kV11 dc11 pm11 an11 cd11 ct11), sl11⟩)
    (c_law_side : PySem.W.codeIn K cd11 "_law_side" = true)
    (k_law_side : PySem.W.keepIn K (.ref f_law_side) = true)
    (a_law_simple : PySem.W.nsIn K mainGlobals "_law_simple" = some (some (.ref f_law_simple)))
    (l_law_simple : K.lookup f_law_simple = some ⟨oc12, od12, .func (PySem.W.fnOf "_law_simple" "_law_simple" (defArgs s_law_simple) (defBody s_law_simple) (defScope s_law_simple) .none kV12 dc12 pm12 an12 cd12 ct12), sl12⟩)
    (c_law_simple : PySem.W.codeIn K cd12 "_law_simple" = true)
    (k_law_simple : PySem.W.keepIn K (.ref f_law_simple) = true)
    (a_law_normal : PySem.W.nsIn K mainGlobals "_law_normal" = some (some (.ref f_law_normal)))
    (l_law_normal : K.lookup f_law_normal = some ⟨oc13, od13, .func (PySem.W.fnOf "_law_normal" "_law_normal" (defArgs s_law_normal) (defBody s_law_normal) (defScope s_law_normal) .none kV13 dc13 pm13 an13 cd13 ct13), sl13⟩)
    (c_law_normal : PySem.W.codeIn K cd13 "_law_normal" = true)
    (k_law_normal : PySem.W.keepIn K (.ref f_law_normal) = true)
    (a_law_same : PySem.W.nsIn K mainGlobals "_law_same" = some (some (.ref f_law_same)))
    (l_law_same : K.lookup f_law_same = some ⟨oc14, od14, .func (PySem.W.fnOf "_law_same" "_law_same" (defArgs s_law_same) (defBody s_law_same) (defScope s_law_same) .none kV14 dc14 pm14 an14 cd14 ct14), sl14⟩)
    (c_law_same : PySem.W.codeIn K cd14 "_law_same" = true)
    (k_law_same : PySem.W.keepIn K (.ref f_law_same) = true)
    (a_law_step : PySem.W.nsIn K mainGlobals "_law_step" = some (some (.ref f_law_step)))
    (l_law_step : K.lookup f_law_step = some ⟨oc15, od15, .func (PySem.W.fnOf "_law_step" "_law_step" (defArgs s_law_step) (defBody s_law_step) (defScope s_law_step) .none kV15 dc15 pm15 an15 cd15 ct15), sl15⟩)
    (c_law_step : PySem.W.codeIn K cd15 "_law_step" = true)
    (k_law_step : PySem.W.keepIn K (.ref f_law_step) = true)
    (a_law_window : PySem.W.nsIn K mainGlobals "_law_window" = some (some (.ref f_law_window)))
    (l_law_window : K.lookup f_law_window = some ⟨oc16, od16, .func (PySem.W.fnOf "_law_window" "_law_window" (defArgs s_law_window) (defBody s_law_window) (defScope s_law_window) .none kV16 dc16 pm16 an16 cd16 ct16), sl16⟩)
    (c_law_window : PySem.W.codeIn K cd16 "_law_window" = true)
    (k_law_window : PySem.W.keepIn K (.ref f_law_window) = true)
    (a_law_word : PySem.W.nsIn K mainGlobals "_law_word" = some (some (.ref f_law_word)))
    (l_law_word : K.lookup f_law_word = some ⟨oc17, od17, .func (PySem.W.fnOf "_law_word" "_law_word" (defArgs s_law_word) (defBody s_law_word) (defScope s_law_word) .none kV17 dc17 pm17 an17 cd17 ct17), sl17⟩)
    (c_law_word : PySem.W.codeIn K cd17 "_law_word" = true)
    (k_law_word : PySem.W.keepIn K (.ref f_law_word) = true)
    (a_is_integer : PySem.W.nsIn K mainGlobals "is_integer" = some (some (.ref f_is_integer)))
    (l_is_integer : K.lookup f_is_integer = some ⟨oc18, od18, .func (PySem.W.fnOf "is_integer" "is_integer" (defArgs s_is_integer) (defBody s_is_integer) (defScope s_is_integer) .none kV18 dc18 pm18 an18 cd18 ct18), sl18⟩)
    (c_is_integer : PySem.W.codeIn K cd18 "is_integer" = true)
    (k_is_integer : PySem.W.keepIn K (.ref f_is_integer) = true)
    (a_look_at_kind : PySem.W.nsIn K mainGlobals "look_at_kind" = some (some (.ref f_look_at_kind)))
    (l_look_at_kind : K.lookup f_look_at_kind = some ⟨oc19, od19, .func (PySem.W.fnOf "look_at_kind" "look_at_kind" (defArgs s_look_at_kind) (defBody s_look_at_kind) (defScope s_look_at_kind) .none kV19 dc19 pm19 an19 cd19 ct19), sl19⟩)
    (c_look_at_kind : PySem.W.codeIn K cd19 "look_at_kind" = true)
    (k_look_at_kind : PySem.W.keepIn K (.ref f_look_at_kind) = true)
    (a_size_of : PySem.W.nsIn K mainGlobals "size_of" = some (some (.ref f_size_of)))
    (l_size_of : K.lookup f_size_of = some ⟨oc20, od20, .func (PySem.W.fnOf "size_of" "size_of" (defArgs s_size_of) (defBody s_size_of) (defScope s_size_of) .none kV20 dc20 pm20 an20 cd20 ct20), sl20⟩)
    (c_size_of : PySem.W.codeIn K cd20 "size_of" = true)
    (k_size_of : PySem.W.keepIn K (.ref f_size_of) = true)
    (a_plain : PySem.W.nsIn K mainGlobals "plain" = some (some (.ref f_plain)))
    (l_plain : K.lookup f_plain = some ⟨oc21, od21, .func (PySem.W.fnOf "plain" "plain" (defArgs s_plain) (defBody s_plain) (defScope s_plain) .none kV21 dc21 pm21 an21 cd21 ct21), sl21⟩)
    (c_plain : PySem.W.codeIn K cd21 "plain" = true)
    (k_plain : PySem.W.keepIn K (.ref f_plain) = true)
    (a_is_window : PySem.W.nsIn K mainGlobals "is_window" = some (some (.ref f_is_window)))
    (l_is_window : K.lookup f_is_window = some ⟨oc22, od22, .func (PySem.W.fnOf "is_window" "is_window" (defArgs s_is_window) (defBody s_is_window) (defScope s_is_window) .none kV22 dc22 pm22 an22 cd22 ct22), sl22⟩)
    (c_is_window : PySem.W.codeIn K cd22 "is_window" = true)
    (k_is_window : PySem.W.keepIn K (.ref f_is_window) = true)
    (a_plain_row : PySem.W.nsIn K mainGlobals "plain_row" = some (some (.ref f_plain_row)))
    (l_plain_row : K.lookup f_plain_row = some ⟨oc23, od23, .func (PySem.W.fnOf "plain_row" "plain_row" (defArgs s_plain_row) (defBody s_plain_row) (defScope s_plain_row) .none kV23 dc23 pm23 an23 cd23 ct23), sl23⟩)
    (c_plain_row : PySem.W.codeIn K cd23 "plain_row" = true)
    (k_plain_row : PySem.W.keepIn K (.ref f_plain_row) = true)
    (a_signed_numbers : PySem.W.nsIn K mainGlobals "signed_numbers" = some (some (.ref f_signed_numbers)))
    (l_signed_numbers : K.lookup f_signed_numbers = some ⟨oc24, od24, .func (PySem.W.fnOf "signed_numbers" "signed_numbers" (defArgs s_signed_numbers) (defBody s_signed_numbers) (defScope s_signed_numbers) .none kV24 dc24 pm24 an24 cd24 ct24), sl24⟩)
    (c_signed_numbers : PySem.W.codeIn K cd24 "signed_numbers" = true)
    (k_signed_numbers : PySem.W.keepIn K (.ref f_signed_numbers) = true)
    (a_all_windows : PySem.W.nsIn K mainGlobals "all_windows" = some (some (.ref f_all_windows)))
    (l_all_windows : K.lookup f_all_windows = some ⟨oc25, od25, .func (PySem.W.fnOf "all_windows" "all_windows" (defArgs s_all_windows) (defBody s_all_windows) (defScope s_all_windows) .none kV25 dc25 pm25 an25 cd25 ct25), sl25⟩)
    (c_all_windows : PySem.W.codeIn K cd25 "all_windows" = true)
    (k_all_windows : PySem.W.keepIn K (.ref f_all_windows) = true)
    (a_falls : PySem.W.nsIn K mainGlobals "falls" = some (some (.ref f_falls)))
    (l_falls : K.lookup f_falls = some ⟨oc26, od26, .func (PySem.W.fnOf "falls" "falls" (defArgs s_falls) (defBody s_falls) (defScope s_falls) .none kV26 dc26 pm26 an26 cd26 ct26), sl26⟩)
    (c_falls : PySem.W.codeIn K cd26 "falls" = true)
    (k_falls : PySem.W.keepIn K (.ref f_falls) = true)
    (a_look_at_window : PySem.W.nsIn K mainGlobals "look_at_window" = some (some (.ref f_look_at_window)))
    (l_look_at_window : K.lookup f_look_at_window = some ⟨oc27, od27, .func (PySem.W.fnOf "look_at_window" "look_at_window" (defArgs s_look_at_window) (defBody s_look_at_window) (defScope s_look_at_window) .none kV27 dc27 pm27 an27 cd27 ct27), sl27⟩)
    (c_look_at_window : PySem.W.codeIn K cd27 "look_at_window" = true)
    (k_look_at_window : PySem.W.keepIn K (.ref f_look_at_window) = true)
    (a_ends_of : PySem.W.nsIn K mainGlobals "ends_of" = some (some (.ref f_ends_of)))
    (l_ends_of : K.lookup f_ends_of = some ⟨oc28, od28, .func (PySem.W.fnOf "ends_of" "ends_of" (defArgs s_ends_of) (defBody s_ends_of) (defScope s_ends_of) .none kV28 dc28 pm28 an28 cd28 ct28), sl28⟩)
    (c_ends_of : PySem.W.codeIn K cd28 "ends_of" = true)
    (k_ends_of : PySem.W.keepIn K (.ref f_ends_of) = true)
    (a_turned_back : PySem.W.nsIn K mainGlobals "turned_back" = some (some (.ref f_turned_back)))
    (l_turned_back : K.lookup f_turned_back = some ⟨oc29, od29, .func (PySem.W.fnOf "turned_back" "turned_back" (defArgs s_turned_back) (defBody s_turned_back) (defScope s_turned_back) .none kV29 dc29 pm29 an29 cd29 ct29), sl29⟩)
    (c_turned_back : PySem.W.codeIn K cd29 "turned_back" = true)
    (k_turned_back : PySem.W.keepIn K (.ref f_turned_back) = true)
    (a_beginnings_of : PySem.W.nsIn K mainGlobals "beginnings_of" = some (some (.ref f_beginnings_of)))
    (l_beginnings_of : K.lookup f_beginnings_of = some ⟨oc30, od30, .func (PySem.W.fnOf "beginnings_of" "beginnings_of" (defArgs s_beginnings_of) (defBody s_beginnings_of) (defScope s_beginnings_of) .none kV30 dc30 pm30 an30 cd30 ct30), sl30⟩)
    (c_beginnings_of : PySem.W.codeIn K cd30 "beginnings_of" = true)
    (k_beginnings_of : PySem.W.keepIn K (.ref f_beginnings_of) = true)
    (a_pairs_out_of_order : PySem.W.nsIn K mainGlobals "pairs_out_of_order" = some (some (.ref f_pairs_out_of_order)))
    (l_pairs_out_of_order : K.lookup f_pairs_out_of_order = some ⟨oc31, od31, .func (PySem.W.fnOf "pairs_out_of_order" "pairs_out_of_order" (defArgs s_pairs_out_of_order) (defBody s_pairs_out_of_order) (defScope s_pairs_out_of_order) .none kV31 dc31 pm31 an31 cd31 ct31), sl31⟩)
    (c_pairs_out_of_order : PySem.W.codeIn K cd31 "pairs_out_of_order" = true)
    (k_pairs_out_of_order : PySem.W.keepIn K (.ref f_pairs_out_of_order) = true)
    (a_length_of : PySem.W.nsIn K mainGlobals "length_of" = some (some (.ref f_length_of)))
    (l_length_of : K.lookup f_length_of = some ⟨oc32, od32, .func (PySem.W.fnOf "length_of" "length_of" (defArgs s_length_of) (defBody s_length_of) (defScope s_length_of) .none kV32 dc32 pm32 an32 cd32 ct32), sl32⟩)
    (c_length_of : PySem.W.codeIn K cd32 "length_of" = true)
    (k_length_of : PySem.W.keepIn K (.ref f_length_of) = true)
    (a_is_edge : PySem.W.nsIn K mainGlobals "is_edge" = some (some (.ref f_is_edge)))
    (l_is_edge : K.lookup f_is_edge = some ⟨oc33, od33, .func (PySem.W.fnOf "is_edge" "is_edge" (defArgs s_is_edge) (defBody s_is_edge) (defScope s_is_edge) .none kV33 dc33 pm33 an33 cd33 ct33), sl33⟩)
    (c_is_edge : PySem.W.codeIn K cd33 "is_edge" = true)
    (k_is_edge : PySem.W.keepIn K (.ref f_is_edge) = true)
    (a_Diagram___init : PySem.W.findIn K (.ref C_Diagram) "__init__" = some (some (.ref f_Diagram___init)))
    (i_Diagram___init : PySem.W.isFn K (.ref f_Diagram___init) = true)
    (l_Diagram___init : K.lookup f_Diagram___init = some ⟨oc34, od34, .func (PySem.W.fnOf "__init__" "Diagram.__init__" (defArgs s_Diagram___init) (defBody s_Diagram___init) (defScope s_Diagram___init) .none kV34 dc34 pm34 an34 cd34 ct34), sl34⟩)
    (c_Diagram___init : PySem.W.codeIn K cd34 "Diagram.__init__" = true)
    (k_Diagram___init : PySem.W.keepIn K (.ref f_Diagram___init) = true)
    (a_line_diagram : PySem.W.nsIn K mainGlobals "line_diagram" = some (some (.ref f_line_diagram)))
    (l_line_diagram : K.lookup f_line_diagram = some ⟨oc35, od35, .func (PySem.W.fnOf "line_diagram" "line_diagram" (defArgs s_line_diagram) (defBody s_line_diagram) (defScope s_line_diagram) .none kV35 dc35 pm35 an35 cd35 ct35), sl35⟩)
    (c_line_diagram : PySem.W.codeIn K cd35 "line_diagram" = true)
    (k_line_diagram : PySem.W.keepIn K (.ref f_line_diagram) = true)
    (a_is_word : PySem.W.nsIn K mainGlobals "is_word" = some (some (.ref f_is_word)))
    (l_is_word : K.lookup f_is_word = some ⟨oc36, od36, .func (PySem.W.fnOf "is_word" "is_word" (defArgs s_is_word) (defBody s_is_word) (defScope s_is_word) .none kV36 dc36 pm36 an36 cd36 ct36), sl36⟩)
    (c_is_word : PySem.W.codeIn K cd36 "is_word" = true)
    (k_is_word : PySem.W.keepIn K (.ref f_is_word) = true)
    (a_look_at_word : PySem.W.nsIn K mainGlobals "look_at_word" = some (some (.ref f_look_at_word)))
    (l_look_at_word : K.lookup f_look_at_word = some ⟨oc37, od37, .func (PySem.W.fnOf "look_at_word" "look_at_word" (defArgs s_look_at_word) (defBody s_look_at_word) (defScope s_look_at_word) .none kV37 dc37 pm37 an37 cd37 ct37), sl37⟩)
    (c_look_at_word : PySem.W.codeIn K cd37 "look_at_word" = true)
    (k_look_at_word : PySem.W.keepIn K (.ref f_look_at_word) = true)
    (a_stepped : PySem.W.nsIn K mainGlobals "stepped" = some (some (.ref f_stepped)))
    (l_stepped : K.lookup f_stepped = some ⟨oc38, od38, .func (PySem.W.fnOf "stepped" "stepped" (defArgs s_stepped) (defBody s_stepped) (defScope s_stepped) .none kV38 dc38 pm38 an38 cd38 ct38), sl38⟩)
    (c_stepped : PySem.W.codeIn K cd38 "stepped" = true)
    (k_stepped : PySem.W.keepIn K (.ref f_stepped) = true)
    (a_window_of : PySem.W.nsIn K mainGlobals "window_of" = some (some (.ref f_window_of)))
    (l_window_of : K.lookup f_window_of = some ⟨oc39, od39, .func (PySem.W.fnOf "window_of" "window_of" (defArgs s_window_of) (defBody s_window_of) (defScope s_window_of) .none kV39 dc39 pm39 an39 cd39 ct39), sl39⟩)
    (c_window_of : PySem.W.codeIn K cd39 "window_of" = true)
    (k_window_of : PySem.W.keepIn K (.ref f_window_of) = true)
    (a_word_of : PySem.W.nsIn K mainGlobals "word_of" = some (some (.ref f_word_of)))
    (l_word_of : K.lookup f_word_of = some ⟨oc40, od40, .func (PySem.W.fnOf "word_of" "word_of" (defArgs s_word_of) (defBody s_word_of) (defScope s_word_of) .none kV40 dc40 pm40 an40 cd40 ct40), sl40⟩)
    (c_word_of : PySem.W.codeIn K cd40 "word_of" = true)
    (k_word_of : PySem.W.keepIn K (.ref f_word_of) = true)
    (a_law_draws : PySem.W.nsIn K mainGlobals "_law_draws" = some (some (.ref f_law_draws)))
    (l_law_draws : K.lookup f_law_draws = some ⟨oc41, od41, .func (PySem.W.fnOf "_law_draws" "_law_draws" (defArgs s_law_draws) (defBody s_law_draws) (defScope s_law_draws) .none kV41 dc41 pm41 an41 cd41 ct41), sl41⟩)
    (c_law_draws : PySem.W.codeIn K cd41 "_law_draws" = true)
    (k_law_draws : PySem.W.keepIn K (.ref f_law_draws) = true)
    (a_law : PySem.W.nsIn K mainGlobals "law" = some (some (.ref f_law)))
    (l_law : K.lookup f_law = some ⟨oc42, od42, .func (PySem.W.fnOf "law" "law" (defArgs s_law) (defBody s_law) (defScope s_law) .none kV42 dc42 pm42 an42 cd42 ct42), sl42⟩)
    (c_law : PySem.W.codeIn K cd42 "law" = true)
    (k_law : PySem.W.keepIn K (.ref f_law) = true)
    (z_abs : PySem.W.nsIn K mainGlobals "abs" = some none)
    (z_all : PySem.W.nsIn K mainGlobals "all" = some none)
    (z_bool : PySem.W.nsIn K mainGlobals "bool" = some none)
    (z_enumerate : PySem.W.nsIn K mainGlobals "enumerate" = some none)
    (z_int : PySem.W.nsIn K mainGlobals "int" = some none)
    (z_isinstance : PySem.W.nsIn K mainGlobals "isinstance" = some none)
    (z_len : PySem.W.nsIn K mainGlobals "len" = some none)
    (z_list : PySem.W.nsIn K mainGlobals "list" = some none)
    (z_max : PySem.W.nsIn K mainGlobals "max" = some none)
    (z_min : PySem.W.nsIn K mainGlobals "min" = some none)
    (z_range : PySem.W.nsIn K mainGlobals "range" = some none)
    (z_sorted : PySem.W.nsIn K mainGlobals "sorted" = some none)
    (z_str : PySem.W.nsIn K mainGlobals "str" = some none)
    (z_sum : PySem.W.nsIn K mainGlobals "sum" = some none)
    (z_tuple : PySem.W.nsIn K mainGlobals "tuple" = some none)
    (x_BadDiagram : PySem.W.excIn K C_BadDiagram [.type "ValueError", .type "Exception", .type "BaseException", .type "object"] "ValueError.__new__" = true)
    (kC_BadDiagram : PySem.W.keepIn K (.ref C_BadDiagram) = true)
    (bC_BadDiagram : PySem.W.subIn K (.ref C_BadDiagram) (.type "BaseException") = some true)
    (tC_BadDiagram : PySem.W.typeIn K (.ref C_BadDiagram) = some (.type "type"))
    (x_BadWord : PySem.W.excIn K C_BadWord [.type "ValueError", .type "Exception", .type "BaseException", .type "object"] "ValueError.__new__" = true)
    (kC_BadWord : PySem.W.keepIn K (.ref C_BadWord) = true)
    (bC_BadWord : PySem.W.subIn K (.ref C_BadWord) (.type "BaseException") = some true)
    (tC_BadWord : PySem.W.typeIn K (.ref C_BadWord) = some (.type "type"))
    (pg_Diagram : PySem.W.plainGet K C_Diagram Str.empty = true)
    (hd_Diagram : PySem.W.hasDictIn K C_Diagram = true)
    (po_Diagram : PySem.W.plainOver K C_Diagram = true)
    (sa_Diagram : PySem.W.findIn K (.ref C_Diagram) "__setattr__" = some (some (.builtin "object.__setattr__")))
    (na_Diagram_labels : PySem.W.findIn K (.ref C_Diagram) "labels" = some none)
    (na_Diagram_size : PySem.W.findIn K (.ref C_Diagram) "size" = some none)
    (mk_Diagram : PySem.W.makesIn K C_Diagram = true)
    (kC_Diagram : PySem.W.keepIn K (.ref C_Diagram) = true)
    (q_KINDS : PySem.W.nsIn K mainGlobals "KINDS" = some (some (.ref A_KINDS)))
    (w_KINDS : K.lookup A_KINDS = some ⟨.type "tuple", ao_KINDS, .seq #[.str "A" tok_KINDS_0, .str "B" tok_KINDS_1, .str "D" tok_KINDS_2] an_KINDS, as_KINDS⟩)
    (q_LABELS : PySem.W.nsIn K mainGlobals "LABELS" = some (some (.ref A_LABELS)))
    (w_LABELS : K.lookup A_LABELS = some ⟨.type "tuple", ao_LABELS, .seq #[.int (0) tok_LABELS_0, .int (3) tok_LABELS_1, .int (4) tok_LABELS_2, .int (5) tok_LABELS_3, .int (6) tok_LABELS_4] an_LABELS, as_LABELS⟩)
    (q_MOST : PySem.W.nsIn K mainGlobals "MOST" = some (some (.int (8) tok_MOST)))
    (q_MOST_LETTERS : PySem.W.nsIn K mainGlobals "MOST_LETTERS" = some (some (.int (400) tok_MOST_LETTERS)))
    (q_MOST_MIRRORS : PySem.W.nsIn K mainGlobals "MOST_MIRRORS" = some (some (.int (9) tok_MOST_MIRRORS)))
    : TT K mg where
  f_law_all := f_law_all
  fd_law_all := _
  F_law_all := fun_mk (st := s_law_all) l_law_all c_law_all k_law_all
  b_law_all := (fun_mk (st := s_law_all) l_law_all c_law_all k_law_all).binds (ps := ["kind", "many"]) fun _ _ _ _ _ _ us hl => match us, hl with | [_, _], _ => rfl
  g_law_all := PySem.W.mg_of X G a_law_all
  f_law_draw := f_law_draw
  fd_law_draw := _
  F_law_draw := fun_mk (st := s_law_draw) l_law_draw c_law_draw k_law_draw
  b_law_draw := (fun_mk (st := s_law_draw) l_law_draw c_law_draw k_law_draw).binds (ps := ["draws", "limit"]) fun _ _ _ _ _ _ us hl => match us, hl with | [_, _], _ => rfl
  g_law_draw := PySem.W.mg_of X G a_law_draw
  f_law_edges := f_law_edges
  fd_law_edges := _
  F_law_edges := fun_mk (st := s_law_edges) l_law_edges c_law_edges k_law_edges
  b_law_edges := (fun_mk (st := s_law_edges) l_law_edges c_law_edges k_law_edges).binds (ps := ["kind", "many"]) fun _ _ _ _ _ _ us hl => match us, hl with | [_, _], _ => rfl
  g_law_edges := PySem.W.mg_of X G a_law_edges
  f_law_kind := f_law_kind
  fd_law_kind := _
  F_law_kind := fun_mk (st := s_law_kind) l_law_kind c_law_kind k_law_kind
  b_law_kind := (fun_mk (st := s_law_kind) l_law_kind c_law_kind k_law_kind).binds (ps := ["draws"]) fun _ _ _ _ _ _ us hl => match us, hl with | [_], _ => rfl
  g_law_kind := PySem.W.mg_of X G a_law_kind
  f_law_plus := f_law_plus
  fd_law_plus := _
  F_law_plus := fun_mk (st := s_law_plus) l_law_plus c_law_plus k_law_plus
  b_law_plus := (fun_mk (st := s_law_plus) l_law_plus c_law_plus k_law_plus).binds (ps := ["one", "two"]) fun _ _ _ _ _ _ us hl => match us, hl with | [_, _], _ => rfl
  g_law_plus := PySem.W.mg_of X G a_law_plus
  f_law_slope := f_law_slope
  fd_law_slope := _
  F_law_slope := fun_mk (st := s_law_slope) l_law_slope c_law_slope k_law_slope
  b_law_slope := (fun_mk (st := s_law_slope) l_law_slope c_law_slope k_law_slope).binds (ps := ["world", "first", "other"]) fun _ _ _ _ _ _ us hl => match us, hl with | [_, _, _], _ => rfl
  g_law_slope := PySem.W.mg_of X G a_law_slope
  f_law_times := f_law_times
  fd_law_times := _
  F_law_times := fun_mk (st := s_law_times) l_law_times c_law_times k_law_times
  b_law_times := (fun_mk (st := s_law_times) l_law_times c_law_times k_law_times).binds (ps := ["one", "two"]) fun _ _ _ _ _ _ us hl => match us, hl with | [_, _], _ => rfl
  g_law_times := PySem.W.mg_of X G a_law_times
  f_law_taken := f_law_taken
  fd_law_taken := _
  F_law_taken := fun_mk (st := s_law_taken) l_law_taken c_law_taken k_law_taken
  b_law_taken := (fun_mk (st := s_law_taken) l_law_taken c_law_taken k_law_taken).binds (ps := ["world", "mirror", "root"]) fun _ _ _ _ _ _ us hl => match us, hl with | [_, _, _], _ => rfl
  g_law_taken := PySem.W.mg_of X G a_law_taken
  f_law_mirrored := f_law_mirrored
  fd_law_mirrored := _
  F_law_mirrored := fun_mk (st := s_law_mirrored) l_law_mirrored c_law_mirrored k_law_mirrored
  b_law_mirrored := (fun_mk (st := s_law_mirrored) l_law_mirrored c_law_mirrored k_law_mirrored).binds (ps := ["world", "mirror", "root"]) fun _ _ _ _ _ _ us hl => match us, hl with | [_, _, _], _ => rfl
  g_law_mirrored := PySem.W.mg_of X G a_law_mirrored
  f_law_moved := f_law_moved
  fd_law_moved := _
  F_law_moved := fun_mk (st := s_law_moved) l_law_moved c_law_moved k_law_moved
  b_law_moved := (fun_mk (st := s_law_moved) l_law_moved c_law_moved k_law_moved).binds (ps := ["world", "word", "root"]) fun _ _ _ _ _ _ us hl => match us, hl with | [_, _, _], _ => rfl
  g_law_moved := PySem.W.mg_of X G a_law_moved
  f_law_sign := f_law_sign
  fd_law_sign := _
  F_law_sign := fun_mk (st := s_law_sign) l_law_sign c_law_sign k_law_sign
  b_law_sign := (fun_mk (st := s_law_sign) l_law_sign c_law_sign k_law_sign).binds (ps := ["number"]) fun _ _ _ _ _ _ us hl => match us, hl with | [_], _ => rfl
  g_law_sign := PySem.W.mg_of X G a_law_sign
  f_law_side := f_law_side
  fd_law_side := _
  F_law_side := fun_mk (st := s_law_side) l_law_side c_law_side k_law_side
  b_law_side := (fun_mk (st := s_law_side) l_law_side c_law_side k_law_side).binds (ps := ["root"]) fun _ _ _ _ _ _ us hl => match us, hl with | [_], _ => rfl
  g_law_side := PySem.W.mg_of X G a_law_side
  f_law_simple := f_law_simple
  fd_law_simple := _
  F_law_simple := fun_mk (st := s_law_simple) l_law_simple c_law_simple k_law_simple
  b_law_simple := (fun_mk (st := s_law_simple) l_law_simple c_law_simple k_law_simple).binds (ps := ["world", "mirror"]) fun _ _ _ _ _ _ us hl => match us, hl with | [_, _], _ => rfl
  g_law_simple := PySem.W.mg_of X G a_law_simple
  f_law_normal := f_law_normal
  fd_law_normal := _
  F_law_normal := fun_mk (st := s_law_normal) l_law_normal c_law_normal k_law_normal
  b_law_normal := (fun_mk (st := s_law_normal) l_law_normal c_law_normal k_law_normal).binds (ps := ["world", "word"]) fun _ _ _ _ _ _ us hl => match us, hl with | [_, _], _ => rfl
  g_law_normal := PySem.W.mg_of X G a_law_normal
  f_law_same := f_law_same
  fd_law_same := _
  F_law_same := fun_mk (st := s_law_same) l_law_same c_law_same k_law_same
  b_law_same := (fun_mk (st := s_law_same) l_law_same c_law_same k_law_same).binds (ps := ["actual", "expected"]) fun _ _ _ _ _ _ us hl => match us, hl with | [_, _], _ => rfl
  g_law_same := PySem.W.mg_of X G a_law_same
  f_law_step := f_law_step
  fd_law_step := _
  F_law_step := fun_mk (st := s_law_step) l_law_step c_law_step k_law_step
  b_law_step := (fun_mk (st := s_law_step) l_law_step c_law_step k_law_step).binds (ps := ["kind", "row", "mirror"]) fun _ _ _ _ _ _ us hl => match us, hl with | [_, _, _], _ => rfl
  g_law_step := PySem.W.mg_of X G a_law_step
  f_law_window := f_law_window
  fd_law_window := _
  F_law_window := fun_mk (st := s_law_window) l_law_window c_law_window k_law_window
  b_law_window := (fun_mk (st := s_law_window) l_law_window c_law_window k_law_window).binds (ps := ["kind", "many", "word"]) fun _ _ _ _ _ _ us hl => match us, hl with | [_, _, _], _ => rfl
  g_law_window := PySem.W.mg_of X G a_law_window
  f_law_word := f_law_word
  fd_law_word := _
  F_law_word := fun_mk (st := s_law_word) l_law_word c_law_word k_law_word
  b_law_word := (fun_mk (st := s_law_word) l_law_word c_law_word k_law_word).binds (ps := ["draws", "size", "most"]) fun _ _ _ _ _ _ us hl => match us, hl with | [_, _, _], _ => rfl
  g_law_word := PySem.W.mg_of X G a_law_word
  f_is_integer := f_is_integer
  fd_is_integer := _
  F_is_integer := fun_mk (st := s_is_integer) l_is_integer c_is_integer k_is_integer
  b_is_integer := (fun_mk (st := s_is_integer) l_is_integer c_is_integer k_is_integer).binds (ps := ["value"]) fun _ _ _ _ _ _ us hl => match us, hl with | [_], _ => rfl
  g_is_integer := PySem.W.mg_of X G a_is_integer
  f_look_at_kind := f_look_at_kind
  fd_look_at_kind := _
  F_look_at_kind := fun_mk (st := s_look_at_kind) l_look_at_kind c_look_at_kind k_look_at_kind
  b_look_at_kind := (fun_mk (st := s_look_at_kind) l_look_at_kind c_look_at_kind k_look_at_kind).binds (ps := ["kind", "many"]) fun _ _ _ _ _ _ us hl => match us, hl with | [_, _], _ => rfl
  g_look_at_kind := PySem.W.mg_of X G a_look_at_kind
  f_size_of := f_size_of
  fd_size_of := _
  F_size_of := fun_mk (st := s_size_of) l_size_of c_size_of k_size_of
  b_size_of := (fun_mk (st := s_size_of) l_size_of c_size_of k_size_of).binds (ps := ["kind", "many"]) fun _ _ _ _ _ _ us hl => match us, hl with | [_, _], _ => rfl
  g_size_of := PySem.W.mg_of X G a_size_of
  f_plain := f_plain
  fd_plain := _
  F_plain := fun_mk (st := s_plain) l_plain c_plain k_plain
  b_plain := (fun_mk (st := s_plain) l_plain c_plain k_plain).binds (ps := ["kind", "many"]) fun _ _ _ _ _ _ us hl => match us, hl with | [_, _], _ => rfl
  g_plain := PySem.W.mg_of X G a_plain
  f_is_window := f_is_window
  fd_is_window := _
  F_is_window := fun_mk (st := s_is_window) l_is_window c_is_window k_is_window
  b_is_window := (fun_mk (st := s_is_window) l_is_window c_is_window k_is_window).binds (ps := ["kind", "many", "value"]) fun _ _ _ _ _ _ us hl => match us, hl with | [_, _, _], _ => rfl
  g_is_window := PySem.W.mg_of X G a_is_window
  f_plain_row := f_plain_row
  fd_plain_row := _
  F_plain_row := fun_mk (st := s_plain_row) l_plain_row c_plain_row k_plain_row
  b_plain_row := (fun_mk (st := s_plain_row) l_plain_row c_plain_row k_plain_row).binds (ps := ["row"]) fun _ _ _ _ _ _ us hl => match us, hl with | [_], _ => rfl
  g_plain_row := PySem.W.mg_of X G a_plain_row
  f_signed_numbers := f_signed_numbers
  fd_signed_numbers := _
  F_signed_numbers := fun_mk (st := s_signed_numbers) l_signed_numbers c_signed_numbers k_signed_numbers
  b_signed_numbers := (fun_mk (st := s_signed_numbers) l_signed_numbers c_signed_numbers k_signed_numbers).binds (ps := ["kind", "many"]) fun _ _ _ _ _ _ us hl => match us, hl with | [_, _], _ => rfl
  g_signed_numbers := PySem.W.mg_of X G a_signed_numbers
  f_all_windows := f_all_windows
  fd_all_windows := _
  F_all_windows := fun_mk (st := s_all_windows) l_all_windows c_all_windows k_all_windows
  b_all_windows := (fun_mk (st := s_all_windows) l_all_windows c_all_windows k_all_windows).binds (ps := ["kind", "many"]) fun _ _ _ _ _ _ us hl => match us, hl with | [_, _], _ => rfl
  g_all_windows := PySem.W.mg_of X G a_all_windows
  f_falls := f_falls
  fd_falls := _
  F_falls := fun_mk (st := s_falls) l_falls c_falls k_falls
  b_falls := (fun_mk (st := s_falls) l_falls c_falls k_falls).binds (ps := ["kind", "window", "mirror"]) fun _ _ _ _ _ _ us hl => match us, hl with | [_, _, _], _ => rfl
  g_falls := PySem.W.mg_of X G a_falls
  f_look_at_window := f_look_at_window
  fd_look_at_window := _
  F_look_at_window := fun_mk (st := s_look_at_window) l_look_at_window c_look_at_window k_look_at_window
  b_look_at_window := (fun_mk (st := s_look_at_window) l_look_at_window c_look_at_window k_look_at_window).binds (ps := ["kind", "many", "value"]) fun _ _ _ _ _ _ us hl => match us, hl with | [_, _, _], _ => rfl
  g_look_at_window := PySem.W.mg_of X G a_look_at_window
  f_ends_of := f_ends_of
  fd_ends_of := _
  F_ends_of := fun_mk (st := s_ends_of) l_ends_of c_ends_of k_ends_of
  b_ends_of := (fun_mk (st := s_ends_of) l_ends_of c_ends_of k_ends_of).binds (ps := ["kind", "many", "window"]) fun _ _ _ _ _ _ us hl => match us, hl with | [_, _, _], _ => rfl
  g_ends_of := PySem.W.mg_of X G a_ends_of
  f_turned_back := f_turned_back
  fd_turned_back := _
  F_turned_back := fun_mk (st := s_turned_back) l_turned_back c_turned_back k_turned_back
  b_turned_back := (fun_mk (st := s_turned_back) l_turned_back c_turned_back k_turned_back).binds (ps := ["window"]) fun _ _ _ _ _ _ us hl => match us, hl with | [_], _ => rfl
  g_turned_back := PySem.W.mg_of X G a_turned_back
  f_beginnings_of := f_beginnings_of
  fd_beginnings_of := _
  F_beginnings_of := fun_mk (st := s_beginnings_of) l_beginnings_of c_beginnings_of k_beginnings_of
  b_beginnings_of := (fun_mk (st := s_beginnings_of) l_beginnings_of c_beginnings_of k_beginnings_of).binds (ps := ["kind", "many", "window"]) fun _ _ _ _ _ _ us hl => match us, hl with | [_, _, _], _ => rfl
  g_beginnings_of := PySem.W.mg_of X G a_beginnings_of
  f_pairs_out_of_order := f_pairs_out_of_order
  fd_pairs_out_of_order := _
  F_pairs_out_of_order := fun_mk (st := s_pairs_out_of_order) l_pairs_out_of_order c_pairs_out_of_order k_pairs_out_of_order
  b_pairs_out_of_order := (fun_mk (st := s_pairs_out_of_order) l_pairs_out_of_order c_pairs_out_of_order k_pairs_out_of_order).binds (ps := ["window"]) fun _ _ _ _ _ _ us hl => match us, hl with | [_], _ => rfl
  g_pairs_out_of_order := PySem.W.mg_of X G a_pairs_out_of_order
  f_length_of := f_length_of
  fd_length_of := _
  F_length_of := fun_mk (st := s_length_of) l_length_of c_length_of k_length_of
  b_length_of := (fun_mk (st := s_length_of) l_length_of c_length_of k_length_of).binds (ps := ["kind", "many", "window"]) fun _ _ _ _ _ _ us hl => match us, hl with | [_, _, _], _ => rfl
  g_length_of := PySem.W.mg_of X G a_length_of
  f_is_edge := f_is_edge
  fd_is_edge := _
  F_is_edge := fun_mk (st := s_is_edge) l_is_edge c_is_edge k_is_edge
  b_is_edge := (fun_mk (st := s_is_edge) l_is_edge c_is_edge k_is_edge).binds (ps := ["value", "size"]) fun _ _ _ _ _ _ us hl => match us, hl with | [_, _], _ => rfl
  g_is_edge := PySem.W.mg_of X G a_is_edge
  f_Diagram___init := f_Diagram___init
  fd_Diagram___init := _
  F_Diagram___init := fun_mk (st := s_Diagram___init) l_Diagram___init c_Diagram___init k_Diagram___init
  b_Diagram___init := (fun_mk (st := s_Diagram___init) l_Diagram___init c_Diagram___init k_Diagram___init).binds (ps := ["self", "size", "edges"]) fun _ _ _ _ _ _ us hl => match us, hl with | [_, _, _], _ => rfl
  f_line_diagram := f_line_diagram
  fd_line_diagram := _
  F_line_diagram := fun_mk (st := s_line_diagram) l_line_diagram c_line_diagram k_line_diagram
  b_line_diagram := (fun_mk (st := s_line_diagram) l_line_diagram c_line_diagram k_line_diagram).binds (ps := ["kind", "many"]) fun _ _ _ _ _ _ us hl => match us, hl with | [_, _], _ => rfl
  g_line_diagram := PySem.W.mg_of X G a_line_diagram
  f_is_word := f_is_word
  fd_is_word := _
  F_is_word := fun_mk (st := s_is_word) l_is_word c_is_word k_is_word
  b_is_word := (fun_mk (st := s_is_word) l_is_word c_is_word k_is_word).binds (ps := ["diagram", "value"]) fun _ _ _ _ _ _ us hl => match us, hl with | [_, _], _ => rfl
  g_is_word := PySem.W.mg_of X G a_is_word
  f_look_at_word := f_look_at_word
  fd_look_at_word := _
  F_look_at_word := fun_mk (st := s_look_at_word) l_look_at_word c_look_at_word k_look_at_word
  b_look_at_word := (fun_mk (st := s_look_at_word) l_look_at_word c_look_at_word k_look_at_word).binds (ps := ["diagram", "value"]) fun _ _ _ _ _ _ us hl => match us, hl with | [_, _], _ => rfl
  g_look_at_word := PySem.W.mg_of X G a_look_at_word
  f_stepped := f_stepped
  fd_stepped := _
  F_stepped := fun_mk (st := s_stepped) l_stepped c_stepped k_stepped
  b_stepped := (fun_mk (st := s_stepped) l_stepped c_stepped k_stepped).binds (ps := ["kind", "window", "mirror"]) fun _ _ _ _ _ _ us hl => match us, hl with | [_, _, _], _ => rfl
  g_stepped := PySem.W.mg_of X G a_stepped
  f_window_of := f_window_of
  fd_window_of := _
  F_window_of := fun_mk (st := s_window_of) l_window_of c_window_of k_window_of
  b_window_of := (fun_mk (st := s_window_of) l_window_of c_window_of k_window_of).binds (ps := ["kind", "many", "word"]) fun _ _ _ _ _ _ us hl => match us, hl with | [_, _, _], _ => rfl
  g_window_of := PySem.W.mg_of X G a_window_of
  f_word_of := f_word_of
  fd_word_of := _
  F_word_of := fun_mk (st := s_word_of) l_word_of c_word_of k_word_of
  b_word_of := (fun_mk (st := s_word_of) l_word_of c_word_of k_word_of).binds (ps := ["kind", "many", "window"]) fun _ _ _ _ _ _ us hl => match us, hl with | [_, _, _], _ => rfl
  g_word_of := PySem.W.mg_of X G a_word_of
  f_law_draws := f_law_draws
  fd_law_draws := _
  F_law_draws := fun_mk (st := s_law_draws) l_law_draws c_law_draws k_law_draws
  b_law_draws := (fun_mk (st := s_law_draws) l_law_draws c_law_draws k_law_draws).binds (ps := ["script"]) fun _ _ _ _ _ _ us hl => match us, hl with | [_], _ => rfl
  g_law_draws := PySem.W.mg_of X G a_law_draws
  f_law := f_law
  fd_law := _
  F_law := fun_mk (st := s_law) l_law c_law k_law
  b_law := (fun_mk (st := s_law) l_law c_law k_law).binds (ps := ["script"]) fun _ _ _ _ _ _ us hl => match us, hl with | [_], _ => rfl
  g_law := PySem.W.mg_of X G a_law
  n_abs := PySem.W.mg_none_of X G z_abs
  n_all := PySem.W.mg_none_of X G z_all
  n_bool := PySem.W.mg_none_of X G z_bool
  n_enumerate := PySem.W.mg_none_of X G z_enumerate
  n_int := PySem.W.mg_none_of X G z_int
  n_isinstance := PySem.W.mg_none_of X G z_isinstance
  n_len := PySem.W.mg_none_of X G z_len
  n_list := PySem.W.mg_none_of X G z_list
  n_max := PySem.W.mg_none_of X G z_max
  n_min := PySem.W.mg_none_of X G z_min
  n_range := PySem.W.mg_none_of X G z_range
  n_sorted := PySem.W.mg_none_of X G z_sorted
  n_str := PySem.W.mg_none_of X G z_str
  n_sum := PySem.W.mg_none_of X G z_sum
  n_tuple := PySem.W.mg_none_of X G z_tuple
  C_BadDiagram := C_BadDiagram
  g_BadDiagram := PySem.W.mg_of X G aC_BadDiagram
  x_BadDiagram := x_BadDiagram
  k_BadDiagram := kC_BadDiagram
  b_BadDiagram := bC_BadDiagram
  t_BadDiagram := tC_BadDiagram
  C_BadWord := C_BadWord
  g_BadWord := PySem.W.mg_of X G aC_BadWord
  x_BadWord := x_BadWord
  k_BadWord := kC_BadWord
  b_BadWord := bC_BadWord
  t_BadWord := tC_BadWord
  C_Diagram := C_Diagram
  g_Diagram := PySem.W.mg_of X G aC_Diagram
  cl_Diagram := ⟨pg_Diagram, hd_Diagram, po_Diagram, sa_Diagram⟩
  na_Diagram_labels := na_Diagram_labels
  na_Diagram_size := na_Diagram_size
  mk_Diagram := ⟨mk_Diagram, a_Diagram___init, i_Diagram___init, kC_Diagram⟩
  c_KINDS := ⟨.ref A_KINDS, .ref A_KINDS, PySem.W.mg_of X G q_KINDS, rfl, fun F => ⟨A_KINDS, [V.str "A", V.str "B", V.str "D"], rfl, .inr ⟨_, _, _, w_KINDS, rfl, rfl, by rw [sizeLine_eq]; show 3 ≤ 16777216; decide, (.cons ⟨tok_KINDS_0, rfl⟩ (.cons ⟨tok_KINDS_1, rfl⟩ (.cons ⟨tok_KINDS_2, rfl⟩ .nil)))⟩, ⟨_, _, rfl, rfl, ⟨_, _, rfl, rfl, ⟨_, _, rfl, rfl, rfl⟩⟩⟩⟩⟩
  c_LABELS := ⟨.ref A_LABELS, .ref A_LABELS, PySem.W.mg_of X G q_LABELS, rfl, fun F => ⟨A_LABELS, [V.int (0), V.int (3), V.int (4), V.int (5), V.int (6)], rfl, .inr ⟨_, _, _, w_LABELS, rfl, rfl, by rw [sizeLine_eq]; show 5 ≤ 16777216; decide, (.cons ⟨tok_LABELS_0, rfl⟩ (.cons ⟨tok_LABELS_1, rfl⟩ (.cons ⟨tok_LABELS_2, rfl⟩ (.cons ⟨tok_LABELS_3, rfl⟩ (.cons ⟨tok_LABELS_4, rfl⟩ .nil)))))⟩, ⟨_, _, rfl, rfl, ⟨_, _, rfl, rfl, ⟨_, _, rfl, rfl, ⟨_, _, rfl, rfl, ⟨_, _, rfl, rfl, rfl⟩⟩⟩⟩⟩⟩⟩
  c_MOST := ⟨(.int (8) : V), _, PySem.W.mg_of X G q_MOST, ⟨tok_MOST, rfl⟩, fun F => rfl⟩
  c_MOST_LETTERS := ⟨(.int (400) : V), _, PySem.W.mg_of X G q_MOST_LETTERS, ⟨tok_MOST_LETTERS, rfl⟩, fun F => rfl⟩
  c_MOST_MIRRORS := ⟨(.int (9) : V), _, PySem.W.mg_of X G q_MOST_MIRRORS, ⟨tok_MOST_MIRRORS, rfl⟩, fun F => rfl⟩
theorem all_mk {l : PySem.W.OpenLaw} {w : World} {K : PySem.W.Frag} {h : Heap} {mg : Str → Option Value} {C_BadDiagram C_BadWord C_Diagram f_law_all f_law_draw f_law_edges f_law_kind f_law_plus f_law_slope f_law_times f_law_taken f_law_mirrored f_law_moved f_law_sign f_law_side f_law_simple f_law_normal f_law_same f_law_step f_law_window f_law_word f_is_integer f_look_at_kind f_size_of f_plain f_is_window f_plain_row f_signed_numbers f_all_windows f_falls f_look_at_window f_ends_of f_turned_back f_beginnings_of f_pairs_out_of_order f_length_of f_is_edge f_Diagram___init f_line_diagram f_is_word f_look_at_word f_stepped f_window_of f_word_of f_law_draws f_law A_KINDS A_LABELS : Addr} {fa : Addr} (X : K.In h) (G : h.Ns mainGlobals mg) (hfa : mg "law" = some (.ref fa))
    {od0 an0 od1 an1 od2 an2 od3 an3 od4 an4 od5 an5 od6 an6 od7 an7 od8 an8 od9 an9 od10 an10 od11 an11 od12 an12 od13 an13 od14 an14 od15 an15 od16 an16 od17 an17 od18 an18 od19 an19 od20 an20 od21 an21 od22 an22 od23 an23 od24 an24 od25 an25 od26 an26 od27 an27 od28 an28 od29 an29 od30 an30 od31 an31 od32 an32 od33 an33 od34 an34 od35 an35 od36 an36 od37 an37 od38 an38 od39 an39 od40 an40 od41 an41 od42 an42 ao_KINDS ao_LABELS : Option Addr} {sl0 sl1 sl2 sl3 sl4 sl5 sl6 sl7 sl8 sl9 sl10 sl11 sl12 sl13 sl14 sl15 sl16 sl17 sl18 sl19 sl20 sl21 sl22 sl23 sl24 sl25 sl26 sl27 sl28 sl29 sl30 sl31 sl32 sl33 sl34 sl35 sl36 sl37 sl38 sl39 sl40 sl41 sl42 as_KINDS as_LABELS : Array (Option Value)} {oc0 kV0 dc0 pm0 cd0 ct0 oc1 kV1 dc1 pm1 cd1 ct1 oc2 kV2 dc2 pm2 cd2 ct2 oc3 kV3 dc3 pm3 cd3 ct3 oc4 kV4 dc4 pm4 cd4 ct4 oc5 kV5 dc5 pm5 cd5 ct5 oc6 kV6 dc6 pm6 cd6 ct6 oc7 kV7 dc7 pm7 cd7 ct7 oc8 kV8 dc8 pm8 cd8 ct8 oc9 kV9 dc9 pm9 cd9 ct9 oc10 kV10 dc10 pm10 cd10 ct10 oc11 kV11 dc11 pm11 cd11 ct11 oc12 kV12 dc12 pm12 cd12 ct12 oc13 kV13 dc13 pm13 cd13 ct13 oc14 kV14 dc14 pm14 cd14 ct14 oc15 kV15 dc15 pm15 cd15 ct15 oc16 kV16 dc16 pm16 cd16 ct16 oc17 kV17 dc17 pm17 cd17 ct17 oc18 kV18 dc18 pm18 cd18 ct18 oc19 kV19 dc19 pm19 cd19 ct19 oc20 kV20 dc20 pm20 cd20 ct20 oc21 kV21 dc21 pm21 cd21 ct21 oc22 kV22 dc22 pm22 cd22 ct22 oc23 kV23 dc23 pm23 cd23 ct23 oc24 kV24 dc24 pm24 cd24 ct24 oc25 kV25 dc25 pm25 cd25 ct25 oc26 kV26 dc26 pm26 cd26 ct26 oc27 kV27 dc27 pm27 cd27 ct27 oc28 kV28 dc28 pm28 cd28 ct28 oc29 kV29 dc29 pm29 cd29 ct29 oc30 kV30 dc30 pm30 cd30 ct30 oc31 kV31 dc31 pm31 cd31 ct31 oc32 kV32 dc32 pm32 cd32 ct32 oc33 kV33 dc33 pm33 cd33 ct33 oc34 kV34 dc34 pm34 cd34 ct34 oc35 kV35 dc35 pm35 cd35 ct35 oc36 kV36 dc36 pm36 cd36 ct36 oc37 kV37 dc37 pm37 cd37 ct37 oc38 kV38 dc38 pm38 cd38 ct38 oc39 kV39 dc39 pm39 cd39 ct39 oc40 kV40 dc40 pm40 cd40 ct40 oc41 kV41 dc41 pm41 cd41 ct41 oc42 kV42 dc42 pm42 cd42 ct42 : Value} {tok_KINDS_0 tok_KINDS_1 tok_KINDS_2 tok_LABELS_0 tok_LABELS_1 tok_LABELS_2 tok_LABELS_3 tok_LABELS_4 tok_MOST tok_MOST_LETTERS tok_MOST_MIRRORS : Tok} {an_KINDS an_LABELS : Nat}
    (aC_BadDiagram : PySem.W.nsIn K mainGlobals "BadDiagram" = some (some (.ref C_BadDiagram)))
    (aC_BadWord : PySem.W.nsIn K mainGlobals "BadWord" = some (some (.ref C_BadWord)))
    (aC_Diagram : PySem.W.nsIn K mainGlobals "Diagram" = some (some (.ref C_Diagram)))
    (a_law_all : PySem.W.nsIn K mainGlobals "_law_all" = some (some (.ref f_law_all)))
    (l_law_all : K.lookup f_law_all = some ⟨oc0, od0, .func (PySem.W.fnOf "_law_all" "_law_all" (defArgs s_law_all) (defBody s_law_all) (defScope s_law_all) .none kV0 dc0 pm0 an0 cd0 ct0), sl0⟩)
    (c_law_all : PySem.W.codeIn K cd0 "_law_all" = true)
    (k_law_all : PySem.W.keepIn K (.ref f_law_all) = true)
    (a_law_draw : PySem.W.nsIn K mainGlobals "_law_draw" = some (some (.ref f_law_draw)))
    (l_law_draw : K.lookup f_law_draw = some ⟨oc1, od1, .func (PySem.W.fnOf "_law_draw" "_law_draw" (defArgs s_law_draw) (defBody s_law_draw) (defScope s_law_draw) .none kV1 dc1 pm1 an1 cd1 ct1), sl1⟩)
    (c_law_draw : PySem.W.codeIn K cd1 "_law_draw" = true)
    (k_law_draw : PySem.W.keepIn K (.ref f_law_draw) = true)
    (a_law_edges : PySem.W.nsIn K mainGlobals "_law_edges" = some (some (.ref f_law_edges)))
    (l_law_edges : K.lookup f_law_edges = some ⟨oc2, od2, .func (PySem.W.fnOf "_law_edges" "_law_edges" (defArgs s_law_edges) (defBody s_law_edges) (defScope s_law_edges) .none kV2 dc2 pm2 an2 cd2 ct2), sl2⟩)
    (c_law_edges : PySem.W.codeIn K cd2 "_law_edges" = true)
    (k_law_edges : PySem.W.keepIn K (.ref f_law_edges) = true)
    (a_law_kind : PySem.W.nsIn K mainGlobals "_law_kind" = some (some (.ref f_law_kind)))
    (l_law_kind : K.lookup f_law_kind = some ⟨oc3, od3, .func (PySem.W.fnOf "_law_kind" "_law_kind" (defArgs s_law_kind) (defBody s_law_kind) (defScope s_law_kind) .none kV3 dc3 pm3 an3 cd3 ct3), sl3⟩)
    (c_law_kind : PySem.W.codeIn K cd3 "_law_kind" = true)
    (k_law_kind : PySem.W.keepIn K (.ref f_law_kind) = true)
    (a_law_plus : PySem.W.nsIn K mainGlobals "_law_plus" = some (some (.ref f_law_plus)))
    (l_law_plus : K.lookup f_law_plus = some ⟨oc4, od4, .func (PySem.W.fnOf "_law_plus" "_law_plus" (defArgs s_law_plus) (defBody s_law_plus) (defScope s_law_plus) .none kV4 dc4 pm4 an4 cd4 ct4), sl4⟩)
    (c_law_plus : PySem.W.codeIn K cd4 "_law_plus" = true)
    (k_law_plus : PySem.W.keepIn K (.ref f_law_plus) = true)
    (a_law_slope : PySem.W.nsIn K mainGlobals "_law_slope" = some (some (.ref f_law_slope)))
    (l_law_slope : K.lookup f_law_slope = some ⟨oc5, od5, .func (PySem.W.fnOf "_law_slope" "_law_slope" (defArgs s_law_slope) (defBody s_law_slope) (defScope s_law_slope) .none kV5 dc5 pm5 an5 cd5 ct5), sl5⟩)
    (c_law_slope : PySem.W.codeIn K cd5 "_law_slope" = true)
    (k_law_slope : PySem.W.keepIn K (.ref f_law_slope) = true)
    (a_law_times : PySem.W.nsIn K mainGlobals "_law_times" = some (some (.ref f_law_times)))
    (l_law_times : K.lookup f_law_times = some ⟨oc6, od6, .func (PySem.W.fnOf "_law_times" "_law_times" (defArgs s_law_times) (defBody s_law_times) (defScope s_law_times) .none kV6 dc6 pm6 an6 cd6 ct6), sl6⟩)
    (c_law_times : PySem.W.codeIn K cd6 "_law_times" = true)
    (k_law_times : PySem.W.keepIn K (.ref f_law_times) = true)
    (a_law_taken : PySem.W.nsIn K mainGlobals "_law_taken" = some (some (.ref f_law_taken)))
    (l_law_taken : K.lookup f_law_taken = some ⟨oc7, od7, .func (PySem.W.fnOf "_law_taken" "_law_taken" (defArgs s_law_taken) (defBody s_law_taken) (defScope s_law_taken) .none kV7 dc7 pm7 an7 cd7 ct7), sl7⟩)
    (c_law_taken : PySem.W.codeIn K cd7 "_law_taken" = true)
    (k_law_taken : PySem.W.keepIn K (.ref f_law_taken) = true)
    (a_law_mirrored : PySem.W.nsIn K mainGlobals "_law_mirrored" = some (some (.ref f_law_mirrored)))
    (l_law_mirrored : K.lookup f_law_mirrored = some ⟨oc8, od8, .func (PySem.W.fnOf "_law_mirrored" "_law_mirrored" (defArgs s_law_mirrored) (defBody s_law_mirrored) (defScope s_law_mirrored) .none kV8 dc8 pm8 an8 cd8 ct8), sl8⟩)
    (c_law_mirrored : PySem.W.codeIn K cd8 "_law_mirrored" = true)
    (k_law_mirrored : PySem.W.keepIn K (.ref f_law_mirrored) = true)
    (a_law_moved : PySem.W.nsIn K mainGlobals "_law_moved" = some (some (.ref f_law_moved)))
    (l_law_moved : K.lookup f_law_moved = some ⟨oc9, od9, .func (PySem.W.fnOf "_law_moved" "_law_moved" (defArgs s_law_moved) (defBody s_law_moved) (defScope s_law_moved) .none kV9 dc9 pm9 an9 cd9 ct9), sl9⟩)
    (c_law_moved : PySem.W.codeIn K cd9 "_law_moved" = true)
    (k_law_moved : PySem.W.keepIn K (.ref f_law_moved) = true)
    (a_law_sign : PySem.W.nsIn K mainGlobals "_law_sign" = some (some (.ref f_law_sign)))
    (l_law_sign : K.lookup f_law_sign = some ⟨oc10, od10, .func (PySem.W.fnOf "_law_sign" "_law_sign" (defArgs s_law_sign) (defBody s_law_sign) (defScope s_law_sign) .none kV10 dc10 pm10 an10 cd10 ct10), sl10⟩)
    (c_law_sign : PySem.W.codeIn K cd10 "_law_sign" = true)
    (k_law_sign : PySem.W.keepIn K (.ref f_law_sign) = true)
    (a_law_side : PySem.W.nsIn K mainGlobals "_law_side" = some (some (.ref f_law_side)))
    (l_law_side : K.lookup f_law_side = some ⟨oc11, od11, .func (PySem.W.fnOf "_law_side" "_law_side" (defArgs s_law_side) (defBody s_law_side) (defScope s_law_side) .none kV11 dc11 pm11 an11 cd11 ct11), sl11⟩)
    (c_law_side : PySem.W.codeIn K cd11 "_law_side" = true)
    (k_law_side : PySem.W.keepIn K (.ref f_law_side) = true)
    (a_law_simple : PySem.W.nsIn K mainGlobals "_law_simple" = some (some (.ref f_law_simple)))
    (l_law_simple : K.lookup f_law_simple = some ⟨oc12, od12, .func (PySem.W.fnOf "_law_simple" "_law_simple" (defArgs s_law_simple) (defBody s_law_simple) (defScope s_law_simple) .none kV12 dc12 pm12 an12 cd12 ct12), sl12⟩)
    (c_law_simple : PySem.W.codeIn K cd12 "_law_simple" = true)
    (k_law_simple : PySem.W.keepIn K (.ref f_law_simple) = true)
    (a_law_normal : PySem.W.nsIn K mainGlobals "_law_normal" = some (some (.ref f_law_normal)))
    (l_law_normal : K.lookup f_law_normal = some ⟨oc13, od13, .func (PySem.W.fnOf "_law_normal" "_law_normal" (defArgs s_law_normal) (defBody s_law_normal) (defScope s_law_normal) .none kV13 dc13 pm13 an13 cd13 ct13), sl13⟩)
    (c_law_normal : PySem.W.codeIn K cd13 "_law_normal" = true)
    (k_law_normal : PySem.W.keepIn K (.ref f_law_normal) = true)
    (a_law_same : PySem.W.nsIn K mainGlobals "_law_same" = some (some (.ref f_law_same)))
    (l_law_same : K.lookup f_law_same = some ⟨oc14, od14, .func (PySem.W.fnOf "_law_same" "_law_same" (defArgs s_law_same) (defBody s_law_same) (defScope s_law_same) .none kV14 dc14 pm14 an14 cd14 ct14), sl14⟩)
    (c_law_same : PySem.W.codeIn K cd14 "_law_same" = true)
    (k_law_same : PySem.W.keepIn K (.ref f_law_same) = true)
    (a_law_step : PySem.W.nsIn K mainGlobals "_law_step" = some (some (.ref f_law_step)))
    (l_law_step : K.lookup f_law_step = some ⟨oc15, od15, .func (PySem.W.fnOf "_law_step" "_law_step" (defArgs s_law_step) (defBody s_law_step) (defScope s_law_step) .none kV15 dc15 pm15 an15 cd15 ct15), sl15⟩)
    (c_law_step : PySem.W.codeIn K cd15 "_law_step" = true)
    (k_law_step : PySem.W.keepIn K (.ref f_law_step) = true)
    (a_law_window : PySem.W.nsIn K mainGlobals "_law_window" = some (some (.ref f_law_window)))
    (l_law_window : K.lookup f_law_window = some ⟨oc16, od16, .func (PySem.W.fnOf "_law_window" "_law_window" (defArgs s_law_window) (defBody s_law_window) (defScope s_law_window) .none kV16 dc16 pm16 an16 cd16 ct16), sl16⟩)
    (c_law_window : PySem.W.codeIn K cd16 "_law_window" = true)
    (k_law_window : PySem.W.keepIn K (.ref f_law_window) = true)
    (a_law_word : PySem.W.nsIn K mainGlobals "_law_word" = some (some (.ref f_law_word)))
    (l_law_word : K.lookup f_law_word = some ⟨oc17, od17, .func (PySem.W.fnOf "_law_word" "_law_word" (defArgs s_law_word) (defBody s_law_word) (defScope s_law_word) .none kV17 dc17 pm17 an17 cd17 ct17), sl17⟩)
    (c_law_word : PySem.W.codeIn K cd17 "_law_word" = true)
    (k_law_word : PySem.W.keepIn K (.ref f_law_word) = true)
    (a_is_integer : PySem.W.nsIn K mainGlobals "is_integer" = some (some (.ref f_is_integer)))
    (l_is_integer : K.lookup f_is_integer = some ⟨oc18, od18, .func (PySem.W.fnOf "is_integer" "is_integer" (defArgs s_is_integer) (defBody s_is_integer) (defScope s_is_integer) .none kV18 dc18 pm18 an18 cd18 ct18), sl18⟩)
    (c_is_integer : PySem.W.codeIn K cd18 "is_integer" = true)
    (k_is_integer : PySem.W.keepIn K (.ref f_is_integer) = true)
    (a_look_at_kind : PySem.W.nsIn K mainGlobals "look_at_kind" = some (some (.ref f_look_at_kind)))
    (l_look_at_kind : K.lookup f_look_at_kind = some ⟨oc19, od19, .func (PySem.W.fnOf "look_at_kind" "look_at_kind" (defArgs s_look_at_kind) (defBody s_look_at_kind) (defScope s_look_at_kind) .none kV19 dc19 pm19 an19 cd19 ct19), sl19⟩)
    (c_look_at_kind : PySem.W.codeIn K cd19 "look_at_kind" = true)
    (k_look_at_kind : PySem.W.keepIn K (.ref f_look_at_kind) = true)
    (a_size_of : PySem.W.nsIn K mainGlobals "size_of" = some (some (.ref f_size_of)))
    (l_size_of : K.lookup f_size_of = some ⟨oc20, od20, .func (PySem.W.fnOf "size_of" "size_of" (defArgs s_size_of) (defBody s_size_of) (defScope s_size_of) .none kV20 dc20 pm20 an20 cd20 ct20), sl20⟩)
    (c_size_of : PySem.W.codeIn K cd20 "size_of" = true)
    (k_size_of : PySem.W.keepIn K (.ref f_size_of) = true)
    (a_plain : PySem.W.nsIn K mainGlobals "plain" = some (some (.ref f_plain)))
    (l_plain : K.lookup f_plain = some ⟨oc21, od21, .func (PySem.W.fnOf "plain" "plain" (defArgs s_plain) (defBody s_plain) (defScope s_plain) .none kV21 dc21 pm21 an21 cd21 ct21), sl21⟩)
    (c_plain : PySem.W.codeIn K cd21 "plain" = true)
    (k_plain : PySem.W.keepIn K (.ref f_plain) = true)
    (a_is_window : PySem.W.nsIn K mainGlobals "is_window" = some (some (.ref f_is_window)))
    (l_is_window : K.lookup f_is_window = some ⟨oc22, od22, .func (PySem.W.fnOf "is_window" "is_window" (defArgs s_is_window) (defBody s_is_window) (defScope s_is_window) .none kV22 dc22 pm22 an22 cd22 ct22), sl22⟩)
    (c_is_window : PySem.W.codeIn K cd22 "is_window" = true)
    (k_is_window : PySem.W.keepIn K (.ref f_is_window) = true)
    (a_plain_row : PySem.W.nsIn K mainGlobals "plain_row" = some (some (.ref f_plain_row)))
    (l_plain_row : K.lookup f_plain_row = some ⟨oc23, od23, .func (PySem.W.fnOf "plain_row" "plain_row" (defArgs s_plain_row) (defBody s_plain_row) (defScope s_plain_row) .none kV23 dc23 pm23 an23 cd23 ct23), sl23⟩)
    (c_plain_row : PySem.W.codeIn K cd23 "plain_row" = true)
    (k_plain_row : PySem.W.keepIn K (.ref f_plain_row) = true)
    (a_signed_numbers : PySem.W.nsIn K mainGlobals "signed_numbers" = some (some (.ref f_signed_numbers)))
    (l_signed_numbers : K.lookup f_signed_numbers = some ⟨oc24, od24, .func (PySem.W.fnOf "signed_numbers" "signed_numbers" (defArgs s_signed_numbers) (defBody s_signed_numbers) (defScope s_signed_numbers) .none kV24 dc24 pm24 an24 cd24 ct24), sl24⟩)
    (c_signed_numbers : PySem.W.codeIn K cd24 "signed_numbers" = true)
    (k_signed_numbers : PySem.W.keepIn K (.ref f_signed_numbers) = true)
    (a_all_windows : PySem.W.nsIn K mainGlobals "all_windows" = some (some (.ref f_all_windows)))
    (l_all_windows : K.lookup f_all_windows = some ⟨oc25, od25, .func (PySem.W.fnOf "all_windows" "all_windows" (defArgs s_all_windows) (defBody s_all_windows) (defScope s_all_windows) .none kV25 dc25 pm25 an25 cd25 ct25), sl25⟩)
    (c_all_windows : PySem.W.codeIn K cd25 "all_windows" = true)
    (k_all_windows : PySem.W.keepIn K (.ref f_all_windows) = true)
    (a_falls : PySem.W.nsIn K mainGlobals "falls" = some (some (.ref f_falls)))
    (l_falls : K.lookup f_falls = some ⟨oc26, od26, .func (PySem.W.fnOf "falls" "falls" (defArgs s_falls) (defBody s_falls) (defScope s_falls) .none kV26 dc26 pm26 an26 cd26 ct26), sl26⟩)
    (c_falls : PySem.W.codeIn K cd26 "falls" = true)
    (k_falls : PySem.W.keepIn K (.ref f_falls) = true)
    (a_look_at_window : PySem.W.nsIn K mainGlobals "look_at_window" = some (some (.ref f_look_at_window)))
    (l_look_at_window : K.lookup f_look_at_window = some ⟨oc27, od27, .func (PySem.W.fnOf "look_at_window" "look_at_window" (defArgs s_look_at_window) (defBody s_look_at_window) (defScope s_look_at_window) .none kV27 dc27 pm27 an27 cd27 ct27), sl27⟩)
    (c_look_at_window : PySem.W.codeIn K cd27 "look_at_window" = true)
    (k_look_at_window : PySem.W.keepIn K (.ref f_look_at_window) = true)
    (a_ends_of : PySem.W.nsIn K mainGlobals "ends_of" = some (some (.ref f_ends_of)))
    (l_ends_of : K.lookup f_ends_of = some ⟨oc28, od28, .func (PySem.W.fnOf "ends_of" "ends_of" (defArgs s_ends_of) (defBody s_ends_of) (defScope s_ends_of) .none kV28 dc28 pm28 an28 cd28 ct28), sl28⟩)
    (c_ends_of : PySem.W.codeIn K cd28 "ends_of" = true)
    (k_ends_of : PySem.W.keepIn K (.ref f_ends_of) = true)
    (a_turned_back : PySem.W.nsIn K mainGlobals "turned_back" = some (some (.ref f_turned_back)))
    (l_turned_back : K.lookup f_turned_back = some ⟨oc29, od29, .func (PySem.W.fnOf "turned_back" "turned_back" (defArgs s_turned_back) (defBody s_turned_back) (defScope s_turned_back) .none kV29 dc29 pm29 an29 cd29 ct29), sl29⟩)
    (c_turned_back : PySem.W.codeIn K cd29 "turned_back" = true)
    (k_turned_back : PySem.W.keepIn K (.ref f_turned_back) = true)
    (a_beginnings_of : PySem.W.nsIn K mainGlobals "beginnings_of" = some (some (.ref f_beginnings_of)))
    (l_beginnings_of : K.lookup f_beginnings_of = some ⟨oc30, od30, .func (PySem.W.fnOf "beginnings_of" "beginnings_of" (defArgs s_beginnings_of) (defBody s_beginnings_of) (defScope s_beginnings_of) .none kV30 dc30 pm30 an30 cd30 ct30), sl30⟩)
    (c_beginnings_of : PySem.W.codeIn K cd30 "beginnings_of" = true)
    (k_beginnings_of : PySem.W.keepIn K (.ref f_beginnings_of) = true)
    (a_pairs_out_of_order : PySem.W.nsIn K mainGlobals "pairs_out_of_order" = some (some (.ref f_pairs_out_of_order)))
    (l_pairs_out_of_order : K.lookup f_pairs_out_of_order = some ⟨oc31, od31, .func (PySem.W.fnOf "pairs_out_of_order" "pairs_out_of_order" (defArgs s_pairs_out_of_order) (defBody s_pairs_out_of_order) (defScope s_pairs_out_of_order) .none kV31 dc31 pm31 an31 cd31 ct31), sl31⟩)
    (c_pairs_out_of_order : PySem.W.codeIn K cd31 "pairs_out_of_order" = true)
    (k_pairs_out_of_order : PySem.W.keepIn K (.ref f_pairs_out_of_order) = true)
    (a_length_of : PySem.W.nsIn K mainGlobals "length_of" = some (some (.ref f_length_of)))
    (l_length_of : K.lookup f_length_of = some ⟨oc32, od32, .func (PySem.W.fnOf "length_of" "length_of" (defArgs s_length_of) (defBody s_length_of) (defScope s_length_of) .none kV32 dc32 pm32 an32 cd32 ct32), sl32⟩)
    (c_length_of : PySem.W.codeIn K cd32 "length_of" = true)
    (k_length_of : PySem.W.keepIn K (.ref f_length_of) = true)
    (a_is_edge : PySem.W.nsIn K mainGlobals "is_edge" = some (some (.ref f_is_edge)))
    (l_is_edge : K.lookup f_is_edge = some ⟨oc33, od33, .func (PySem.W.fnOf "is_edge" "is_edge" (defArgs s_is_edge) (defBody s_is_edge) (defScope s_is_edge) .none kV33 dc33 pm33 an33 cd33 ct33), sl33⟩)
    (c_is_edge : PySem.W.codeIn K cd33 "is_edge" = true)
    (k_is_edge : PySem.W.keepIn K (.ref f_is_edge) = true)
    (a_Diagram___init : PySem.W.findIn K (.ref C_Diagram) "__init__" = some (some (.ref f_Diagram___init)))
    (i_Diagram___init : PySem.W.isFn K (.ref f_Diagram___init) = true)
    (l_Diagram___init : K.lookup f_Diagram___init = some ⟨oc34, od34, .func (PySem.W.fnOf "__init__" "Diagram.__init__" (defArgs s_Diagram___init) (defBody s_Diagram___init) (defScope s_Diagram___init) .none kV34 dc34 pm34 an34 cd34 ct34), sl34⟩)
    (c_Diagram___init : PySem.W.codeIn K cd34 "Diagram.__init__" = true)
    (k_Diagram___init : PySem.W.keepIn K (.ref f_Diagram___init) = true)
    (a_line_diagram : PySem.W.nsIn K mainGlobals "line_diagram" = some (some (.ref f_line_diagram)))
    (l_line_diagram : K.lookup f_line_diagram = some ⟨oc35, od35, .func (PySem.W.fnOf "line_diagram" "line_diagram" (defArgs s_line_diagram) (defBody s_line_diagram) (defScope s_line_diagram) .none kV35 dc35 pm35 an35 cd35 ct35), sl35⟩)
    (c_line_diagram : PySem.W.codeIn K cd35 "line_diagram" = true)
    (k_line_diagram : PySem.W.keepIn K (.ref f_line_diagram) = true)
    (a_is_word : PySem.W.nsIn K mainGlobals "is_word" = some (some (.ref f_is_word)))
    (l_is_word : K.lookup f_is_word = some ⟨oc36, od36, .func (PySem.W.fnOf "is_word" "is_word" (defArgs s_is_word) (defBody s_is_word) (defScope s_is_word) .none kV36 dc36 pm36 an36 cd36 ct36), sl36⟩)
    (c_is_word : PySem.W.codeIn K cd36 "is_word" = true)
    (k_is_word : PySem.W.keepIn K (.ref f_is_word) = true)
    (a_look_at_word : PySem.W.nsIn K mainGlobals "look_at_word" = some (some (.ref f_look_at_word)))
    (l_look_at_word : K.lookup f_look_at_word = some ⟨oc37, od37, .func (PySem.W.fnOf "look_at_word" "look_at_word" (defArgs s_look_at_word) (defBody s_look_at_word) (defScope s_look_at_word) .none kV37 dc37 pm37 an37 cd37 ct37), sl37⟩)
    (c_look_at_word : PySem.W.codeIn K cd37 "look_at_word" = true)
    (k_look_at_word : PySem.W.keepIn K (.ref f_look_at_word) = true)
    (a_stepped : PySem.W.nsIn K mainGlobals "stepped" = some (some (.ref f_stepped)))
    (l_stepped : K.lookup f_stepped = some ⟨oc38, od38, .func (PySem.W.fnOf "stepped" "stepped" (defArgs s_stepped) (defBody s_stepped) (defScope s_stepped) .none kV38 dc38 pm38 an38 cd38 ct38), sl38⟩)
    (c_stepped : PySem.W.codeIn K cd38 "stepped" = true)
    (k_stepped : PySem.W.keepIn K (.ref f_stepped) = true)
    (a_window_of : PySem.W.nsIn K mainGlobals "window_of" = some (some (.ref f_window_of)))
    (l_window_of : K.lookup f_window_of = some ⟨oc39, od39, .func (PySem.W.fnOf "window_of" "window_of" (defArgs s_window_of) (defBody s_window_of) (defScope s_window_of) .none kV39 dc39 pm39 an39 cd39 ct39), sl39⟩)
    (c_window_of : PySem.W.codeIn K cd39 "window_of" = true)
    (k_window_of : PySem.W.keepIn K (.ref f_window_of) = true)
    (a_word_of : PySem.W.nsIn K mainGlobals "word_of" = some (some (.ref f_word_of)))
    (l_word_of : K.lookup f_word_of = some ⟨oc40, od40, .func (PySem.W.fnOf "word_of" "word_of" (defArgs s_word_of) (defBody s_word_of) (defScope s_word_of) .none kV40 dc40 pm40 an40 cd40 ct40), sl40⟩)
    (c_word_of : PySem.W.codeIn K cd40 "word_of" = true)
    (k_word_of : PySem.W.keepIn K (.ref f_word_of) = true)
    (a_law_draws : PySem.W.nsIn K mainGlobals "_law_draws" = some (some (.ref f_law_draws)))
    (l_law_draws : K.lookup f_law_draws = some ⟨oc41, od41, .func (PySem.W.fnOf "_law_draws" "_law_draws" (defArgs s_law_draws) (defBody s_law_draws) (defScope s_law_draws) .none kV41 dc41 pm41 an41 cd41 ct41), sl41⟩)
    (c_law_draws : PySem.W.codeIn K cd41 "_law_draws" = true)
    (k_law_draws : PySem.W.keepIn K (.ref f_law_draws) = true)
    (a_law : PySem.W.nsIn K mainGlobals "law" = some (some (.ref f_law)))
    (l_law : K.lookup f_law = some ⟨oc42, od42, .func (PySem.W.fnOf "law" "law" (defArgs s_law) (defBody s_law) (defScope s_law) .none kV42 dc42 pm42 an42 cd42 ct42), sl42⟩)
    (c_law : PySem.W.codeIn K cd42 "law" = true)
    (k_law : PySem.W.keepIn K (.ref f_law) = true)
    (z_abs : PySem.W.nsIn K mainGlobals "abs" = some none)
    (z_all : PySem.W.nsIn K mainGlobals "all" = some none)
    (z_bool : PySem.W.nsIn K mainGlobals "bool" = some none)
    (z_enumerate : PySem.W.nsIn K mainGlobals "enumerate" = some none)
    (z_int : PySem.W.nsIn K mainGlobals "int" = some none)
    (z_isinstance : PySem.W.nsIn K mainGlobals "isinstance" = some none)
    (z_len : PySem.W.nsIn K mainGlobals "len" = some none)
    (z_list : PySem.W.nsIn K mainGlobals "list" = some none)
    (z_max : PySem.W.nsIn K mainGlobals "max" = some none)
    (z_min : PySem.W.nsIn K mainGlobals "min" = some none)
    (z_range : PySem.W.nsIn K mainGlobals "range" = some none)
    (z_sorted : PySem.W.nsIn K mainGlobals "sorted" = some none)
    (z_str : PySem.W.nsIn K mainGlobals "str" = some none)
    (z_sum : PySem.W.nsIn K mainGlobals "sum" = some none)
    (z_tuple : PySem.W.nsIn K mainGlobals "tuple" = some none)
    (x_BadDiagram : PySem.W.excIn K C_BadDiagram [.type "ValueError", .type "Exception", .type "BaseException", .type "object"] "ValueError.__new__" = true)
    (kC_BadDiagram : PySem.W.keepIn K (.ref C_BadDiagram) = true)
    (bC_BadDiagram : PySem.W.subIn K (.ref C_BadDiagram) (.type "BaseException") = some true)
    (tC_BadDiagram : PySem.W.typeIn K (.ref C_BadDiagram) = some (.type "type"))
    (x_BadWord : PySem.W.excIn K C_BadWord [.type "ValueError", .type "Exception", .type "BaseException", .type "object"] "ValueError.__new__" = true)
    (kC_BadWord : PySem.W.keepIn K (.ref C_BadWord) = true)
    (bC_BadWord : PySem.W.subIn K (.ref C_BadWord) (.type "BaseException") = some true)
    (tC_BadWord : PySem.W.typeIn K (.ref C_BadWord) = some (.type "type"))
    (pg_Diagram : PySem.W.plainGet K C_Diagram Str.empty = true)
    (hd_Diagram : PySem.W.hasDictIn K C_Diagram = true)
    (po_Diagram : PySem.W.plainOver K C_Diagram = true)
    (sa_Diagram : PySem.W.findIn K (.ref C_Diagram) "__setattr__" = some (some (.builtin "object.__setattr__")))
    (na_Diagram_labels : PySem.W.findIn K (.ref C_Diagram) "labels" = some none)
    (na_Diagram_size : PySem.W.findIn K (.ref C_Diagram) "size" = some none)
    (mk_Diagram : PySem.W.makesIn K C_Diagram = true)
    (kC_Diagram : PySem.W.keepIn K (.ref C_Diagram) = true)
    (q_KINDS : PySem.W.nsIn K mainGlobals "KINDS" = some (some (.ref A_KINDS)))
    (w_KINDS : K.lookup A_KINDS = some ⟨.type "tuple", ao_KINDS, .seq #[.str "A" tok_KINDS_0, .str "B" tok_KINDS_1, .str "D" tok_KINDS_2] an_KINDS, as_KINDS⟩)
    (q_LABELS : PySem.W.nsIn K mainGlobals "LABELS" = some (some (.ref A_LABELS)))
    (w_LABELS : K.lookup A_LABELS = some ⟨.type "tuple", ao_LABELS, .seq #[.int (0) tok_LABELS_0, .int (3) tok_LABELS_1, .int (4) tok_LABELS_2, .int (5) tok_LABELS_3, .int (6) tok_LABELS_4] an_LABELS, as_LABELS⟩)
    (q_MOST : PySem.W.nsIn K mainGlobals "MOST" = some (some (.int (8) tok_MOST)))
    (q_MOST_LETTERS : PySem.W.nsIn K mainGlobals "MOST_LETTERS" = some (some (.int (400) tok_MOST_LETTERS)))
    (q_MOST_MIRRORS : PySem.W.nsIn K mainGlobals "MOST_MIRRORS" = some (some (.int (9) tok_MOST_MIRRORS)))
    (hL : LawOk 1 13 b_law) : ∃ fd : FuncData, (∀ (s : Shared) (v : Value), BindsTo s fd ⟨[v], []⟩ [("script", v)]) ∧ ∀ base : Heap, K.In base → base.Ns mainGlobals mg → FnOk l.prog w K mg base (L2.CX l.prog w) 8 fa fd ["script"] (spLaw K) := by
  have e := hfa.symm.trans (PySem.W.mg_of X G a_law)
  cases e
  exact ⟨_, fun s v => .of_eq rfl, fun base _ _ => ok_law (tt_mk X G aC_BadDiagram aC_BadWord aC_Diagram a_law_all l_law_all c_law_all k_law_all a_law_draw l_law_draw c_law_draw k_law_draw a_law_edges l_law_edges c_law_edges k_law_edges a_law_kind l_law_kind c_law_kind k_law_kind a_law_plus l_law_plus c_law_plus k_law_plus a_law_slope l_law_slope c_law_slope k_law_slope a_law_times l_law_times c_law_times k_law_times a_law_taken l_law_taken c_law_taken k_law_taken a_law_mirrored l_law_mirrored c_law_mirrored k_law_mirrored a_law_moved l_law_moved c_law_moved k_law_moved a_law_sign l_law_sign c_law_sign k_law_sign a_law_side l_law_side c_law_side k_law_side a_law_simple l_law_simple c_law_simple k_law_simple a_law_normal l_law_normal c_law_normal k_law_normal a_law_same l_law_same c_law_same k_law_same a_law_step l_law_step c_law_step k_law_step a_law_window l_law_window c_law_window k_law_window a_law_word l_law_word c_law_word k_law_word a_is_integer l_is_integer c_is_integer k_is_integer a_look_at_kind l_look_at_kind c_look_at_kind k_look_at_kind a_size_of l_size_of c_size_of k_size_of a_plain l_plain c_plain k_plain a_is_window l_is_window c_is_window k_is_window a_plain_row l_plain_row c_plain_row k_plain_row a_signed_numbers l_signed_numbers c_signed_numbers k_signed_numbers a_all_windows l_all_windows c_all_windows k_all_windows a_falls l_falls c_falls k_falls a_look_at_window l_look_at_window c_look_at_window k_look_at_window a_ends_of l_ends_of c_ends_of k_ends_of a_turned_back l_turned_back c_turned_back k_turned_back a_beginnings_of l_beginnings_of c_beginnings_of k_beginnings_of a_pairs_out_of_order l_pairs_out_of_order c_pairs_out_of_order k_pairs_out_of_order a_length_of l_length_of c_length_of k_length_of a_is_edge l_is_edge c_is_edge k_is_edge a_Diagram___init i_Diagram___init l_Diagram___init c_Diagram___init k_Diagram___init a_line_diagram l_line_diagram c_line_diagram k_line_diagram a_is_word l_is_word c_is_word k_is_word a_look_at_word l_look_at_word c_look_at_word k_look_at_word a_stepped l_stepped c_stepped k_stepped a_window_of l_window_of c_window_of k_window_of a_word_of l_word_of c_word_of k_word_of a_law_draws l_law_draws c_law_draws k_law_draws a_law l_law c_law k_law z_abs z_all z_bool z_enumerate z_int z_isinstance z_len z_list z_max z_min z_range z_sorted z_str z_sum z_tuple x_BadDiagram kC_BadDiagram bC_BadDiagram tC_BadDiagram x_BadWord kC_BadWord bC_BadWord tC_BadWord pg_Diagram hd_Diagram po_Diagram sa_Diagram na_Diagram_labels na_Diagram_size mk_Diagram kC_Diagram q_KINDS w_KINDS q_LABELS w_LABELS q_MOST q_MOST_LETTERS q_MOST_MIRRORS) hL⟩
end DL

set_option Elab.async false
set_option linter.all false
set_option maxRecDepth 100000
set_option maxHeartbeats 4000000
namespace DL
open PySem PySem.Spec PyProof.Rows L2
theorem ixN_nat {n j : Nat} (h : j < n) : ixN n (j : Int) = some j := by
  unfold ixN
  rw [if_pos (by omega), if_pos (by omega)]
  simp
theorem ixN_last {n : Nat} (h : 0 < n) : ixN n (-1) = some (n - 1) := by
  unfold ixN
  rw [if_neg (by omega), if_pos (by omega)]
  congr 1
  omega
theorem atI_n {α : Type} {l : List α} {j : Nat} : j < l.length → atI l (j : Int) = l[j]? := fun h => by
  unfold atI
  rw [ixN_nat h]
  rfl
theorem atI_nth {l : List D} {j : Nat} {d : D} (h : l[j]? = some d) : atI l (j : Int) = some d := by
  rw [atI_n (List.getElem?_eq_some_iff.mp h).1, h]
theorem dIx_c0 (a : D) (l : List D) : dIx (.tup (a :: l)) (.int 0) = some a := atI_nth (j := 0) rfl
theorem dIx_c1 (a b : D) (l : List D) : dIx (.tup (a :: b :: l)) (.int 1) = some b := atI_nth (j := 1) rfl
theorem dIx_c2 (a b c : D) (l : List D) : dIx (.tup (a :: b :: c :: l)) (.int 2) = some c := atI_nth (j := 2) rfl
theorem dIxL_c0 (a : D) (l : List D) : dIx (.lst (a :: l)) (.int 0) = some a := atI_nth (j := 0) rfl
theorem dIxL_c1 (a b : D) (l : List D) : dIx (.lst (a :: b :: l)) (.int 1) = some b := atI_nth (j := 1) rfl
theorem dIxL_c2 (a b c : D) (l : List D) : dIx (.lst (a :: b :: c :: l)) (.int 2) = some c := atI_nth (j := 2) rfl
theorem get_map {α : Type} {f : α → D} {r : List α} {j : Nat} (d : α) (h : j < r.length) : (r.map f)[j]? = some (f (r.getD j d)) := by
  rw [List.getElem?_map, List.getElem?_eq_getElem h, List.getD_eq_getElem?_getD, List.getElem?_eq_getElem h]
  rfl
theorem dIx_map {α : Type} {f : α → D} {r : List α} {j : Nat} (d : α) (h : j < r.length) : dIx (.tup (r.map f)) (.int (j : Int)) = some (f (r.getD j d)) := atI_nth (get_map d h)
theorem dIxL_map {α : Type} {f : α → D} {r : List α} {j : Nat} (d : α) (h : j < r.length) : dIx (.lst (r.map f)) (.int (j : Int)) = some (f (r.getD j d)) := atI_nth (get_map d h)
/-- range(n) -/
def enN (j : Nat) : D := .int (j : Int)
theorem rg0 (n : Nat) : rgD 0 n = (List.range n).map enN := by
  unfold rgD enN
  refine List.map_congr_left fun j _ => ?_
  rw [Int.zero_add]
theorem iR1_nat {f : DEnv → Md D} {δ : DEnv} {st st' : Option Dr} {n : Nat} (h : f δ st = .ok (.int (n : Int)) st') (hn : n ≤ lim) : iR1 f δ st = .ok ((List.range n).map enN) st' := by
  unfold iR1
  rw [mbind_eq, h, rbind_ok]
  dsimp only
  rw [if_pos ⟨by omega, by omega⟩, Int.toNat_natCast, rg0]
  rfl
theorem iR1_int {f : DEnv → Md D} {δ : DEnv} {st st' : Option Dr} {n : Int} (h : f δ st = .ok (.int n) st') (hn : -1000 ≤ n ∧ n ≤ lim) : iR1 f δ st = .ok ((List.range n.toNat).map enN) st' := by
  unfold iR1
  rw [mbind_eq, h, rbind_ok]
  dsimp only
  rw [if_pos hn, rg0]
  rfl
theorem iR2_eq {f f' : DEnv → Md D} {δ : DEnv} {st st' st2 : Option Dr} {m n : Int} (h : f δ st = .ok (.int m) st') (h' : f' δ st' = .ok (.int n) st2) (hm : -1000 ≤ m ∧ m ≤ lim) (hn : -1000 ≤ n ∧ n ≤ lim) : iR2 f f' δ st = .ok (rgD m (n - m).toNat) st2 := by
  unfold iR2
  rw [mbind_eq, h, rbind_ok, mbind_eq, h', rbind_ok]
  dsimp only
  rw [if_pos ⟨hn.1, hn.2, hm.1, hm.2⟩]
  rfl
theorem cut_take {l : List D} {j : Nat} (h : j ≤ l.length) : cutD l none (some (j : Int)) = l.take j := by
  unfold cutD
  rw [HT.sIx_none, HT.sIx_nat, List.drop_zero, Nat.sub_zero, Nat.min_eq_left h]
theorem cut_drop {l : List D} {j : Nat} (h : j ≤ l.length) : cutD l (some (j : Int)) none = l.drop j := by
  unfold cutD
  rw [HT.sIx_none, HT.sIx_nat, Nat.min_eq_left h]
  exact List.take_of_length_le (by rw [List.length_drop]; exact Nat.le_refl _)
/-! ### big steps -/
theorem runF_ret {n : Nat} {b : DEnv → Md Fl} {ds : List D} {st st' : Option Dr} {d : D} (h : b (startD n ds) st = .ok (.rt d) st') : runF n b ds st = .ok d st' := by
  unfold runF; rw [mbind_eq, h, rbind_ok]; rfl
theorem runF_nx {n : Nat} {b : DEnv → Md Fl} {ds : List D} {st st' : Option Dr} {δ : DEnv} (h : b (startD n ds) st = .ok (.nx δ) st') : runF n b ds st = .ok .non st' := by
  unfold runF; rw [mbind_eq, h, rbind_ok]; rfl
theorem seq {f g : DEnv → Md Fl} {δ δ1 : DEnv} {st st1 : Option Dr} {r : Res Fl} (h : f δ st = .ok (.nx δ1) st1) (h2 : g δ1 st1 = r) : sSeq f g δ st = r := by rw [sSeq_nx h, h2]
theorem seq_ex {f g : DEnv → Md Fl} {δ : DEnv} {st : Option Dr} {r : Res Fl} {P : DEnv → Option Dr → Prop} (h : ∃ δ1 st1, f δ st = .ok (.nx δ1) st1 ∧ P δ1 st1) (h2 : ∀ δ1 st1, P δ1 st1 → g δ1 st1 = r) : sSeq f g δ st = r := by
  obtain ⟨δ1, st1, e, p⟩ := h
  exact seq e (h2 δ1 st1 p)
theorem seq_rt {f g : DEnv → Md Fl} {δ : DEnv} {st st1 : Option Dr} {d : D} (h : f δ st = .ok (.rt d) st1) : sSeq f g δ st = .ok (.rt d) st1 := by
  unfold sSeq; rw [mbind_eq, h, rbind_ok]; rfl
theorem if_t {c : DEnv → Md Bool} {f g : DEnv → Md Fl} {δ : DEnv} {st st1 : Option Dr} {r : Res Fl} (h : c δ st = .ok true st1) (h2 : f δ st1 = r) : sIf c f g δ st = r := by
  unfold sIf; rw [mbind_eq, h, rbind_ok, if_pos rfl, h2]
theorem if_f {c : DEnv → Md Bool} {f g : DEnv → Md Fl} {δ : DEnv} {st st1 : Option Dr} {r : Res Fl} (h : c δ st = .ok false st1) (h2 : g δ st1 = r) : sIf c f g δ st = r := by
  unfold sIf; rw [mbind_eq, h, rbind_ok, if_neg Bool.false_ne_true, h2]
theorem ret {f : DEnv → Md D} {δ : DEnv} {st st1 : Option Dr} {d : D} (h : f δ st = .ok d st1) : sRet f δ st = .ok (.rt d) st1 := by
  unfold sRet; rw [mbind_eq, h, rbind_ok]; rfl
theorem set {i : Nat} {f : DEnv → Md D} {δ : DEnv} {st st1 : Option Dr} {d : D} (h : f δ st = .ok d st1) : sSet i f δ st = .ok (.nx (δ.set i (.val d))) st1 := by
  unfold sSet; rw [mbind_eq, h, rbind_ok]; rfl
theorem setN {i : Nat} {f : DEnv → Md (List D)} {δ : DEnv} {st st1 : Option Dr} {d : List D} (h : f δ st = .ok d st1) : sSetN i f δ st = .ok (.nx (δ.set i (.own d))) st1 := by
  unfold sSetN; rw [mbind_eq, h, rbind_ok]; rfl
theorem for_ex {γ τ : Type} {fi : DEnv → Md (List D)} {g : GD} {b : DEnv → Md Fl} {enc : γ → D} {R : τ → DEnv → Option Dr → Prop} {f : τ → γ → τ} {l : List γ} {s : τ} {δ : DEnv} {st st1 : Option Dr} (hi : fi δ st = .ok (l.map enc) st1) (h0 : R s δ st1)
    (hs : ∀ x ∈ l, ∀ s δ st, R s δ st → ∃ δ1 δ2 st2, g (enc x) δ = some δ1 ∧ b δ1 st = .ok (.nx δ2) st2 ∧ R (f s x) δ2 st2) : ∃ δ' st', sFor fi g b δ st = .ok (.nx δ') st' ∧ R (l.foldl f s) δ' st' := by
  rw [sFor_eq hi]
  exact forL_inv h0 hs
theorem for_exE {γ τ : Type} {fi : DEnv → Md (List D)} {g : GD} {b : DEnv → Md Fl} {enc : γ → D} {R : τ → DEnv → Option Dr → Prop} {f : τ → γ → τ} {l : List γ} {s : τ} {δ : DEnv} {st st1 : Option Dr} (hi : fi δ st = .ok (l.map enc) st1) (h0 : R s δ st1)
    (hs : ∀ x ∈ l, ∀ s δ st, R s δ st → ∃ δ1, g (enc x) δ = some δ1 ∧ ∃ δ2 st2, b δ1 st = .ok (.nx δ2) st2 ∧ R (f s x) δ2 st2) : ∃ δ' st', sFor fi g b δ st = .ok (.nx δ') st' ∧ R (l.foldl f s) δ' st' :=
  for_ex hi h0 fun x hx s δ st r => by
    obtain ⟨δ1, h1, δ2, st2, h2, h3⟩ := hs x hx s δ st r
    exact ⟨δ1, δ2, st2, h1, h2, h3⟩
theorem seqE {f g : DEnv → Md Fl} {δ δ1 : DEnv} {st st1 : Option Dr} {P : DEnv → Option Dr → Prop} (h : f δ st = .ok (.nx δ1) st1) (h2 : ∃ δ2 st2, g δ1 st1 = .ok (.nx δ2) st2 ∧ P δ2 st2) : ∃ δ2 st2, sSeq f g δ st = .ok (.nx δ2) st2 ∧ P δ2 st2 := by
  obtain ⟨δ2, st2, e, p⟩ := h2
  exact ⟨δ2, st2, seq h e, p⟩
theorem seqEE {f g : DEnv → Md Fl} {δ : DEnv} {st : Option Dr} {P P1 : DEnv → Option Dr → Prop} (h : ∃ δ1 st1, f δ st = .ok (.nx δ1) st1 ∧ P1 δ1 st1) (h2 : ∀ δ1 st1, P1 δ1 st1 → ∃ δ2 st2, g δ1 st1 = .ok (.nx δ2) st2 ∧ P δ2 st2) : ∃ δ2 st2, sSeq f g δ st = .ok (.nx δ2) st2 ∧ P δ2 st2 := by
  obtain ⟨δ1, st1, e, p⟩ := h
  exact seqE e (h2 δ1 st1 p)
theorem asgM {g : GM} {f : DEnv → Md D} {δ δ2 : DEnv} {st st1 st2 : Option Dr} {d : D} (h : f δ st = .ok d st1) (h2 : g d δ st1 = .ok δ2 st2) : sAsgM g f δ st = .ok (.nx δ2) st2 := by
  unfold sAsgM; rw [mbind_eq, h, rbind_ok, mbind_eq, h2, rbind_ok]; rfl
theorem tupLc {fc : DEnv → Md (List D)} {δ : DEnv} {st st1 : Option Dr} {ds : List D} (h : fc δ st = .ok ds st1) : eN dTuple (eCons (eL fc) eNil) δ st = .ok (.tup ds) st1 := by
  have e : eL fc δ st = .ok (.lst ds) st1 := by unfold eL; rw [mbind_eq, h, rbind_ok]; rfl
  unfold eN eCons
  rw [mbind_eq, mbind_eq, e, rbind_ok]
  rfl
theorem lenLc {fc : DEnv → Md (List D)} {δ : DEnv} {st st1 : Option Dr} {ds : List D} (h : fc δ st = .ok ds st1) : eN dLen (eCons (eL fc) eNil) δ st = .ok (.int ds.length) st1 := by
  have e : eL fc δ st = .ok (.lst ds) st1 := by unfold eL; rw [mbind_eq, h, rbind_ok]; rfl
  unfold eN eCons
  rw [mbind_eq, mbind_eq, e, rbind_ok]
  rfl
/-- a loop by its measure: Q at the start of each turn -/
theorem while_ex {c : DEnv → Md Bool} {b : DEnv → Md Fl} {Q : Nat → DEnv → Option Dr → Prop} {P : DEnv → Option Dr → Prop}
    (h : ∀ n δ st, Q n δ st → (∃ st1, c δ st = .ok false st1 ∧ P δ st1) ∨ ∃ m st1, m < n ∧ c δ st = .ok true st1 ∧ ∃ δ2 st2, b δ st1 = .ok (.nx δ2) st2 ∧ Q m δ2 st2) :
    ∀ {n k : Nat} {δ : DEnv} {st : Option Dr}, n < k → Q n δ st → ∃ δ' st', whileN c b k δ st = .ok (.nx δ') st' ∧ P δ' st' := by
  intro n
  induction n using Nat.strongRecOn with
  | ind n ih =>
    intro k δ st hk q
    obtain ⟨k, rfl⟩ : ∃ k', k = k' + 1 := ⟨k - 1, by omega⟩
    rcases h n δ st q with ⟨st1, h1, p⟩ | ⟨m, st1, hm, h1, δ2, st2, h2, q2⟩
    · exact ⟨δ, st1, whileN_end h1, p⟩
    · obtain ⟨δ', st', e, p⟩ := ih m hm (k := k) (by omega) q2
      exact ⟨δ', st', by rw [whileN_step h1 h2]; exact e, p⟩
theorem getD_q {α : Type} (l : List α) (i : Nat) (d : α) : l[i]?.getD d = l.getD i d := (List.getD_eq_getElem?_getD ..).symm
theorem dAddF_int (a b : Int) : dAddF (.int a) (.int b) = some (.int (a + b)) := rfl
theorem dAdd_tup {a b : List D} (h : a.length + b.length ≤ lim) : dAddF (.tup a) (.tup b) = some (.tup (a ++ b)) := if_pos h
theorem dAdd_lst {a b : List D} (h : a.length + b.length ≤ lim) : dAddF (.lst a) (.lst b) = some (.lst (a ++ b)) := if_pos h
theorem set_cut {α : Type} : ∀ (l : List α) (i : Nat) (x : α), i < l.length → l.take i ++ [x] ++ l.drop (i + 1) = l.set i x
  | [], _, _, h => by cases h
  | a :: l, 0, x, _ => rfl
  | a :: l, i + 1, x, h => by
    rw [List.take_succ_cons, List.drop_succ_cons, List.set_cons_succ, List.cons_append, List.cons_append, set_cut l i x (by simpa using h)]
/-! ### in a list of ints -/
theorem toPys_int : ∀ l : List Int, toPys (l.map D.int) = some (l.map PyData.int)
  | [] => rfl
  | a :: l => by rw [List.map_cons]; unfold toPys; rw [toPys_int l]; rfl
theorem any_eqv (i : Int) : ∀ l : List Int, ((l.map PyData.int).any fun z => PyData.eqv z (.int i)) = decide (i ∈ l)
  | [] => by simp
  | a :: l => by
    rw [List.map_cons, List.any_cons, any_eqv i l]
    by_cases h : a = i
    · subst h; simp [PyData.eqv]
    · have : ¬ i = a := fun q => h q.symm
      simp [PyData.eqv, h, this]
theorem dInB_lstI (i : Int) (l : List Int) : dInB (.int i) (.lst (l.map D.int)) = some (decide (i ∈ l)) := by
  have h1 : SeqAt.shaped (PyData.int i) = true := by simp [SeqAt.shaped, PyData.canLay0, PyData.depth]
  have h2 : SeqAt.shaped (PyData.list (l.map PyData.int)) = true := shaped_io (d := .lst (l.map D.int)) (by unfold io; exact io_ints l) (by unfold dep; rw [dep_ints]; decide) (by unfold toPy; rw [toPys_int]; rfl)
  unfold dInB
  dsimp only
  rw [toPys_int]
  simp only [toPy, h1, h2, Bool.and_self, if_true, any_eqv]
theorem dInB_tupI (i : Int) (l : List Int) : dInB (.int i) (.tup (l.map D.int)) = some (decide (i ∈ l)) := by
  unfold dInB
  dsimp only
  rw [toPys_int]
  dsimp only
  refine (if_pos (by simp)).trans ?_
  rw [any_eqv]
end DL

set_option Elab.async false
set_option linter.all false
set_option maxRecDepth 100000
set_option maxHeartbeats 4000000
/-! the law's own world: golden numbers, slopes, roots -/
namespace DL
open PySem PySem.Spec PyProof.Rows L2
abbrev Z2 := Int × Int
def zD (x : Z2) : D := .tup [.int x.1, .int x.2]
def gadd (x y : Z2) : Z2 := (x.1 + y.1, x.2 + y.2)
def gsub (x y : Z2) : Z2 := (x.1 - y.1, x.2 - y.2)
def gneg (x : Z2) : Z2 := (-x.1, -x.2)
def gmul (x y : Z2) : Z2 := (x.1 * y.1 + x.2 * y.2, x.1 * y.2 + x.2 * y.1 + x.2 * y.2)
def gsmall (x : Z2) : Prop := x.1.natAbs < 2 ^ 60 ∧ x.2.natAbs < 2 ^ 60
instance (x : Z2) : Decidable (gsmall x) := inferInstanceAs (Decidable (_ ∧ _))
def gsign (x : Z2) : Int :=
  if 2 * x.1 + x.2 = 0 ∧ x.2 = 0 then 0
  else if (0 ≤ 2 * x.1 + x.2 ∧ 0 ≤ x.2) ∨ (2 * x.1 + x.2 ≤ 0 ∧ x.2 ≤ 0) then (if 0 < 2 * x.1 + x.2 + x.2 then 1 else -1)
  else (if 0 < (2 * x.1 + x.2) * (2 * x.1 + x.2) - 5 * x.2 * x.2 then 1 else -1) * (if 0 < 2 * x.1 + x.2 then 1 else -1)
theorem lw_plus (x y : Z2) (st : Option Dr) : F_law_plus [zD x, zD y] st = .ok (zD (gadd x y)) st := by
  unfold F_law_plus
  rfl
theorem dmul_l {a b : Int} (h : a.natAbs < 2 ^ 64) : dMulF (.int a) (.int b) = some (.int (a * b)) := by
  unfold dMulF
  exact if_pos (.inl h)
theorem dmul_r {a b : Int} (h : b.natAbs < 2 ^ 64) : dMulF (.int a) (.int b) = some (.int (a * b)) := by
  unfold dMulF
  exact if_pos (.inr h)
theorem lw_times {x y : Z2} (h : gsmall x) (st : Option Dr) : F_law_times [zD x, zD y] st = .ok (zD (gmul x y)) st := by
  unfold F_law_times
  obtain ⟨h1, h2⟩ := h
  have e1 := fun b => dmul_l (b := b) (Nat.lt_trans h1 (by decide))
  have e2 := fun b => dmul_l (b := b) (Nat.lt_trans h2 (by decide))
  simp [mbind_eq, mpure_eq, mofO_some, mofO_none, rbind_ok, rbind_err, rbind_stuck, bindS_eq, rbindS_ok, callR_ok, eCall_eq, runF, startD, eVar, qVar, eC, mIfN, eBin, eUn, eCons, eNil, eTup, eLst, eL, eN, eNN, eBinN, mB, mD, mAnd, mOr, mNot, mIf, eAndV, eOrV, eNot, eChain, eChain3, eSl, oNone, oSome, sSeq, Fl.then, sNext, sDrop, sRet, sRetN, sIf, sSet, sSetN, sFz, fz, sAsg, sPar, sAug, sApp, sExt, sAsgM, gmName, gmSub, gmNil, gmCons, gmTup, gdName, gdNil, gdCons, gdTup, iSeq, seqD, iL, iT, iListD, iTupD, iR1, iR2, eRg, rgD, sFor, wipeD, tYesD, dAddF, dSub, dDiv, dMod, dLt, dLe, dGt, dGe, dNeg, dIx, atI, ixN, dSl, dRevF, dLen, dTuple, dList, dAbs, dInt, dEq, dNe, dEqB_int, dEqB_str, dEqB_bl, dIs, dIsN, dIn, dNotIn, dIsi, tyName, isT, eComp, compA, ite_md, ite_rbind, lim, zD, gmul, e1, e2]
theorem lw_sign {x : Z2} (h : gsmall x) (st : Option Dr) : F_law_sign [zD x] st = .ok (.int (gsign x)) st := by
  unfold F_law_sign
  obtain ⟨a, b⟩ := x
  obtain ⟨h1, h2⟩ := h
  dsimp only at h1 h2
  have e1 : dMulF (.int 2) (.int a) = some (.int (2 * a)) := dmul_l (by decide)
  have e2 : dMulF (.int (2 * a + b)) (.int (2 * a + b)) = some (.int ((2 * a + b) * (2 * a + b))) := dmul_l (by omega)
  have e3 : dMulF (.int 5) (.int b) = some (.int (5 * b)) := dmul_l (by decide)
  have e4 : dMulF (.int (5 * b)) (.int b) = some (.int (5 * b * b)) := dmul_r (by omega)
  have e5 : ∀ x : Int, dMulF (.int 1) (.int x) = some (.int (1 * x)) := fun x => dmul_l (by decide)
  have e6 : ∀ x : Int, dMulF (.int (-1)) (.int x) = some (.int (-1 * x)) := fun x => dmul_l (by decide)
  have e7 : dMulF (.int 1) (.int 1) = some (.int 1) := dmul_l (by decide)
  simp [mbind_eq, mpure_eq, mofO_some, mofO_none, rbind_ok, rbind_err, rbind_stuck, bindS_eq, rbindS_ok, callR_ok, eCall_eq, runF, startD, eVar, qVar, eC, mIfN, eBin, eUn, eCons, eNil, eTup, eLst, eL, eN, eNN, eBinN, mB, mD, mAnd, mOr, mNot, mIf, eAndV, eOrV, eNot, eChain, eChain3, eSl, oNone, oSome, sSeq, Fl.then, sNext, sDrop, sRet, sRetN, sIf, sSet, sSetN, sFz, fz, sAsg, sPar, sAug, sApp, sExt, sAsgM, gmName, gmSub, gmNil, gmCons, gmTup, gdName, gdNil, gdCons, gdTup, iSeq, seqD, iL, iT, iListD, iTupD, iR1, iR2, eRg, rgD, sFor, wipeD, tYesD, dAddF, dSub, dDiv, dMod, dLt, dLe, dGt, dGe, dNeg, dIx, atI, ixN, dSl, dRevF, dLen, dTuple, dList, dAbs, dInt, dEq, dNe, dEqB_int, dEqB_str, dEqB_bl, dIs, dIsN, dIn, dNotIn, dIsi, tyName, isT, eComp, compA, ite_md, ite_rbind, lim, zD, gsign, e1, e2, e3, e4]
  repeat' split
  all_goals first | rfl | omega
end DL

set_option Elab.async false
set_option linter.all false
set_option maxRecDepth 100000
set_option maxHeartbeats 4000000
namespace DL
open PySem PySem.Spec PyProof.Rows L2
def told (es : List Edge) (i j : Int) : List Int := (es.filter fun e => e.1 == (if j < i then j else i) && e.2.1 == (if j > i then j else i)).map (·.2.2)
def far (c : Int) : Z2 := if c = 3 then (-1, 0) else if c = 4 then (-2, 0) else if c = 5 then (0, -1) else if c = 6 then (-3, 0) else (-2, 0)
def slope (es : List Edge) (i j : Int) : Z2 := if i = j then (2, 0) else match told es i j with
  | [] => (0, 0)
  | c :: _ => if (c = 4 ∨ c = 6) ∧ i < j then (-1, 0) else far c
def okLab (c : Int) : Bool := c == 0 || c == 3 || c == 4 || c == 5 || c == 6
def wD (n : Nat) (es : List Edge) : D := .tup [.int n, .tup (es.map edD)]
theorem dEq_pair (a b c d : Int) : dEqB (.tup [.int a, .int b]) (.tup [.int c, .int d]) = some (a == c && b == d) := by
  have := dEqB_tupI [a, b] [c, d]
  simp only [List.map_cons, List.map_nil] at this
  rw [this]
  congr 1
  by_cases h1 : a = c <;> by_cases h2 : b = d <;> simp [h1, h2]
theorem lw_slope {n : Nat} {es : List Edge} (h : ∀ e ∈ es, okLab e.2.2 = true) (hl : es.length ≤ lim) (i j : Int) (st : Option Dr) : F_law_slope [wD n es, .int i, .int j] st = .ok (zD (slope es i j)) st := by
  unfold F_law_slope
  unfold wD
  have hc : eComp [7] (iSeq (qVar 4)) (gdName 7) (mB (eBin dEq (eSl (qVar 7) (oNone) (oSome (eC (.int 2)))) (eTup (eCons (eN dMin2 (eCons (qVar 1) (eCons (qVar 2) (eNil)))) (eCons (eN dMax2 (eCons (qVar 1) (eCons (qVar 2) (eNil)))) (eNil)))))) (eBin dIx (qVar 7) (eC (.int 2)))
      [.val (.tup [.int n, .tup (es.map edD)]), .val (.int i), .val (.int j), .val (.int n), .val (.tup (es.map edD)), .un, .un, .un] st = .ok ((told es i j).map D.int) st := by
    unfold told
    rw [List.map_map]
    refine eComp_map (p := fun e => e.1 == (if j < i then j else i) && e.2.1 == (if j > i then j else i)) (enc := edD) rfl hl fun e _ => ⟨_, rfl, ?_, fun _ => ?_⟩
    · have c2 : cutD [D.int e.1, D.int e.2.1, D.int e.2.2] none (some 2) = [D.int e.1, D.int e.2.1] := rfl
      simp [mbind_eq, mpure_eq, mofO_some, mofO_none, rbind_ok, rbind_err, rbind_stuck, bindS_eq, rbindS_ok, callR_ok, eCall_eq, runF, startD, eVar, qVar, eC, mIfN, eBin, eUn, eCons, eNil, eTup, eLst, eL, eN, eNN, eBinN, mB, mD, mAnd, mOr, mNot, mIf, eAndV, eOrV, eNot, eChain, eChain3, eSl, oNone, oSome, sSeq, Fl.then, sNext, sDrop, sRet, sRetN, sIf, sSet, sSetN, sFz, fz, sAsg, sPar, sAug, sApp, sExt, sAsgM, gmName, gmSub, gmNil, gmCons, gmTup, gdName, gdNil, gdCons, gdTup, iSeq, seqD, iL, iT, iListD, iTupD, iR1, iR2, eRg, rgD, sFor, wipeD, tYesD, dAddF, dSub, dMulF, dDiv, dMod, dLt, dLe, dGt, dGe, dNeg, dIx, atI, ixN, dSl, dRevF, dLen, dTuple, dList, dAbs, dInt, dEq, dNe, dEqB_int, dEqB_str, dEqB_bl, dIs, dIsN, dIn, dNotIn, dIsi, tyName, isT, ite_md, ite_rbind, lim, edD, dMin2, dMax2, c2, dEq_pair]
    · rfl
  by_cases hij : i = j
  · subst hij
    simp [mbind_eq, mpure_eq, mofO_some, mofO_none, rbind_ok, rbind_err, rbind_stuck, bindS_eq, rbindS_ok, callR_ok, eCall_eq, runF, startD, eVar, qVar, eC, mIfN, eBin, eUn, eCons, eNil, eTup, eLst, eL, eN, eNN, eBinN, mB, mD, mAnd, mOr, mNot, mIf, eAndV, eOrV, eNot, eChain, eChain3, eSl, oNone, oSome, sSeq, Fl.then, sNext, sDrop, sRet, sRetN, sIf, sSet, sSetN, sFz, fz, sAsg, sPar, sAug, sApp, sExt, sAsgM, gmName, gmSub, gmNil, gmCons, gmTup, gdName, gdNil, gdCons, gdTup, iSeq, seqD, iL, iT, iListD, iTupD, iR1, iR2, eRg, rgD, sFor, wipeD, tYesD, dAddF, dSub, dMulF, dDiv, dMod, dLt, dLe, dGt, dGe, dNeg, dIx, atI, ixN, dSl, dRevF, dLen, dTuple, dList, dAbs, dInt, dEq, dNe, dEqB_int, dEqB_str, dEqB_bl, dIs, dIsN, dIn, dNotIn, dIsi, tyName, isT, ite_md, ite_rbind, lim, slope, zD]
  · simp [mbind_eq, mpure_eq, mofO_some, mofO_none, rbind_ok, rbind_err, rbind_stuck, bindS_eq, rbindS_ok, callR_ok, eCall_eq, runF, startD, eVar, qVar, eC, mIfN, eBin, eUn, eCons, eNil, eTup, eLst, eL, eN, eNN, eBinN, mB, mD, mAnd, mOr, mNot, mIf, eAndV, eOrV, eNot, eChain, eChain3, eSl, oNone, oSome, sSeq, Fl.then, sNext, sDrop, sRet, sRetN, sIf, sSet, sSetN, sFz, fz, sAsg, sPar, sAug, sApp, sExt, sAsgM, gmName, gmSub, gmNil, gmCons, gmTup, gdName, gdNil, gdCons, gdTup, iSeq, seqD, iL, iT, iListD, iTupD, iR1, iR2, eRg, rgD, sFor, wipeD, tYesD, dAddF, dSub, dMulF, dDiv, dMod, dLt, dLe, dGt, dGe, dNeg, dIx, atI, ixN, dSl, dRevF, dLen, dTuple, dList, dAbs, dInt, dEq, dNe, dEqB_int, dEqB_str, dEqB_bl, dIs, dIsN, dIn, dNotIn, dIsi, tyName, isT, ite_md, ite_rbind, lim, hc, hij, slope]
    cases ht : told es i j with
    | nil => simp [zD]
    | cons c r =>
      have hm : c ∈ told es i j := by rw [ht]; exact List.mem_cons_self
      obtain ⟨e, he, rfl⟩ := List.mem_map.mp hm
      have ok := h e (List.mem_filter.mp he).1
      unfold okLab at ok
      simp only [Bool.or_eq_true, beq_iff_eq] at ok
      rcases ok with (((ok | ok) | ok) | ok) | ok <;> rw [ok] <;> simp [mbind_eq, mpure_eq, mofO_some, mofO_none, rbind_ok, rbind_err, rbind_stuck, bindS_eq, rbindS_ok, callR_ok, eCall_eq, runF, startD, eVar, qVar, eC, mIfN, eBin, eUn, eCons, eNil, eTup, eLst, eL, eN, eNN, eBinN, mB, mD, mAnd, mOr, mNot, mIf, eAndV, eOrV, eNot, eChain, eChain3, eSl, oNone, oSome, sSeq, Fl.then, sNext, sDrop, sRet, sRetN, sIf, sSet, sSetN, sFz, fz, sAsg, sPar, sAug, sApp, sExt, sAsgM, gmName, gmSub, gmNil, gmCons, gmTup, gdName, gdNil, gdCons, gdTup, iSeq, seqD, iL, iT, iListD, iTupD, iR1, iR2, eRg, rgD, sFor, wipeD, tYesD, dAddF, dSub, dMulF, dDiv, dMod, dLt, dLe, dGt, dGe, dNeg, dIx, atI, ixN, dSl, dRevF, dLen, dTuple, dList, dAbs, dInt, dEq, dNe, dEqB_int, dEqB_str, dEqB_bl, dIs, dIsN, dIn, dNotIn, dIsi, tyName, isT, ite_md, ite_rbind, lim, eDix, pCons, pNil, keysD, keyD, lkD, far, zD, dInB, toPys, toPy, PyData.eqv]
      all_goals by_cases hlt : i < j <;> simp [hlt]
end DL

set_option Elab.async false
set_option linter.all false
set_option maxRecDepth 100000
set_option maxHeartbeats 4000000
namespace DL
open PySem PySem.Spec PyProof.Rows L2
theorem slope_small (es : List Edge) (i j : Int) : gsmall (slope es i j) := by
  unfold slope
  split
  · decide
  · split
    · decide
    · split
      · decide
      · unfold far
        repeat' split
        all_goals decide
/-- what is asked of the edges -/
structure EsOk (es : List Edge) : Prop where
  lab : ∀ e ∈ es, okLab e.2.2 = true
  len : es.length ≤ lim
abbrev Rt := List Z2
def rD (r : Rt) : D := .tup (r.map zD)
def taken (es : List Edge) (i : Int) (r : Rt) : Z2 := (List.range r.length).foldl (fun (t : Z2) (j : Nat) => gadd t (gmul (slope es i j) (r.getD j (0, 0)))) (0, 0)
theorem lw_taken {n : Nat} {es : List Edge} (h : EsOk es) {r : Rt} (hr : r.length = n) (hn : n ≤ lim) (i : Int) (st : Option Dr) : F_law_taken [wD n es, .int i, rD r] st = .ok (zD (taken es i r)) st := by
  unfold F_law_taken
  refine runF_ret (seq rfl (seq_ex (for_ex (enc := enN) (l := List.range n) (s := ((0, 0) : Z2)) (f := fun t (j : Nat) => gadd t (gmul (slope es i j) (r.getD j (0, 0))))
    (R := fun t δ s => s = st ∧ ∃ o, δ = [.val (wD n es), .val (.int i), .val (rD r), .val (zD t), o]) (iR1_nat (n := n) rfl hn) ⟨rfl, .un, rfl⟩ (fun j hj t δ s ⟨hs, o, hδ⟩ => ?_)) ?_))
  · subst hs hδ
    have hj' : j < r.length := by rw [hr]; exact List.mem_range.mp hj
    refine ⟨_, _, _, rfl, ?_, rfl, .val (enN j), rfl⟩
    have hx := dIx_map (f := zD) ((0, 0) : Z2) hj'
    simp [mbind_eq, mpure_eq, mofO_some, mofO_none, rbind_ok, rbind_err, rbind_stuck, bindS_eq, rbindS_ok, callR_ok, eCall_eq, runF, startD, eVar, qVar, eC, mIfN, eBin, eUn, eCons, eNil, eTup, eLst, eL, eN, eNN, eBinN, mB, mD, mAnd, mOr, mNot, mIf, eAndV, eOrV, eNot, eChain, eChain3, eSl, oNone, oSome, sSeq, Fl.then, sNext, sDrop, sRet, sRetN, sIf, sSet, sSetN, sFz, fz, sAsg, sPar, sAug, sApp, sExt, sAsgM, gmName, gmSub, gmNil, gmCons, gmTup, gdName, gdNil, gdCons, gdTup, iSeq, seqD, iL, iT, iListD, iTupD, eRg, wipeD, tYesD, dAddF, dSub, dDiv, dMod, dLt, dLe, dGt, dGe, dNeg, dSl, dRevF, dLen, dTuple, dList, dAbs, dInt, dEq, dNe, dEqB_int, dEqB_str, dEqB_bl, dIs, dIsN, dIn, dNotIn, dIsi, tyName, isT, ite_md, ite_rbind, lim, dIx_c0, dIx_c1, dIx_c2, dIxL_c0, dIxL_c1, dIxL_c2, enN, lw_slope h.lab h.len, lw_times (slope_small es i j), lw_plus, rD, hx]
  · rintro _ _ ⟨rfl, o, rfl⟩
    unfold taken
    rw [hr]
    rfl
def mirrored (es : List Edge) (i : Nat) (r : Rt) : Rt := r.set i (gsub (r.getD i (0, 0)) (taken es i r))
theorem zD_0 (x : Z2) : dIx (zD x) (.int 0) = some (.int x.1) := dIx_c0 _ _
theorem zD_1 (x : Z2) : dIx (zD x) (.int 1) = some (.int x.2) := dIx_c1 _ _ _
theorem lw_mirrored {n : Nat} {es : List Edge} (h : EsOk es) {r : Rt} (hr : r.length = n) (hn : n ≤ lim) {i : Nat} (hi : i < n) (st : Option Dr) : F_law_mirrored [wD n es, .int i, rD r] st = .ok (rD (mirrored es i r)) st := by
  unfold F_law_mirrored
  have hx := dIx_map (f := zD) ((0, 0) : Z2) (by rw [hr]; exact hi)
  have c1 : cutD (r.map zD) none (some (i : Int)) = (r.map zD).take i := cut_take (by rw [List.length_map]; omega)
  have c2 : cutD (r.map zD) (some ((i : Int) + 1)) none = (r.map zD).drop (i + 1) := cut_drop (j := i + 1) (by rw [List.length_map]; omega)
  have a1 : ∀ (x : D), dAddF (.tup ((r.map zD).take i)) (.tup [x]) = some (.tup ((r.map zD).take i ++ [x])) := fun x => dAdd_tup (by rw [List.length_take, List.length_map]; simp; omega)
  have a2 : ∀ (x : D), dAddF (.tup ((r.map zD).take i ++ [x])) (.tup ((r.map zD).drop (i + 1))) = some (.tup ((r.map zD).set i x)) := fun x => by
    rw [dAdd_tup (by simp [List.length_take, List.length_drop]; omega), set_cut _ _ _ (by rw [List.length_map]; omega)]
  refine runF_ret (seq (δ1 := [.val (wD n es), .val (.int i), .val (rD r), .val (zD (taken es i r))]) (st1 := st) ?_ ?_)
  · simp [mbind_eq, mpure_eq, mofO_some, mofO_none, rbind_ok, rbind_err, rbind_stuck, bindS_eq, rbindS_ok, callR_ok, eCall_eq, runF, startD, eVar, qVar, eC, mIfN, eBin, eUn, eCons, eNil, eTup, eLst, eL, eN, eNN, eBinN, mB, mD, mAnd, mOr, mNot, mIf, eAndV, eOrV, eNot, eChain, eChain3, eSl, oNone, oSome, sSeq, Fl.then, sNext, sDrop, sRet, sRetN, sIf, sSet, sSetN, sFz, fz, sAsg, sPar, sAug, sApp, sExt, sAsgM, gmName, gmSub, gmNil, gmCons, gmTup, gdName, gdNil, gdCons, gdTup, iSeq, seqD, iL, iT, iListD, iTupD, eRg, wipeD, tYesD, dAddF, dSub, dDiv, dMod, dLt, dLe, dGt, dGe, dNeg, dSl, dRevF, dLen, dTuple, dList, dAbs, dInt, dEq, dNe, dEqB_int, dEqB_str, dEqB_bl, dIs, dIsN, dIn, dNotIn, dIsi, tyName, isT, ite_md, ite_rbind, lim, dIx_c0, dIx_c1, dIx_c2, dIxL_c0, dIxL_c1, dIxL_c2, lw_taken h hr hn]
  · unfold rD at *
    simp [mbind_eq, mpure_eq, mofO_some, mofO_none, rbind_ok, rbind_err, rbind_stuck, bindS_eq, rbindS_ok, callR_ok, eCall_eq, runF, startD, eVar, qVar, eC, mIfN, eBin, eUn, eCons, eNil, eTup, eLst, eL, eN, eNN, eBinN, mB, mD, mAnd, mOr, mNot, mIf, eAndV, eOrV, eNot, eChain, eChain3, eSl, oNone, oSome, sSeq, Fl.then, sNext, sDrop, sRet, sRetN, sIf, sSet, sSetN, sFz, fz, sAsg, sPar, sAug, sApp, sExt, sAsgM, gmName, gmSub, gmNil, gmCons, gmTup, gdName, gdNil, gdCons, gdTup, iSeq, seqD, iL, iT, iListD, iTupD, eRg, wipeD, tYesD, dAddF_int, dSub, dDiv, dMod, dLt, dLe, dGt, dGe, dNeg, dSl, dLen, dTuple, dList, dAbs, dInt, dEq, dNe, dEqB_int, dEqB_str, dEqB_bl, dIs, dIsN, dIn, dNotIn, dIsi, tyName, isT, ite_md, ite_rbind, lim, dIx_c0, dIx_c1, dIx_c2, dIxL_c0, dIxL_c1, dIxL_c2, hx, c1, c2, zD_0, zD_1, a1, a2]
    unfold mirrored
    rw [List.map_set]
    simp [gsub, zD]
end DL

set_option Elab.async false
set_option linter.all false
set_option maxRecDepth 100000
set_option maxHeartbeats 4000000
namespace DL
open PySem PySem.Spec PyProof.Rows L2
def simple (n i : Nat) : Rt := (List.range n).map fun j => if j = i then (1, 0) else (0, 0)
theorem simple_len (n i : Nat) : (simple n i).length = n := by unfold simple; rw [List.length_map, List.length_range]
theorem mirrored_len (es : List Edge) (i : Nat) (r : Rt) : (mirrored es i r).length = r.length := by unfold mirrored; rw [List.length_set]
theorem enN_inj (i j : Nat) : ((i : Int) = (j : Int)) = (i = j) := by rw [Int.natCast_inj]
theorem lw_simple {n : Nat} (es : List Edge) (hn : n ≤ lim) (i : Nat) (st : Option Dr) : F_law_simple [wD n es, .int i] st = .ok (rD (simple n i)) st := by
  unfold F_law_simple
  refine runF_ret (ret ?_)
  have hc : ∀ δ, δ = [Slot.val (wD n es), .val (.int i), .un] → eComp [2] (iR1 (eBin dIx (qVar 0) (eC (.int 0)))) (gdName 2) tYesD (mIf (mB (eBin dEq (qVar 2) (qVar 1))) (eTup (eCons (eC (.int 1)) (eCons (eC (.int 0)) (eNil)))) (eTup (eCons (eC (.int 0)) (eCons (eC (.int 0)) (eNil))))) δ st = .ok ((List.range n).map fun j => zD (if j = i then (1, 0) else (0, 0))) st := by
    rintro δ rfl
    refine eComp_all (enc := enN) (iR1_nat (n := n) rfl hn) (by rw [List.length_range]; exact hn) fun j hj => ⟨_, rfl, ?_⟩
    by_cases h : j = i
    · subst h; simp [mbind_eq, mpure_eq, mofO_some, mofO_none, rbind_ok, rbind_err, rbind_stuck, bindS_eq, rbindS_ok, callR_ok, eCall_eq, runF, startD, eVar, qVar, eC, mIfN, eBin, eUn, eCons, eNil, eTup, eLst, eL, eN, eNN, eBinN, mB, mD, mAnd, mOr, mNot, mIf, eAndV, eOrV, eNot, eChain, eChain3, eSl, oNone, oSome, sSeq, Fl.then, sNext, sDrop, sRet, sRetN, sIf, sSet, sSetN, sFz, fz, sAsg, sPar, sAug, sApp, sExt, sAsgM, gmName, gmSub, gmNil, gmCons, gmTup, gdName, gdNil, gdCons, gdTup, iSeq, seqD, iL, iT, iListD, iTupD, eRg, wipeD, tYesD, dAddF_int, dSub, dDiv, dMod, dLt, dLe, dGt, dGe, dNeg, dSl, dLen, dTuple, dList, dAbs, dInt, dEq, dNe, dEqB_int, dEqB_str, dEqB_bl, dIs, dIsN, dIn, dNotIn, dIsi, tyName, isT, ite_md, ite_rbind, lim, dIx_c0, dIx_c1, dIx_c2, dIxL_c0, dIxL_c1, dIxL_c2, enN, zD]
    · simp [mbind_eq, mpure_eq, mofO_some, mofO_none, rbind_ok, rbind_err, rbind_stuck, bindS_eq, rbindS_ok, callR_ok, eCall_eq, runF, startD, eVar, qVar, eC, mIfN, eBin, eUn, eCons, eNil, eTup, eLst, eL, eN, eNN, eBinN, mB, mD, mAnd, mOr, mNot, mIf, eAndV, eOrV, eNot, eChain, eChain3, eSl, oNone, oSome, sSeq, Fl.then, sNext, sDrop, sRet, sRetN, sIf, sSet, sSetN, sFz, fz, sAsg, sPar, sAug, sApp, sExt, sAsgM, gmName, gmSub, gmNil, gmCons, gmTup, gdName, gdNil, gdCons, gdTup, iSeq, seqD, iL, iT, iListD, iTupD, eRg, wipeD, tYesD, dAddF_int, dSub, dDiv, dMod, dLt, dLe, dGt, dGe, dNeg, dSl, dLen, dTuple, dList, dAbs, dInt, dEq, dNe, dEqB_int, dEqB_str, dEqB_bl, dIs, dIsN, dIn, dNotIn, dIsi, tyName, isT, ite_md, ite_rbind, lim, dIx_c0, dIx_c1, dIx_c2, dIxL_c0, dIxL_c1, dIxL_c2, enN, zD, h, enN_inj]
  have := hc _ rfl
  simp [mbind_eq, mpure_eq, mofO_some, mofO_none, rbind_ok, rbind_err, rbind_stuck, bindS_eq, rbindS_ok, callR_ok, eCall_eq, runF, startD, eVar, qVar, eC, mIfN, eBin, eUn, eCons, eNil, eTup, eLst, eL, eN, eNN, eBinN, mB, mD, mAnd, mOr, mNot, mIf, eAndV, eOrV, eNot, eChain, eChain3, eSl, oNone, oSome, sSeq, Fl.then, sNext, sDrop, sRet, sRetN, sIf, sSet, sSetN, sFz, fz, sAsg, sPar, sAug, sApp, sExt, sAsgM, gmName, gmSub, gmNil, gmCons, gmTup, gdName, gdNil, gdCons, gdTup, iSeq, seqD, iL, iT, iListD, iTupD, eRg, wipeD, tYesD, dAddF_int, dSub, dDiv, dMod, dLt, dLe, dGt, dGe, dNeg, dSl, dLen, dTuple, dList, dAbs, dInt, dEq, dNe, dEqB_int, dEqB_str, dEqB_bl, dIs, dIsN, dIn, dNotIn, dIsi, tyName, isT, ite_md, ite_rbind, lim, dIx_c0, dIx_c1, dIx_c2, dIxL_c0, dIxL_c1, dIxL_c2, this, simple, rD]
theorem foldl_len {es : List Edge} {n : Nat} : ∀ (w : List Nat) (r : Rt), r.length = n → (w.foldl (fun r m => mirrored es m r) r).length = n
  | [], r, h => h
  | m :: w, r, h => by rw [List.foldl_cons]; exact foldl_len w _ (by rw [mirrored_len]; exact h)
def enW (w : List Nat) : D := .tup (w.map enN)
def movd (es : List Edge) (w : List Nat) (r : Rt) : Rt := w.reverse.foldl (fun r m => mirrored es m r) r
theorem lw_moved {n : Nat} {es : List Edge} (h : EsOk es) {r : Rt} (hr : r.length = n) (hn : n ≤ lim) {w : List Nat} (hw : ∀ m ∈ w, m < n) (st : Option Dr) : F_law_moved [wD n es, enW w, rD r] st = .ok (rD (movd es w r)) st := by
  unfold F_law_moved
  have hrev : dRevF (enW w) = some (.tup (w.reverse.map enN)) := by unfold enW; rw [List.map_reverse]; rfl
  refine runF_ret (seq_ex (for_ex (enc := enN) (l := w.reverse) (s := r) (f := fun r m => mirrored es m r)
    (R := fun r δ s => s = st ∧ r.length = n ∧ ∃ o, δ = [.val (wD n es), .val (enW w), .val (rD r), o]) (st1 := st) ?_ ⟨rfl, hr, .un, rfl⟩ (fun j hj t δ s ⟨hs, ht, o, hδ⟩ => ?_)) ?_)
  · simp [mbind_eq, mpure_eq, mofO_some, mofO_none, rbind_ok, rbind_err, rbind_stuck, bindS_eq, rbindS_ok, callR_ok, eCall_eq, runF, startD, eVar, qVar, eC, mIfN, eBin, eUn, eCons, eNil, eTup, eLst, eL, eN, eNN, eBinN, mB, mD, mAnd, mOr, mNot, mIf, eAndV, eOrV, eNot, eChain, eChain3, eSl, oNone, oSome, sSeq, Fl.then, sNext, sDrop, sRet, sRetN, sIf, sSet, sSetN, sFz, fz, sAsg, sPar, sAug, sApp, sExt, sAsgM, gmName, gmSub, gmNil, gmCons, gmTup, gdName, gdNil, gdCons, gdTup, iSeq, seqD, iL, iT, iListD, iTupD, eRg, wipeD, tYesD, dAddF_int, dSub, dDiv, dMod, dLt, dLe, dGt, dGe, dNeg, dSl, dLen, dTuple, dList, dAbs, dInt, dEq, dNe, dEqB_int, dEqB_str, dEqB_bl, dIs, dIsN, dIn, dNotIn, dIsi, tyName, isT, ite_md, ite_rbind, lim, dIx_c0, dIx_c1, dIx_c2, dIxL_c0, dIxL_c1, dIxL_c2, enW, dRevF]
  · subst hs hδ
    refine ⟨_, _, _, rfl, ?_, rfl, by rw [mirrored_len]; exact ht, .val (enN j), rfl⟩
    have hj' := hw j (List.mem_reverse.mp hj)
    simp [mbind_eq, mpure_eq, mofO_some, mofO_none, rbind_ok, rbind_err, rbind_stuck, bindS_eq, rbindS_ok, callR_ok, eCall_eq, runF, startD, eVar, qVar, eC, mIfN, eBin, eUn, eCons, eNil, eTup, eLst, eL, eN, eNN, eBinN, mB, mD, mAnd, mOr, mNot, mIf, eAndV, eOrV, eNot, eChain, eChain3, eSl, oNone, oSome, sSeq, Fl.then, sNext, sDrop, sRet, sRetN, sIf, sSet, sSetN, sFz, fz, sAsg, sPar, sAug, sApp, sExt, sAsgM, gmName, gmSub, gmNil, gmCons, gmTup, gdName, gdNil, gdCons, gdTup, iSeq, seqD, iL, iT, iListD, iTupD, eRg, wipeD, tYesD, dAddF_int, dSub, dDiv, dMod, dLt, dLe, dGt, dGe, dNeg, dSl, dLen, dTuple, dList, dAbs, dInt, dEq, dNe, dEqB_int, dEqB_str, dEqB_bl, dIs, dIsN, dIn, dNotIn, dIsi, tyName, isT, ite_md, ite_rbind, lim, dIx_c0, dIx_c1, dIx_c2, dIxL_c0, dIxL_c1, dIxL_c2, enN, lw_mirrored h ht hn hj']
  · rintro _ _ ⟨rfl, _, o, rfl⟩
    rfl
def side (r : Rt) : Int := if (-1 : Int) ∈ r.map gsign then (if (1 : Int) ∈ r.map gsign then 0 else -1) else if (1 : Int) ∈ r.map gsign then 1 else 0
def smallR (r : Rt) : Prop := ∀ x ∈ r, gsmall x
theorem lw_side {r : Rt} (h : smallR r) (hl : r.length ≤ lim) (st : Option Dr) : F_law_side [rD r] st = .ok (.int (side r)) st := by
  unfold F_law_side
  have hc : ∀ δ, δ = [Slot.val (rD r), .un, .un] → eComp [2] (iSeq (qVar 0)) (gdName 2) (tYesD) (eCall 1 (F_law_sign) (eCons (eVar 2) (eNil))) δ st = .ok (r.map fun x => .int (gsign x)) st := by
    rintro δ rfl
    refine eComp_all (enc := zD) rfl hl fun x hx => ⟨_, rfl, ?_⟩
    simp [mbind_eq, mpure_eq, mofO_some, mofO_none, rbind_ok, rbind_err, rbind_stuck, bindS_eq, rbindS_ok, callR_ok, eCall_eq, runF, startD, eVar, qVar, eC, mIfN, eBin, eUn, eCons, eNil, eTup, eLst, eL, eN, eNN, eBinN, mB, mD, mAnd, mOr, mNot, mIf, eAndV, eOrV, eNot, eChain, eChain3, eSl, oNone, oSome, sSeq, Fl.then, sNext, sDrop, sRet, sRetN, sIf, sSet, sSetN, sFz, fz, sAsg, sPar, sAug, sApp, sExt, sAsgM, gmName, gmSub, gmNil, gmCons, gmTup, gdName, gdNil, gdCons, gdTup, iSeq, seqD, iL, iT, iListD, iTupD, eRg, wipeD, tYesD, dAddF_int, dSub, dDiv, dMod, dLt, dLe, dGt, dGe, dNeg, dSl, dLen, dTuple, dList, dAbs, dInt, dEq, dNe, dEqB_int, dEqB_str, dEqB_bl, dIs, dIsN, dIn, dNotIn, dIsi, tyName, isT, ite_md, ite_rbind, lim, dIx_c0, dIx_c1, dIx_c2, dIxL_c0, dIxL_c1, dIxL_c2, lw_sign (h x hx)]
  refine runF_ret (seq (setN (hc _ rfl)) ?_)
  have e : (r.map fun x => D.int (gsign x)) = (r.map gsign).map D.int := by rw [List.map_map]; rfl
  rw [e]
  unfold side
  have i1 := dInB_lstI (-1) (r.map gsign)
  have i2 := dInB_lstI 1 (r.map gsign)
  generalize r.map gsign = l at i1 i2 ⊢
  by_cases h1 : (-1 : Int) ∈ l <;> by_cases h2 : (1 : Int) ∈ l
  all_goals simp only [h1, h2, decide_true, decide_false, if_true, if_false] at i1 i2 ⊢
  all_goals simp [mbind_eq, mpure_eq, mofO_some, mofO_none, rbind_ok, rbind_err, rbind_stuck, bindS_eq, rbindS_ok, callR_ok, eCall_eq, runF, startD, eVar, qVar, eC, mIfN, eBin, eUn, eCons, eNil, eTup, eLst, eL, eN, eNN, eBinN, mB, mD, mAnd, mOr, mNot, mIf, eAndV, eOrV, eNot, eChain, eChain3, eSl, oNone, oSome, sSeq, Fl.then, sNext, sDrop, sRet, sRetN, sIf, sSet, sSetN, sFz, fz, sAsg, sPar, sAug, sApp, sExt, sAsgM, gmName, gmSub, gmNil, gmCons, gmTup, gdName, gdNil, gdCons, gdTup, iSeq, seqD, iL, iT, iListD, iTupD, eRg, wipeD, tYesD, dAddF_int, dSub, dDiv, dMod, dLt, dLe, dGt, dGe, dNeg, dSl, dLen, dTuple, dList, dAbs, dInt, dEq, dNe, dEqB_int, dEqB_str, dEqB_bl, dIs, dIsN, dIn, dNotIn, dIsi, tyName, isT, ite_md, ite_rbind, lim, dIx_c0, dIx_c1, dIx_c2, dIxL_c0, dIxL_c1, dIxL_c2, dIn, i1, i2]
end DL

set_option Elab.async false
set_option linter.all false
set_option maxRecDepth 100000
set_option maxHeartbeats 4000000
namespace DL
open PySem PySem.Spec PyProof.Rows L2
def upd1 (es : List Edge) (n f j : Nat) (im base : Rt) : Rt := (List.range n).map fun k => gadd (im.getD k (0, 0)) (gmul (gneg (slope es f j)) (base.getD k (0, 0)))
def updAll (es : List Edge) (n f : Nat) (base : Rt) (ims : List Rt) : List Rt := (List.range n).foldl (fun ims j => ims.set j (upd1 es n f j (ims.getD j []) base)) ims
def low (n : Nat) (ims : List Rt) : List Nat := (List.range n).filter fun m => decide (side (ims.getD m []) < 0)
def smallA (ims : List Rt) : Prop := ∀ r ∈ ims, ∀ x ∈ r, gsmall x
instance (ims : List Rt) : Decidable (smallA ims) := inferInstanceAs (Decidable (∀ r ∈ ims, ∀ x ∈ r, gsmall x))
def normRun (es : List Edge) (n : Nat) : Nat → List Rt → Option (List Nat)
  | 0, _ => none
  | k + 1, ims => if smallA ims then match low n ims with
    | [] => some []
    | f :: _ => (normRun es n k (updAll es n f (ims.getD f []) ims)).map (f :: ·)
    else none
def imgs (es : List Edge) (n : Nat) (w : List Nat) : List Rt := (List.range n).map fun m => w.foldl (fun r s => mirrored es s r) (simple n m)
def LenA (n : Nat) (ims : List Rt) : Prop := ims.length = n ∧ ∀ r ∈ ims, r.length = n
theorem getD_mem {α : Type} {l : List α} {i : Nat} {d : α} (h : i < l.length) : l.getD i d ∈ l := by
  rw [List.getD_eq_getElem?_getD, List.getElem?_eq_getElem h]; exact List.getElem_mem h
theorem upd1_len (es : List Edge) (n f j : Nat) (im base : Rt) : (upd1 es n f j im base).length = n := by unfold upd1; rw [List.length_map, List.length_range]
theorem LenA.set {n : Nat} {ims : List Rt} (h : LenA n ims) {j : Nat} {r : Rt} (hr : r.length = n) : LenA n (ims.set j r) :=
  ⟨by rw [List.length_set]; exact h.1, fun x hx => (List.mem_or_eq_of_mem_set hx).elim (h.2 x) (fun e => by rw [e]; exact hr)⟩
theorem updAll_len {es : List Edge} {n f : Nat} {base : Rt} : ∀ (l : List Nat) (ims : List Rt), LenA n ims → LenA n (l.foldl (fun ims j => ims.set j (upd1 es n f j (ims.getD j []) base)) ims)
  | [], ims, h => h
  | j :: l, ims, h => by rw [List.foldl_cons]; exact updAll_len l _ (h.set (upd1_len ..))
theorem imgs_len (es : List Edge) (n : Nat) (w : List Nat) : LenA n (imgs es n w) := by
  refine ⟨by unfold imgs; rw [List.length_map, List.length_range], fun r hr => ?_⟩
  unfold imgs at hr
  obtain ⟨m, _, rfl⟩ := List.mem_map.mp hr
  exact foldl_len w _ (simple_len n m)
theorem neg_slope_small (es : List Edge) (i j : Int) : gsmall (gneg (slope es i j)) := by
  have := slope_small es i j
  unfold gsmall gneg at *
  rw [Int.natAbs_neg, Int.natAbs_neg]
  exact this
theorem lowC {n : Nat} {es : List Edge} {ims : List Rt} (hl : LenA n ims) (hn : n ≤ lim) (hs : smallA ims) (x1 x3 x4 x5 x6 x7 x8 x9 x10 : Slot) (st : Option Dr) :
    eComp [9] (iR1 (eBin dIx (qVar 0) (eC (.int 0)))) (gdName 9) (mB (eBin dLt (eCall 1 (F_law_side) (eCons (eBin dIx (qVar 2) (qVar 9)) (eNil))) (eC (.int 0)))) (eVar 9) [.val (wD n es), x1, .own (ims.map rD), x3, x4, x5, x6, x7, x8, x9, x10] st = .ok ((low n ims).map enN) st := by
  unfold low
  refine eComp_map (p := fun m => decide (side (ims.getD m []) < 0)) (enc := enN) (iR1_nat (n := n) rfl hn) (by rw [List.length_range]; exact hn) fun m hm => ⟨_, rfl, ?_, fun _ => rfl⟩
  have hm' : m < ims.length := by rw [hl.1]; exact List.mem_range.mp hm
  have hx := dIxL_map (f := rD) ([] : Rt) hm'
  have hmem : ims.getD m [] ∈ ims := getD_mem hm'
  have hside := lw_side (hs _ hmem) (by rw [hl.2 _ hmem]; exact hn) none
  simp only [List.getD_eq_getElem?_getD] at hside
  simp [mbind_eq, mpure_eq, mofO_some, mofO_none, rbind_ok, rbind_err, rbind_stuck, bindS_eq, rbindS_ok, callR_ok, eCall_eq, runF, startD, eVar, qVar, eC, mIfN, eBin, eUn, eCons, eNil, eTup, eLst, eL, eN, eNN, eBinN, mB, mD, mAnd, mOr, mNot, mIf, eAndV, eOrV, eNot, eChain, eChain3, eSl, oNone, oSome, sSeq, Fl.then, sNext, sDrop, sRet, sRetN, sIf, sSet, sSetN, sFz, fz, sAsg, sPar, sAug, sApp, sExt, sAsgM, gmName, gmSub, gmNil, gmCons, gmTup, gdName, gdNil, gdCons, gdTup, iSeq, seqD, iL, iT, iListD, iTupD, eRg, wipeD, tYesD, dAddF_int, dSub, dDiv, dMod, dLt, dLe, dGt, dGe, dNeg, dSl, dLen, dTuple, dList, dAbs, dInt, dEq, dNe, dEqB_int, dEqB_str, dEqB_bl, dIs, dIsN, dIn, dNotIn, dIsi, tyName, isT, ite_md, ite_rbind, lim, dIx_c0, dIx_c1, dIx_c2, dIxL_c0, dIxL_c1, dIxL_c2, enN, hx, hside]
theorem enW_app (a b : List Nat) : (a.map enN) ++ (b.map enN) = (a ++ b).map enN := (List.map_append ..).symm
theorem lw_normal {n : Nat} {es : List Edge} (h : EsOk es) (hn : n ≤ lim) {w : List Nat} (hw : ∀ m ∈ w, m < n) (hwl : w.length ≤ lim) {l : List Nat} (hl : normRun es n 1000 (imgs es n w) = some l) (st : Option Dr) : F_law_normal [wD n es, enW w] st = .ok (enW l) st := by
  unfold F_law_normal
  have sm : ∀ {k : Nat} {ims : List Rt} {l : List Nat}, normRun es n k ims = some l → smallA ims := fun {k ims l} e => by
    cases k with
    | zero => cases e
    | succ k =>
      unfold normRun at e
      by_cases z : smallA ims
      · exact z
      · rw [if_neg z] at e; cases e
  have hc : ∀ st, eComp [9] (iR1 (eBin dIx (qVar 0) (eC (.int 0)))) (gdName 9) (tYesD) (eCall 3 (F_law_moved) (eCons (eVar 0) (eCons (eUn dRevF (qVar 1)) (eCons (eCall 2 (F_law_simple) (eCons (eVar 0) (eCons (eVar 9) (eNil)))) (eNil)))))
      (startD 11 [wD n es, enW w]) st = .ok ((imgs es n w).map rD) st := fun st => by
    unfold imgs
    rw [List.map_map]
    refine eComp_all (enc := enN) (iR1_nat (n := n) rfl hn) (by rw [List.length_range]; exact hn) fun m hm => ⟨_, rfl, ?_⟩
    have e1 : dRevF (enW w) = some (enW w.reverse) := by unfold enW; rw [List.map_reverse]; rfl
    have e2 := lw_moved h (simple_len n m) hn (w := w.reverse) (fun s hs => hw s (List.mem_reverse.mp hs)) none
    unfold movd at e2
    rw [List.reverse_reverse] at e2
    simp [mbind_eq, mpure_eq, mofO_some, mofO_none, rbind_ok, rbind_err, rbind_stuck, bindS_eq, rbindS_ok, callR_ok, eCall_eq, runF, startD, eVar, qVar, eC, mIfN, eBin, eUn, eCons, eNil, eTup, eLst, eL, eN, eNN, eBinN, mB, mD, mAnd, mOr, mNot, mIf, eAndV, eOrV, eNot, eChain, eChain3, eSl, oNone, oSome, sSeq, Fl.then, sNext, sDrop, sRet, sRetN, sIf, sSet, sSetN, sFz, fz, sAsg, sPar, sAug, sApp, sExt, sAsgM, gmName, gmSub, gmNil, gmCons, gmTup, gdName, gdNil, gdCons, gdTup, iSeq, seqD, iL, iT, iListD, iTupD, eRg, wipeD, tYesD, dAddF_int, dSub, dDiv, dMod, dLt, dLe, dGt, dGe, dNeg, dSl, dLen, dTuple, dList, dAbs, dInt, dEq, dNe, dEqB_int, dEqB_str, dEqB_bl, dIs, dIsN, dIn, dNotIn, dIsi, tyName, isT, ite_md, ite_rbind, lim, dIx_c0, dIx_c1, dIx_c2, dIxL_c0, dIxL_c1, dIxL_c2, enN, e1, lw_simple es hn, e2]
  have hs0 := sm hl
  have hl0 := imgs_len es n w
  refine runF_ret (seq (setN (hc st)) (seq rfl (seq (setN (lowC hl0 hn hs0 (.val (enW w)) (.val (.tup [])) .un .un .un .un .un .un .un st)) (seq_ex (P := fun δ s => s = st ∧ ∃ a b c d e f g i j, δ = [a, b, c, .val (enW l), d, e, f, g, i, .un, j]) (while_ex
    (Q := fun k δ s => s = st ∧ ∃ ims tl rest x5 x6 x7 x8, LenA n ims ∧ normRun es n (k + 1) ims = some rest ∧ tl ++ rest = l ∧ tl.length + k = 999 ∧ δ = [.val (wD n es), .val (enW w), .own (ims.map rD), .val (enW tl), .own ((low n ims).map enN), x5, x6, x7, x8, .un, .un])
    (n := 999) ?_ (by decide) ⟨rfl, imgs es n w, [], l, .un, .un, .un, .un, hl0, hl, rfl, rfl, rfl⟩) ?_))))
  · rintro k δ s ⟨rfl, ims, tl, rest, x5, x6, x7, x8, hA, hrun, htl, hk, rfl⟩
    have hs := sm hrun
    unfold normRun at hrun
    rw [if_pos hs] at hrun
    cases hlow : low n ims with
    | nil =>
      rw [hlow] at hrun
      cases hrun
      rw [List.append_nil] at htl
      subst htl
      refine .inl ⟨s, by simp [mbind_eq, mpure_eq, mofO_some, mofO_none, rbind_ok, rbind_err, rbind_stuck, bindS_eq, rbindS_ok, callR_ok, eCall_eq, runF, startD, eVar, qVar, eC, mIfN, eBin, eUn, eCons, eNil, eTup, eLst, eL, eN, eNN, eBinN, mB, mD, mAnd, mOr, mNot, mIf, eAndV, eOrV, eNot, eChain, eChain3, eSl, oNone, oSome, sSeq, Fl.then, sNext, sDrop, sRet, sRetN, sIf, sSet, sSetN, sFz, fz, sAsg, sPar, sAug, sApp, sExt, sAsgM, gmName, gmSub, gmNil, gmCons, gmTup, gdName, gdNil, gdCons, gdTup, iSeq, seqD, iL, iT, iListD, iTupD, eRg, wipeD, tYesD, dAddF_int, dSub, dDiv, dMod, dLt, dLe, dGt, dGe, dNeg, dSl, dLen, dTuple, dList, dAbs, dInt, dEq, dNe, dEqB_int, dEqB_str, dEqB_bl, dIs, dIsN, dIn, dNotIn, dIsi, tyName, isT, ite_md, ite_rbind, lim, dIx_c0, dIx_c1, dIx_c2, dIxL_c0, dIxL_c1, dIxL_c2, hlow], rfl, _, _, _, _, _, _, _, _, _, rfl⟩
    | cons f fr =>
      rw [hlow] at hrun
      obtain ⟨rest', hr', rfl⟩ := Option.map_eq_some_iff.mp hrun
      have hf : f < n := List.mem_range.mp (List.mem_filter.mp (show f ∈ low n ims by rw [hlow]; exact List.mem_cons_self)).1
      have hf' : f < ims.length := by rw [hA.1]; exact hf
      cases k with
      | zero => cases hr'
      | succ k =>
        have hbl : (ims.getD f []).length = n := hA.2 _ (getD_mem hf')
        have hx := dIxL_map (f := rD) ([] : Rt) hf'
        have htl' : tl.length ≤ 999 := by omega
        have ha : ∀ y, dAddF (enW tl) (.tup [.int (y : Nat)]) = some (enW (tl ++ [y])) := fun y => by
          unfold enW
          rw [dAdd_tup (by rw [List.length_map]; show tl.length + 1 ≤ 1000000; omega), List.map_append]
          rfl
        refine .inr ⟨k, s, Nat.lt_succ_self _, by simp [mbind_eq, mpure_eq, mofO_some, mofO_none, rbind_ok, rbind_err, rbind_stuck, bindS_eq, rbindS_ok, callR_ok, eCall_eq, runF, startD, eVar, qVar, eC, mIfN, eBin, eUn, eCons, eNil, eTup, eLst, eL, eN, eNN, eBinN, mB, mD, mAnd, mOr, mNot, mIf, eAndV, eOrV, eNot, eChain, eChain3, eSl, oNone, oSome, sSeq, Fl.then, sNext, sDrop, sRet, sRetN, sIf, sSet, sSetN, sFz, fz, sAsg, sPar, sAug, sApp, sExt, sAsgM, gmName, gmSub, gmNil, gmCons, gmTup, gdName, gdNil, gdCons, gdTup, iSeq, seqD, iL, iT, iListD, iTupD, eRg, wipeD, tYesD, dAddF_int, dSub, dDiv, dMod, dLt, dLe, dGt, dGe, dNeg, dSl, dLen, dTuple, dList, dAbs, dInt, dEq, dNe, dEqB_int, dEqB_str, dEqB_bl, dIs, dIsN, dIn, dNotIn, dIsi, tyName, isT, ite_md, ite_rbind, lim, dIx_c0, dIx_c1, dIx_c2, dIxL_c0, dIxL_c1, dIxL_c2, hlow], ?_⟩
        refine seqE (δ1 := [.val (wD n es), .val (enW w), .own (ims.map rD), .val (enW tl), .own ((f :: fr).map enN), .val (enN f), x6, x7, x8, .un, .un]) (st1 := s) (by simp [mbind_eq, mpure_eq, mofO_some, mofO_none, rbind_ok, rbind_err, rbind_stuck, bindS_eq, rbindS_ok, callR_ok, eCall_eq, runF, startD, eVar, qVar, eC, mIfN, eBin, eUn, eCons, eNil, eTup, eLst, eL, eN, eNN, eBinN, mB, mD, mAnd, mOr, mNot, mIf, eAndV, eOrV, eNot, eChain, eChain3, eSl, oNone, oSome, sSeq, Fl.then, sNext, sDrop, sRet, sRetN, sIf, sSet, sSetN, sFz, fz, sAsg, sPar, sAug, sApp, sExt, sAsgM, gmName, gmSub, gmNil, gmCons, gmTup, gdName, gdNil, gdCons, gdTup, iSeq, seqD, iL, iT, iListD, iTupD, eRg, wipeD, tYesD, dAddF_int, dSub, dDiv, dMod, dLt, dLe, dGt, dGe, dNeg, dSl, dLen, dTuple, dList, dAbs, dInt, dEq, dNe, dEqB_int, dEqB_str, dEqB_bl, dIs, dIsN, dIn, dNotIn, dIsi, tyName, isT, ite_md, ite_rbind, lim, dIx_c0, dIx_c1, dIx_c2, dIxL_c0, dIxL_c1, dIxL_c2, hlow, enN]) ?_
        refine seqE (δ1 := [.val (wD n es), .val (enW w), .own (ims.map rD), .val (enW (tl ++ [f])), .own ((f :: fr).map enN), .val (enN f), x6, x7, x8, .un, .un]) (st1 := s) (by simp [mbind_eq, mpure_eq, mofO_some, mofO_none, rbind_ok, rbind_err, rbind_stuck, bindS_eq, rbindS_ok, callR_ok, eCall_eq, runF, startD, eVar, qVar, eC, mIfN, eBin, eUn, eCons, eNil, eTup, eLst, eL, eN, eNN, eBinN, mB, mD, mAnd, mOr, mNot, mIf, eAndV, eOrV, eNot, eChain, eChain3, eSl, oNone, oSome, sSeq, Fl.then, sNext, sDrop, sRet, sRetN, sIf, sSet, sSetN, sFz, fz, sAsg, sPar, sAug, sApp, sExt, sAsgM, gmName, gmSub, gmNil, gmCons, gmTup, gdName, gdNil, gdCons, gdTup, iSeq, seqD, iL, iT, iListD, iTupD, eRg, wipeD, tYesD, dAddF_int, dSub, dDiv, dMod, dLt, dLe, dGt, dGe, dNeg, dSl, dLen, dTuple, dList, dAbs, dInt, dEq, dNe, dEqB_int, dEqB_str, dEqB_bl, dIs, dIsN, dIn, dNotIn, dIsi, tyName, isT, ite_md, ite_rbind, lim, dIx_c0, dIx_c1, dIx_c2, dIxL_c0, dIxL_c1, dIxL_c2, enN, ha]) ?_
        refine seqE (δ1 := [.val (wD n es), .val (enW w), .own (ims.map rD), .val (enW (tl ++ [f])), .own ((f :: fr).map enN), .val (enN f), .val (rD (ims.getD f [])), x7, x8, .un, .un]) (st1 := s) (by simp [mbind_eq, mpure_eq, mofO_some, mofO_none, rbind_ok, rbind_err, rbind_stuck, bindS_eq, rbindS_ok, callR_ok, eCall_eq, runF, startD, eVar, qVar, eC, mIfN, eBin, eUn, eCons, eNil, eTup, eLst, eL, eN, eNN, eBinN, mB, mD, mAnd, mOr, mNot, mIf, eAndV, eOrV, eNot, eChain, eChain3, eSl, oNone, oSome, sSeq, Fl.then, sNext, sDrop, sRet, sRetN, sIf, sSet, sSetN, sFz, fz, sAsg, sPar, sAug, sApp, sExt, sAsgM, gmName, gmSub, gmNil, gmCons, gmTup, gdName, gdNil, gdCons, gdTup, iSeq, seqD, iL, iT, iListD, iTupD, eRg, wipeD, tYesD, dAddF_int, dSub, dDiv, dMod, dLt, dLe, dGt, dGe, dNeg, dSl, dLen, dTuple, dList, dAbs, dInt, dEq, dNe, dEqB_int, dEqB_str, dEqB_bl, dIs, dIsN, dIn, dNotIn, dIsi, tyName, isT, ite_md, ite_rbind, lim, dIx_c0, dIx_c1, dIx_c2, dIxL_c0, dIxL_c1, dIxL_c2, enN, hx]) ?_
        generalize hbase : ims.getD f [] = base at *
        refine seqEE (for_exE (enc := enN) (l := List.range n) (s := ims) (f := fun ims j => ims.set j (upd1 es n f j (ims.getD j []) base))
          (R := fun ims δ s' => s' = s ∧ LenA n ims ∧ ∃ x7 x8, δ = [.val (wD n es), .val (enW w), .own (ims.map rD), .val (enW (tl ++ [f])), .own ((f :: fr).map enN), .val (enN f), .val (rD base), x7, x8, .un, .un]) (iR1_nat (n := n) rfl hn) ⟨rfl, hA, x7, x8, rfl⟩ ?_) ?_
        · rintro j hj ims' δ s' ⟨rfl, hA', y7, y8, rfl⟩
          have hjn : j < n := List.mem_range.mp hj
          have hj' : j < ims'.length := by rw [hA'.1]; exact hjn
          refine ⟨_, rfl, ?_⟩
          refine seqE (δ1 := [.val (wD n es), .val (enW w), .own (ims'.map rD), .val (enW (tl ++ [f])), .own ((f :: fr).map enN), .val (enN f), .val (rD base), .val (enN j), .val (zD (slope es f j)), .un, .un]) (st1 := s') (by simp [mbind_eq, mpure_eq, mofO_some, mofO_none, rbind_ok, rbind_err, rbind_stuck, bindS_eq, rbindS_ok, callR_ok, eCall_eq, runF, startD, eVar, qVar, eC, mIfN, eBin, eUn, eCons, eNil, eTup, eLst, eL, eN, eNN, eBinN, mB, mD, mAnd, mOr, mNot, mIf, eAndV, eOrV, eNot, eChain, eChain3, eSl, oNone, oSome, sSeq, Fl.then, sNext, sDrop, sRet, sRetN, sIf, sSet, sSetN, sFz, fz, sAsg, sPar, sAug, sApp, sExt, sAsgM, gmName, gmSub, gmNil, gmCons, gmTup, gdName, gdNil, gdCons, gdTup, iSeq, seqD, iL, iT, iListD, iTupD, eRg, wipeD, tYesD, dAddF_int, dSub, dDiv, dMod, dLt, dLe, dGt, dGe, dNeg, dSl, dLen, dTuple, dList, dAbs, dInt, dEq, dNe, dEqB_int, dEqB_str, dEqB_bl, dIs, dIsN, dIn, dNotIn, dIsi, tyName, isT, ite_md, ite_rbind, lim, dIx_c0, dIx_c1, dIx_c2, dIxL_c0, dIxL_c1, dIxL_c2, enN, lw_slope h.lab h.len]) ?_
          have hjx := dIxL_map (f := rD) ([] : Rt) hj'
          have hjl : (ims'.getD j []).length = n := hA'.2 _ (getD_mem hj')
          refine ⟨[.val (wD n es), .val (enW w), .own ((ims'.set j (upd1 es n f j (ims'.getD j []) base)).map rD), .val (enW (tl ++ [f])), .own ((f :: fr).map enN), .val (enN f), .val (rD base), .val (enN j), .val (zD (slope es f j)), .un, .un], s', asgM (d := rD (upd1 es n f j (ims'.getD j []) base)) (st1 := s') (tupLc ?_) ?_, rfl, hA'.set (upd1_len ..), _, _, rfl⟩
          · unfold upd1
            rw [List.map_map]
            refine eComp_all (enc := enN) (iR1_nat (n := n) rfl hn) (by rw [List.length_range]; exact hn) fun m hm => ⟨_, rfl, ?_⟩
            have hmn : m < n := List.mem_range.mp hm
            have hm1 := dIx_map (f := zD) ((0, 0) : Z2) (r := ims'.getD j []) (j := m) (by rw [hjl]; exact hmn)
            have hm2 := dIx_map (f := zD) ((0, 0) : Z2) (r := base) (j := m) (by rw [hbl]; exact hmn)
            have hm1' : dIx (rD (ims'.getD j [])) (.int m) = some (zD ((ims'.getD j []).getD m (0, 0))) := hm1
            have hm2' : dIx (rD base) (.int m) = some (zD (base.getD m (0, 0))) := hm2
            have hz : ∀ x : Z2, F_law_times [.tup [.int (-(slope es f j).1), .int (-(slope es f j).2)], zD x] none = .ok (zD (gmul (gneg (slope es f j)) x)) none := fun x => lw_times (x := gneg (slope es f j)) (neg_slope_small es f j) none
            simp only [List.getD_eq_getElem?_getD] at hm1' hm2' hjx
            simp [mbind_eq, mpure_eq, mofO_some, mofO_none, rbind_ok, rbind_err, rbind_stuck, bindS_eq, rbindS_ok, callR_ok, eCall_eq, runF, startD, eVar, qVar, eC, mIfN, eBin, eUn, eCons, eNil, eTup, eLst, eL, eN, eNN, eBinN, mB, mD, mAnd, mOr, mNot, mIf, eAndV, eOrV, eNot, eChain, eChain3, eSl, oNone, oSome, sSeq, Fl.then, sNext, sDrop, sRet, sRetN, sIf, sSet, sSetN, sFz, fz, sAsg, sPar, sAug, sApp, sExt, sAsgM, gmName, gmSub, gmNil, gmCons, gmTup, gdName, gdNil, gdCons, gdTup, iSeq, seqD, iL, iT, iListD, iTupD, eRg, wipeD, tYesD, dAddF_int, dSub, dDiv, dMod, dLt, dLe, dGt, dGe, dNeg, dSl, dLen, dTuple, dList, dAbs, dInt, dEq, dNe, dEqB_int, dEqB_str, dEqB_bl, dIs, dIsN, dIn, dNotIn, dIsi, tyName, isT, ite_md, ite_rbind, lim, dIx_c0, dIx_c1, dIx_c2, dIxL_c0, dIxL_c1, dIxL_c2, enN, hjx, hm1', hm2', zD_0, zD_1, dNeg, hz, lw_plus]
          · have hix := ixN_nat hj'
            rw [List.map_set]
            simp [mbind_eq, mpure_eq, mofO_some, mofO_none, rbind_ok, rbind_err, rbind_stuck, bindS_eq, rbindS_ok, callR_ok, eCall_eq, runF, startD, eVar, qVar, eC, mIfN, eBin, eUn, eCons, eNil, eTup, eLst, eL, eN, eNN, eBinN, mB, mD, mAnd, mOr, mNot, mIf, eAndV, eOrV, eNot, eChain, eChain3, eSl, oNone, oSome, sSeq, Fl.then, sNext, sDrop, sRet, sRetN, sIf, sSet, sSetN, sFz, fz, sAsg, sPar, sAug, sApp, sExt, sAsgM, gmName, gmSub, gmNil, gmCons, gmTup, gdName, gdNil, gdCons, gdTup, iSeq, seqD, iL, iT, iListD, iTupD, eRg, wipeD, tYesD, dAddF_int, dSub, dDiv, dMod, dLt, dLe, dGt, dGe, dNeg, dSl, dLen, dTuple, dList, dAbs, dInt, dEq, dNe, dEqB_int, dEqB_str, dEqB_bl, dIs, dIsN, dIn, dNotIn, dIsi, tyName, isT, ite_md, ite_rbind, lim, dIx_c0, dIx_c1, dIx_c2, dIxL_c0, dIxL_c1, dIxL_c2, enN, hix]
        · rintro _ _ ⟨rfl, hA2, y7, y8, rfl⟩
          refine ⟨_, _, setN (lowC hA2 hn (sm hr') (.val (enW w)) _ _ _ _ _ _ _ _ _), rfl, updAll es n f base ims, tl ++ [f], rest', _, _, _, _, updAll_len _ _ hA, hr', by rw [List.append_assoc]; exact htl, by rw [List.length_append]; show tl.length + 1 + k = 999; omega, rfl⟩
  · rintro _ _ ⟨rfl, a, b, c, d, e, f, g, i, j, rfl⟩
    rfl
end DL

set_option Elab.async false
set_option linter.all false
set_option maxRecDepth 100000
set_option maxHeartbeats 4000000
namespace DL
open PySem PySem.Spec PyProof.Rows L2
/-! ### the same -/
mutual
def lens : D → Bool
  | .tup ds => decide (ds.length ≤ lim) && lenss ds
  | .lst ds => decide (ds.length ≤ lim) && lenss ds
  | _ => true
def lenss : List D → Bool
  | [] => true
  | d :: ds => lens d && lenss ds
end
theorem ios_mem : ∀ {ds : List D} {d : D}, ios ds = true → d ∈ ds → io d = true
  | d :: ds, e, h, m => by
    unfold ios at h
    rw [Bool.and_eq_true] at h
    rcases List.mem_cons.mp m with q | q
    · rw [q]; exact h.1
    · exact ios_mem h.2 q
theorem lenss_mem : ∀ {ds : List D} {d : D}, lenss ds = true → d ∈ ds → lens d = true
  | d :: ds, e, h, m => by
    unfold lenss at h
    rw [Bool.and_eq_true] at h
    rcases List.mem_cons.mp m with q | q
    · rw [q]; exact h.1
    · exact lenss_mem h.2 q
theorem deps_mem : ∀ {ds : List D} {d : D}, d ∈ ds → dep d ≤ deps ds
  | d :: ds, e, m => by
    unfold deps
    rcases List.mem_cons.mp m with q | q
    · rw [q]; exact Nat.le_max_left ..
    · exact Nat.le_trans (deps_mem q) (Nat.le_max_right ..)
theorem same_seq {n : Nat} {ds : List D} (mkD : List D → D) (hmk : mkD = D.tup ∨ mkD = D.lst) (hl : ds.length ≤ lim) (ih : ∀ d ∈ ds, F_law_same n [d, d] none = .ok (.bl true) none) : F_law_same (n + 1) [mkD ds, mkD ds] none = .ok (.bl true) none := by
  have hc : ∀ δ, δ = [Slot.val (mkD ds), .val (mkD ds), .un] → eComp [2] (iR1 (eN dLen (eCons (qVar 1) (eNil)))) (gdName 2) (mNot (mB (eCall 2 (F_law_same n) (eCons (eBin dIx (qVar 0) (qVar 2)) (eCons (eBin dIx (qVar 1) (qVar 2)) (eNil)))))) (eVar 2) δ none = .ok [] none := by
    rintro δ rfl
    have e0 : ([] : List D) = ((List.range ds.length).filter fun _ => false).map enN := by rw [List.filter_eq_nil_iff.mpr fun _ _ => Bool.false_ne_true]; rfl
    rw [e0]
    refine eComp_map (enc := enN) (iR1_nat (n := ds.length) (by rcases hmk with rfl | rfl <;> rfl) hl) (by rw [List.length_range]; exact hl) fun j hj => ⟨_, rfl, ?_, fun h => by cases h⟩
    have hj' : j < ds.length := List.mem_range.mp hj
    have hx : dIx (mkD ds) (.int (j : Int)) = some ds[j] := by rcases hmk with rfl | rfl <;> exact atI_nth (List.getElem?_eq_getElem hj')
    have := ih ds[j] (List.getElem_mem hj')
    simp [mbind_eq, mpure_eq, mofO_some, mofO_none, rbind_ok, rbind_err, rbind_stuck, bindS_eq, rbindS_ok, callR_ok, eCall_eq, runF, startD, eVar, qVar, eC, mIfN, eBin, eUn, eCons, eNil, eTup, eLst, eL, eN, eNN, eBinN, mB, mD, mAnd, mOr, mNot, mIf, eAndV, eOrV, eNot, eChain, eChain3, eSl, oNone, oSome, sSeq, Fl.then, sNext, sDrop, sRet, sRetN, sIf, sSet, sSetN, sFz, fz, sAsg, sPar, sAug, sApp, sExt, sAsgM, gmName, gmSub, gmNil, gmCons, gmTup, gdName, gdNil, gdCons, gdTup, iSeq, seqD, iL, iT, iListD, iTupD, eRg, wipeD, tYesD, dAddF_int, dSub, dLt, dLe, dGt, dGe, dNeg, dSl, dLen, dTuple, dList, dAbs, dInt, dEq, dNe, dEqB_int, dEqB_str, dEqB_bl, dIs, dIsN, dIn, dNotIn, dIsi, tyName, isT, ite_md, ite_rbind, lim, dIx_c0, dIx_c1, dIx_c2, dIxL_c0, dIxL_c1, dIxL_c2, enN, hx, this]
  have hc' := hc _ rfl
  rw [F_law_same]
  rcases hmk with rfl | rfl
  · simp [mbind_eq, mpure_eq, mofO_some, mofO_none, rbind_ok, rbind_err, rbind_stuck, bindS_eq, rbindS_ok, callR_ok, eCall_eq, runF, startD, eVar, qVar, eC, mIfN, eBin, eUn, eCons, eNil, eTup, eLst, eL, eN, eNN, eBinN, mB, mD, mAnd, mOr, mNot, mIf, eAndV, eOrV, eNot, eChain, eChain3, eSl, oNone, oSome, sSeq, Fl.then, sNext, sDrop, sRet, sRetN, sIf, sSet, sSetN, sFz, fz, sAsg, sPar, sAug, sApp, sExt, sAsgM, gmName, gmSub, gmNil, gmCons, gmTup, gdName, gdNil, gdCons, gdTup, iSeq, seqD, iL, iT, iListD, iTupD, eRg, wipeD, tYesD, dAddF_int, dSub, dLt, dLe, dGt, dGe, dNeg, dSl, dLen, dTuple, dList, dAbs, dInt, dEq, dNe, dEqB_int, dEqB_str, dEqB_bl, dIs, dIsN, dIn, dNotIn, dIsi, tyName, isT, ite_md, ite_rbind, lim, dIx_c0, dIx_c1, dIx_c2, dIxL_c0, dIxL_c1, dIxL_c2, hc']
  · simp [mbind_eq, mpure_eq, mofO_some, mofO_none, rbind_ok, rbind_err, rbind_stuck, bindS_eq, rbindS_ok, callR_ok, eCall_eq, runF, startD, eVar, qVar, eC, mIfN, eBin, eUn, eCons, eNil, eTup, eLst, eL, eN, eNN, eBinN, mB, mD, mAnd, mOr, mNot, mIf, eAndV, eOrV, eNot, eChain, eChain3, eSl, oNone, oSome, sSeq, Fl.then, sNext, sDrop, sRet, sRetN, sIf, sSet, sSetN, sFz, fz, sAsg, sPar, sAug, sApp, sExt, sAsgM, gmName, gmSub, gmNil, gmCons, gmTup, gdName, gdNil, gdCons, gdTup, iSeq, seqD, iL, iT, iListD, iTupD, eRg, wipeD, tYesD, dAddF_int, dSub, dLt, dLe, dGt, dGe, dNeg, dSl, dLen, dTuple, dList, dAbs, dInt, dEq, dNe, dEqB_int, dEqB_str, dEqB_bl, dIs, dIsN, dIn, dNotIn, dIsi, tyName, isT, ite_md, ite_rbind, lim, dIx_c0, dIx_c1, dIx_c2, dIxL_c0, dIxL_c1, dIxL_c2, hc']
theorem same_io : ∀ (n : Nat) (d : D), io d = true → lens d = true → dep d ≤ n → F_law_same (n + 1) [d, d] none = .ok (.bl true) none
  | n, .int i, _, _, _ => by
    rw [F_law_same]
    simp [mbind_eq, mpure_eq, mofO_some, mofO_none, rbind_ok, rbind_err, rbind_stuck, bindS_eq, rbindS_ok, callR_ok, eCall_eq, runF, startD, eVar, qVar, eC, mIfN, eBin, eUn, eCons, eNil, eTup, eLst, eL, eN, eNN, eBinN, mB, mD, mAnd, mOr, mNot, mIf, eAndV, eOrV, eNot, eChain, eChain3, eSl, oNone, oSome, sSeq, Fl.then, sNext, sDrop, sRet, sRetN, sIf, sSet, sSetN, sFz, fz, sAsg, sPar, sAug, sApp, sExt, sAsgM, gmName, gmSub, gmNil, gmCons, gmTup, gdName, gdNil, gdCons, gdTup, iSeq, seqD, iL, iT, iListD, iTupD, eRg, wipeD, tYesD, dAddF_int, dSub, dLt, dLe, dGt, dGe, dNeg, dSl, dLen, dTuple, dList, dAbs, dInt, dEq, dNe, dEqB_int, dEqB_str, dEqB_bl, dIs, dIsN, dIn, dNotIn, dIsi, tyName, isT, ite_md, ite_rbind, lim, dIx_c0, dIx_c1, dIx_c2, dIxL_c0, dIxL_c1, dIxL_c2]
  | 0, .tup ds, _, _, h => by unfold dep at h; omega
  | n + 1, .tup ds, h1, h2, h => by
    unfold io at h1
    unfold lens at h2
    unfold dep at h
    rw [Bool.and_eq_true, decide_eq_true_eq] at h2
    exact same_seq D.tup (.inl rfl) h2.1 fun d hd => same_io n d (ios_mem h1 hd) (lenss_mem h2.2 hd) (by have := deps_mem hd; omega)
  | 0, .lst ds, _, _, h => by unfold dep at h; omega
  | n + 1, .lst ds, h1, h2, h => by
    unfold io at h1
    unfold lens at h2
    unfold dep at h
    rw [Bool.and_eq_true, decide_eq_true_eq] at h2
    exact same_seq D.lst (.inr rfl) h2.1 fun d hd => same_io n d (ios_mem h1 hd) (lenss_mem h2.2 hd) (by have := deps_mem hd; omega)
  | _, .non, h, _, _ => by simp [io] at h
  | _, .bl _, h, _, _ => by simp [io] at h
  | _, .str _, h, _, _ => by simp [io] at h
  | _, .dic _ _, h, _, _ => by simp [io] at h
  | _, .obj _ _ _, h, _, _ => by simp [io] at h
  | _, .ref _, h, _, _ => by simp [io] at h
/-! ### the draws -/
/-- where the draws stand -/
structure DrI (ad : Addr) (s : Option Dr) : Prop where
  ex : ∃ d, s = some d ∧ d.ad = ad ∧ 0 ≤ d.pos
def RtEx (r : Res Fl) (P : D → Option Dr → Prop) : Prop := ∃ d st, r = .ok (.rt d) st ∧ P d st
theorem seqX {f g : DEnv → Md Fl} {δ : DEnv} {st : Option Dr} {P1 : DEnv → Option Dr → Prop} {P : D → Option Dr → Prop} (h : ∃ δ1 st1, f δ st = .ok (.nx δ1) st1 ∧ P1 δ1 st1) (h2 : ∀ δ1 st1, P1 δ1 st1 → RtEx (g δ1 st1) P) : RtEx (sSeq f g δ st) P := by
  obtain ⟨δ1, st1, e, p⟩ := h
  obtain ⟨d, s, e2, q⟩ := h2 δ1 st1 p
  exact ⟨d, s, seq e e2, q⟩
theorem seqR {f g : DEnv → Md Fl} {δ : DEnv} {st : Option Dr} {P : D → Option Dr → Prop} (h : RtEx (f δ st) P) : RtEx (sSeq f g δ st) P := by
  obtain ⟨d, s, e2, q⟩ := h
  exact ⟨d, s, seq_rt e2, q⟩
theorem runX {n : Nat} {b : DEnv → Md Fl} {ds : List D} {st : Option Dr} {P : D → Option Dr → Prop} (h : RtEx (b (startD n ds) st) P) : ∃ d st', runF n b ds st = .ok d st' ∧ P d st' := by
  obtain ⟨d, s, e2, q⟩ := h
  exact ⟨d, s, runF_ret e2, q⟩
theorem dMod_pos {a b : Int} (h : 0 < b) : dMod (.int a) (.int b) = some (.int (a.fmod b)) := by
  unfold dMod; exact if_pos (by omega)
theorem dDiv_pos {a b : Int} (h : 0 < b) (h2 : b < 1073741824) : dDiv (.int a) (.int b) = some (.int (a.fdiv b)) := by
  unfold dDiv; exact if_pos ⟨by omega, by omega⟩
/-- draws of one list, whatever was drawn -/
theorem lw_draw {ad : Addr} {s : Option Dr} (hs : DrI ad s) {n : Int} (h0 : 0 < n) (hn : n < 1073741824) : ∃ (v : Int) (s' : Option Dr), F_law_draw [.ref ad, .int n] s = .ok (.int v) s' ∧ 0 ≤ v ∧ v < n ∧ DrI ad s' := by
  obtain ⟨⟨ad', ns, pos, big, lcg⟩, rfl, rfl, hp⟩ := hs.ex
  dsimp only at hp ⊢
  unfold F_law_draw
  have key : ∃ d st', runF 4 b_law_draw [.ref ad', .int n] (some ⟨ad', ns, pos, big, lcg⟩) = .ok d st' ∧ ∃ v, d = .int v ∧ 0 ≤ v ∧ v < n ∧ DrI ad' st' := by
    refine runX (seqX (P1 := fun δ s => ∃ o2 p b l, 0 ≤ p ∧ s = some ⟨ad', ns, p, b, l⟩ ∧ δ = [.val (.ref ad'), .val (.int n), o2, .un]) ?_ ?_)
    · have hm := fun a => dMod_pos (a := a) (show (0 : Int) < 2147483647 by decide)
      have e1 : ∀ x : Int, dMulF (.int x) (.int 48271) = some (.int (x * 48271)) := fun x => dmul_r (by decide)
      have hpow : dPow (.int 10) (.int 18) = some (.int 1000000000000000000) := by unfold dPow; dsimp only; rw [if_pos (by decide)]; rfl
      by_cases hb : big = 0
      · by_cases hlt : pos < ns.length
        · obtain ⟨p, rfl⟩ : ∃ p : Nat, pos = p := ⟨pos.toNat, by omega⟩
          have hpl : p < ns.length := by omega
          have hx := dIxL_map (f := D.int) (0 : Int) hpl
          by_cases hc : 1000000000000000000 ≤ ns.getD p 0
          · refine ⟨[.val (.ref ad'), .val (.int n), .val (.int (ns.getD p 0)), .un], some ⟨ad', ns, p + 1, ns.getD p 0, (lcg * 48271 + ns.getD p 0 + 13).fmod 2147483647⟩, ?_, _, _, _, _, by omega, rfl, rfl⟩
            simp only [List.getD_eq_getElem?_getD] at hx hc
            simp [mbind_eq, mpure_eq, mofO_some, mofO_none, rbind_ok, rbind_err, rbind_stuck, bindS_eq, rbindS_ok, callR_ok, eCall_eq, runF, startD, eVar, qVar, eC, mIfN, eBin, eUn, eCons, eNil, eTup, eLst, eL, eN, eNN, eBinN, mB, mD, mAnd, mOr, mNot, mIf, eAndV, eOrV, eNot, eChain, eChain3, eSl, oNone, oSome, sSeq, Fl.then, sNext, sDrop, sRet, sRetN, sIf, sSet, sSetN, sFz, fz, sAsg, sPar, sAug, sApp, sExt, sAsgM, gmName, gmSub, gmNil, gmCons, gmTup, gdName, gdNil, gdCons, gdTup, iSeq, seqD, iL, iT, iListD, iTupD, eRg, wipeD, tYesD, dAddF_int, dSub, dLt, dLe, dGt, dGe, dNeg, dSl, dLen, dTuple, dList, dAbs, dInt, dEq, dNe, dEqB_int, dEqB_str, dEqB_bl, dIs, dIsN, dIn, dNotIn, dIsi, tyName, isT, ite_md, ite_rbind, lim, dIx_c0, dIx_c1, dIx_c2, dIxL_c0, dIxL_c1, dIxL_c2, eDr, sDr, putDr, drAt, drPut, hb, hlt, hx, hpow, hc, e1, hm]
          · refine ⟨[.val (.ref ad'), .val (.int n), .val (.int (ns.getD p 0)), .un], some ⟨ad', ns, p + 1, big, (lcg * 48271 + ns.getD p 0 + 13).fmod 2147483647⟩, ?_, _, _, _, _, by omega, rfl, rfl⟩
            simp only [List.getD_eq_getElem?_getD] at hx hc
            simp [mbind_eq, mpure_eq, mofO_some, mofO_none, rbind_ok, rbind_err, rbind_stuck, bindS_eq, rbindS_ok, callR_ok, eCall_eq, runF, startD, eVar, qVar, eC, mIfN, eBin, eUn, eCons, eNil, eTup, eLst, eL, eN, eNN, eBinN, mB, mD, mAnd, mOr, mNot, mIf, eAndV, eOrV, eNot, eChain, eChain3, eSl, oNone, oSome, sSeq, Fl.then, sNext, sDrop, sRet, sRetN, sIf, sSet, sSetN, sFz, fz, sAsg, sPar, sAug, sApp, sExt, sAsgM, gmName, gmSub, gmNil, gmCons, gmTup, gdName, gdNil, gdCons, gdTup, iSeq, seqD, iL, iT, iListD, iTupD, eRg, wipeD, tYesD, dAddF_int, dSub, dLt, dLe, dGt, dGe, dNeg, dSl, dLen, dTuple, dList, dAbs, dInt, dEq, dNe, dEqB_int, dEqB_str, dEqB_bl, dIs, dIsN, dIn, dNotIn, dIsi, tyName, isT, ite_md, ite_rbind, lim, dIx_c0, dIx_c1, dIx_c2, dIxL_c0, dIxL_c1, dIxL_c2, eDr, sDr, putDr, drAt, drPut, hb, hlt, hx, hpow, hc, e1, hm]
        · refine ⟨[.val (.ref ad'), .val (.int n), .un, .un], some ⟨ad', ns, pos, big, lcg⟩, ?_, _, _, _, _, hp, rfl, rfl⟩
          simp [mbind_eq, mpure_eq, mofO_some, mofO_none, rbind_ok, rbind_err, rbind_stuck, bindS_eq, rbindS_ok, callR_ok, eCall_eq, runF, startD, eVar, qVar, eC, mIfN, eBin, eUn, eCons, eNil, eTup, eLst, eL, eN, eNN, eBinN, mB, mD, mAnd, mOr, mNot, mIf, eAndV, eOrV, eNot, eChain, eChain3, eSl, oNone, oSome, sSeq, Fl.then, sNext, sDrop, sRet, sRetN, sIf, sSet, sSetN, sFz, fz, sAsg, sPar, sAug, sApp, sExt, sAsgM, gmName, gmSub, gmNil, gmCons, gmTup, gdName, gdNil, gdCons, gdTup, iSeq, seqD, iL, iT, iListD, iTupD, eRg, wipeD, tYesD, dAddF_int, dSub, dLt, dLe, dGt, dGe, dNeg, dSl, dLen, dTuple, dList, dAbs, dInt, dEq, dNe, dEqB_int, dEqB_str, dEqB_bl, dIs, dIsN, dIn, dNotIn, dIsi, tyName, isT, ite_md, ite_rbind, lim, dIx_c0, dIx_c1, dIx_c2, dIxL_c0, dIxL_c1, dIxL_c2, eDr, drAt, hb, hlt]
      · refine ⟨[.val (.ref ad'), .val (.int n), .un, .un], some ⟨ad', ns, pos, big, lcg⟩, ?_, _, _, _, _, hp, rfl, rfl⟩
        simp [mbind_eq, mpure_eq, mofO_some, mofO_none, rbind_ok, rbind_err, rbind_stuck, bindS_eq, rbindS_ok, callR_ok, eCall_eq, runF, startD, eVar, qVar, eC, mIfN, eBin, eUn, eCons, eNil, eTup, eLst, eL, eN, eNN, eBinN, mB, mD, mAnd, mOr, mNot, mIf, eAndV, eOrV, eNot, eChain, eChain3, eSl, oNone, oSome, sSeq, Fl.then, sNext, sDrop, sRet, sRetN, sIf, sSet, sSetN, sFz, fz, sAsg, sPar, sAug, sApp, sExt, sAsgM, gmName, gmSub, gmNil, gmCons, gmTup, gdName, gdNil, gdCons, gdTup, iSeq, seqD, iL, iT, iListD, iTupD, eRg, wipeD, tYesD, dAddF_int, dSub, dLt, dLe, dGt, dGe, dNeg, dSl, dLen, dTuple, dList, dAbs, dInt, dEq, dNe, dEqB_int, dEqB_str, dEqB_bl, dIs, dIsN, dIn, dNotIn, dIsi, tyName, isT, ite_md, ite_rbind, lim, dIx_c0, dIx_c1, dIx_c2, dIxL_c0, dIxL_c1, dIxL_c2, eDr, drAt, hb]
    · rintro _ _ ⟨o2, p, b, l, hp', rfl, rfl⟩
      have hm := fun a => dMod_pos (a := a) h0
      have hd := fun a => dDiv_pos (a := a) h0 hn
      have hm2 := fun a => dMod_pos (a := a) (show (0 : Int) < 2147483629 by decide)
      have hd2 := fun a => dDiv_pos (a := a) (show (0 : Int) < 11 by decide) (by decide)
      have e1 : ∀ x : Int, dMulF (.int x) (.int 69621) = some (.int (x * 69621)) := fun x => dmul_r (by decide)
      have f1 := fun a => Int.fmod_nonneg_of_pos a h0
      have f2 := fun a => Int.fmod_lt_of_pos a h0
      by_cases hb : 0 < b
      · refine seqR ⟨.int (b.fmod n), some ⟨ad', ns, p, b.fdiv n, l⟩, ?_, _, rfl, f1 _, f2 _, ⟨_, rfl, rfl, hp'⟩⟩
        simp [mbind_eq, mpure_eq, mofO_some, mofO_none, rbind_ok, rbind_err, rbind_stuck, bindS_eq, rbindS_ok, callR_ok, eCall_eq, runF, startD, eVar, qVar, eC, mIfN, eBin, eUn, eCons, eNil, eTup, eLst, eL, eN, eNN, eBinN, mB, mD, mAnd, mOr, mNot, mIf, eAndV, eOrV, eNot, eChain, eChain3, eSl, oNone, oSome, sSeq, Fl.then, sNext, sDrop, sRet, sRetN, sIf, sSet, sSetN, sFz, fz, sAsg, sPar, sAug, sApp, sExt, sAsgM, gmName, gmSub, gmNil, gmCons, gmTup, gdName, gdNil, gdCons, gdTup, iSeq, seqD, iL, iT, iListD, iTupD, eRg, wipeD, tYesD, dAddF_int, dSub, dLt, dLe, dGt, dGe, dNeg, dSl, dLen, dTuple, dList, dAbs, dInt, dEq, dNe, dEqB_int, dEqB_str, dEqB_bl, dIs, dIsN, dIn, dNotIn, dIsi, tyName, isT, ite_md, ite_rbind, lim, dIx_c0, dIx_c1, dIx_c2, dIxL_c0, dIxL_c1, dIxL_c2, eDr, sDr, putDr, drAt, drPut, hb, hm, hd]
      · refine ⟨.int (((l * 69621 + 7).fmod 2147483629).fdiv 11 |>.fmod n), some ⟨ad', ns, p, b, (l * 69621 + 7).fmod 2147483629⟩, ?_, _, rfl, f1 _, f2 _, ⟨_, rfl, rfl, hp'⟩⟩
        simp [mbind_eq, mpure_eq, mofO_some, mofO_none, rbind_ok, rbind_err, rbind_stuck, bindS_eq, rbindS_ok, callR_ok, eCall_eq, runF, startD, eVar, qVar, eC, mIfN, eBin, eUn, eCons, eNil, eTup, eLst, eL, eN, eNN, eBinN, mB, mD, mAnd, mOr, mNot, mIf, eAndV, eOrV, eNot, eChain, eChain3, eSl, oNone, oSome, sSeq, Fl.then, sNext, sDrop, sRet, sRetN, sIf, sSet, sSetN, sFz, fz, sAsg, sPar, sAug, sApp, sExt, sAsgM, gmName, gmSub, gmNil, gmCons, gmTup, gdName, gdNil, gdCons, gdTup, iSeq, seqD, iL, iT, iListD, iTupD, eRg, wipeD, tYesD, dAddF_int, dSub, dLt, dLe, dGt, dGe, dNeg, dSl, dLen, dTuple, dList, dAbs, dInt, dEq, dNe, dEqB_int, dEqB_str, dEqB_bl, dIs, dIsN, dIn, dNotIn, dIsi, tyName, isT, ite_md, ite_rbind, lim, dIx_c0, dIx_c1, dIx_c2, dIxL_c0, dIxL_c1, dIxL_c2, eDr, sDr, putDr, drAt, drPut, hb, hm, hm2, hd2, e1]
  obtain ⟨d, st', e, v, rfl, h1, h2, h3⟩ := key
  exact ⟨v, st', e, h1, h2, h3⟩
end DL

set_option Elab.async false
set_option linter.all false
set_option maxRecDepth 100000
set_option maxHeartbeats 4000000
namespace DL
open PySem PySem.Spec PyProof.Rows L2
/-- a comprehension that draws -/
theorem compA_st {g : GD} {e : DEnv → Md D} {δ : DEnv} {I : Option Dr → Prop} {Q : D → Prop} : ∀ {ds acc : List D} {st : Option Dr}, I st →
    (∀ d ∈ ds, ∀ st, I st → ∃ δ1, g d δ = some δ1 ∧ ∃ y st', e δ1 st = .ok y st' ∧ Q y ∧ I st') → ∃ ys st', compA g tYesD e δ ds acc st = .ok (acc ++ ys) st' ∧ ys.length = ds.length ∧ (∀ y ∈ ys, Q y) ∧ I st'
  | [], acc, st, i, _ => ⟨[], st, by rw [List.append_nil]; rfl, rfl, by simp, i⟩
  | d :: ds, acc, st, i, h => by
    obtain ⟨δ1, h1, y, st', h2, h3, h4⟩ := h d List.mem_cons_self st i
    obtain ⟨ys, st2, e1, e2, e3, e4⟩ := compA_st (acc := acc ++ [y]) h4 fun d' hd' => h d' (List.mem_cons_of_mem _ hd')
    refine ⟨y :: ys, st2, ?_, by rw [List.length_cons, List.length_cons, e2], fun z hz => (List.mem_cons.mp hz).elim (fun q => by rw [q]; exact h3) (e3 z), e4⟩
    unfold compA
    rw [h1]
    dsimp only
    rw [bindS_eq, show tYesD δ1 st = .ok true st from rfl, rbindS_ok, if_pos rfl, bindS_eq, h2, rbindS_ok, e1, List.append_assoc]
    rfl
theorem eComp_st {vs : List Nat} {f : DEnv → Md (List D)} {g : GD} {e : DEnv → Md D} {δ : DEnv} {st st' : Option Dr} {ds : List D} {I : Option Dr → Prop} {Q : D → Prop} (hf : f δ st = .ok ds st') (hl : ds.length ≤ lim) (hi : I st')
    (h : ∀ d ∈ ds, ∀ st, I st → ∃ δ1, g d (wipeD δ vs) = some δ1 ∧ ∃ y st', e δ1 st = .ok y st' ∧ Q y ∧ I st') : ∃ ys st2, eComp vs f g tYesD e δ st = .ok ys st2 ∧ ys.length = ds.length ∧ (∀ y ∈ ys, Q y) ∧ I st2 := by
  obtain ⟨ys, st2, e1, e2, e3, e4⟩ := compA_st (acc := []) hi h
  refine ⟨ys, st2, ?_, e2, e3, e4⟩
  unfold eComp
  rw [mbind_eq, hf, rbind_ok, if_pos hl, e1, List.nil_append]
theorem all_enN {m : Nat} : ∀ {ys : List D}, (∀ y ∈ ys, ∃ v : Nat, y = enN v ∧ v < m) → ∃ w : List Nat, ys = w.map enN ∧ (∀ v ∈ w, v < m)
  | [], _ => ⟨[], rfl, by simp⟩
  | y :: ys, h => by
    obtain ⟨v, rfl, hv⟩ := h y List.mem_cons_self
    obtain ⟨w, rfl, hw⟩ := all_enN fun z hz => h z (List.mem_cons_of_mem _ hz)
    exact ⟨v :: w, rfl, fun z hz => (List.mem_cons.mp hz).elim (fun q => by rw [q]; exact hv) (hw z)⟩
theorem lw_drawN {ad : Addr} {s : Option Dr} (hs : DrI ad s) {n : Nat} (h0 : 0 < n) (hn : n < 1073741824) : ∃ (v : Nat) (s' : Option Dr), F_law_draw [.ref ad, .int n] s = .ok (.int v) s' ∧ v < n ∧ DrI ad s' := by
  obtain ⟨v, s', e, h1, h2, h3⟩ := lw_draw hs (n := n) (by omega) (by omega)
  obtain ⟨k, rfl⟩ : ∃ k : Nat, v = k := ⟨v.toNat, by omega⟩
  exact ⟨k, s', e, by omega, h3⟩
theorem lw_word {ad : Addr} {s : Option Dr} (hs : DrI ad s) {m most : Nat} (h0 : 0 < m) (hm : m < 1000) (hk : most < 1000) : ∃ (w : List Nat) (s' : Option Dr), F_law_word [.ref ad, .int m, .int most] s = .ok (enW w) s' ∧ (∀ v ∈ w, v < m) ∧ w.length ≤ most ∧ DrI ad s' := by
  obtain ⟨L, s1, e1, hL, i1⟩ := lw_drawN hs (n := most + 1) (by omega) (by omega)
  have hr : iR1 (eCallS 2 (F_law_draw) (eCons (eVar 0) (eCons (eBin dAddF (qVar 2) (eC (.int 1))) (eNil)))) [.val (.ref ad), .val (.int m), .val (.int most), .un] s = .ok ((List.range L).map enN) s1 := by
    refine iR1_nat (n := L) ?_ (by show L ≤ 1000000; omega)
    have e1' : F_law_draw [.ref ad, .int ((most : Int) + 1)] s = .ok (.int L) s1 := e1
    simp [mbind_eq, mpure_eq, mofO_some, mofO_none, rbind_ok, rbind_err, rbind_stuck, bindS_eq, rbindS_ok, callR_ok, eCall_eq, runF, startD, eVar, qVar, eC, mIfN, eBin, eUn, eCons, eNil, eTup, eLst, eL, eN, eNN, eBinN, mB, mD, mAnd, mOr, mNot, mIf, eAndV, eOrV, eNot, eChain, eChain3, eSl, oNone, oSome, sSeq, Fl.then, sNext, sDrop, sRet, sRetN, sIf, sSet, sSetN, sFz, fz, sAsg, sPar, sAug, sApp, sExt, sAsgM, gmName, gmSub, gmNil, gmCons, gmTup, gdName, gdNil, gdCons, gdTup, iSeq, seqD, iL, iT, iListD, iTupD, eRg, wipeD, tYesD, dAddF_int, dSub, dLt, dLe, dGt, dGe, dNeg, dSl, dLen, dTuple, dList, dAbs, dInt, dEq, dNe, dEqB_int, dEqB_str, dEqB_bl, dIs, dIsN, dIn, dNotIn, dIsi, tyName, isT, ite_md, ite_rbind, lim, dIx_c0, dIx_c1, dIx_c2, dIxL_c0, dIxL_c1, dIxL_c2, eCallS, e1']
  obtain ⟨ys, s2, e2, hy1, hy2, i2⟩ := eComp_st (vs := [3]) (g := gdName 3) (e := eCallS 2 (F_law_draw) (eCons (eVar 0) (eCons (eVar 1) (eNil)))) (δ := [.val (.ref ad), .val (.int m), .val (.int most), .un]) (I := DrI ad) (Q := fun y => ∃ v : Nat, y = enN v ∧ v < m) hr (by rw [List.length_map, List.length_range]; show L ≤ 1000000; omega) i1 fun d hd st i => by
    obtain ⟨v, s', e, hv, i'⟩ := lw_drawN i h0 (by omega)
    refine ⟨_, rfl, enN v, s', ?_, ⟨v, rfl, hv⟩, i'⟩
    simp [mbind_eq, mpure_eq, mofO_some, mofO_none, rbind_ok, rbind_err, rbind_stuck, bindS_eq, rbindS_ok, callR_ok, eCall_eq, runF, startD, eVar, qVar, eC, mIfN, eBin, eUn, eCons, eNil, eTup, eLst, eL, eN, eNN, eBinN, mB, mD, mAnd, mOr, mNot, mIf, eAndV, eOrV, eNot, eChain, eChain3, eSl, oNone, oSome, sSeq, Fl.then, sNext, sDrop, sRet, sRetN, sIf, sSet, sSetN, sFz, fz, sAsg, sPar, sAug, sApp, sExt, sAsgM, gmName, gmSub, gmNil, gmCons, gmTup, gdName, gdNil, gdCons, gdTup, iSeq, seqD, iL, iT, iListD, iTupD, eRg, wipeD, tYesD, dAddF_int, dSub, dLt, dLe, dGt, dGe, dNeg, dSl, dLen, dTuple, dList, dAbs, dInt, dEq, dNe, dEqB_int, dEqB_str, dEqB_bl, dIs, dIsN, dIn, dNotIn, dIsi, tyName, isT, ite_md, ite_rbind, lim, dIx_c0, dIx_c1, dIx_c2, dIxL_c0, dIxL_c1, dIxL_c2, eCallS, e, enN]
  obtain ⟨w, rfl, hw⟩ := all_enN hy2
  refine ⟨w, s2, ?_, hw, ?_, i2⟩
  · unfold F_law_word
    exact runF_ret (ret (tupLc e2))
  · rw [List.length_map, List.length_map, List.length_range] at hy1; omega
def cases9 : List (Str × Nat) := [("A", 1), ("A", 2), ("A", 3), ("B", 2), ("B", 3), ("B", 4), ("D", 2), ("D", 3), ("D", 4)]
theorem strBA : (Str.ofString "B" = Str.ofString "A") = False := by simp only [eq_iff_iff, iff_false]; decide
theorem strDA : (Str.ofString "D" = Str.ofString "A") = False := by simp only [eq_iff_iff, iff_false]; decide
theorem strDB : (Str.ofString "D" = Str.ofString "B") = False := by simp only [eq_iff_iff, iff_false]; decide
theorem lw_kind {ad : Addr} {s : Option Dr} (hs : DrI ad s) : ∃ p s', p ∈ cases9 ∧ F_law_kind [.ref ad] s = .ok (.tup [.str p.1, .int (p.2 : Nat)]) s' ∧ DrI ad s' := by
  obtain ⟨v, s1, e1, hv, i1⟩ := lw_drawN hs (n := 3) (by omega) (by omega)
  obtain ⟨u, s2, e2, hu, i2⟩ := lw_drawN i1 (n := 3) (by omega) (by omega)
  have e1' : F_law_draw [.ref ad, .int 3] s = .ok (.int v) s1 := e1
  have e2' : F_law_draw [.ref ad, .int 3] s1 = .ok (.int u) s2 := e2
  unfold F_law_kind
  match v, hv, e1' with
  | 0, _, e1' =>
    match u, hu, e2' with
    | 0, _, e2' => refine ⟨("A", 1), s2, by decide, ?_, i2⟩; simp [mbind_eq, mpure_eq, mofO_some, mofO_none, rbind_ok, rbind_err, rbind_stuck, bindS_eq, rbindS_ok, callR_ok, eCall_eq, runF, startD, eVar, qVar, eC, mIfN, eBin, eUn, eCons, eNil, eTup, eLst, eL, eN, eNN, eBinN, mB, mD, mAnd, mOr, mNot, mIf, eAndV, eOrV, eNot, eChain, eChain3, eSl, oNone, oSome, sSeq, Fl.then, sNext, sDrop, sRet, sRetN, sIf, sSet, sSetN, sFz, fz, sAsg, sPar, sAug, sApp, sExt, sAsgM, gmName, gmSub, gmNil, gmCons, gmTup, gdName, gdNil, gdCons, gdTup, iSeq, seqD, iL, iT, iListD, iTupD, iR1, iR2, eRg, rgD, sFor, wipeD, tYesD, dAddF, dSub, dMulF, dDiv, dMod, dLt, dLe, dGt, dGe, dNeg, dIx, atI, ixN, dSl, dRevF, dLen, dTuple, dList, dAbs, dInt, dEq, dNe, dEqB_int, dEqB_str, dEqB_bl, dIs, dIsN, dIn, dNotIn, dIsi, tyName, isT, eComp, compA, ite_md, ite_rbind, lim, eCallS, e1', e2', strBA, strDA]
    | 1, _, e2' => refine ⟨("A", 2), s2, by decide, ?_, i2⟩; simp [mbind_eq, mpure_eq, mofO_some, mofO_none, rbind_ok, rbind_err, rbind_stuck, bindS_eq, rbindS_ok, callR_ok, eCall_eq, runF, startD, eVar, qVar, eC, mIfN, eBin, eUn, eCons, eNil, eTup, eLst, eL, eN, eNN, eBinN, mB, mD, mAnd, mOr, mNot, mIf, eAndV, eOrV, eNot, eChain, eChain3, eSl, oNone, oSome, sSeq, Fl.then, sNext, sDrop, sRet, sRetN, sIf, sSet, sSetN, sFz, fz, sAsg, sPar, sAug, sApp, sExt, sAsgM, gmName, gmSub, gmNil, gmCons, gmTup, gdName, gdNil, gdCons, gdTup, iSeq, seqD, iL, iT, iListD, iTupD, iR1, iR2, eRg, rgD, sFor, wipeD, tYesD, dAddF, dSub, dMulF, dDiv, dMod, dLt, dLe, dGt, dGe, dNeg, dIx, atI, ixN, dSl, dRevF, dLen, dTuple, dList, dAbs, dInt, dEq, dNe, dEqB_int, dEqB_str, dEqB_bl, dIs, dIsN, dIn, dNotIn, dIsi, tyName, isT, eComp, compA, ite_md, ite_rbind, lim, eCallS, e1', e2', strBA, strDA]
    | 2, _, e2' => refine ⟨("A", 3), s2, by decide, ?_, i2⟩; simp [mbind_eq, mpure_eq, mofO_some, mofO_none, rbind_ok, rbind_err, rbind_stuck, bindS_eq, rbindS_ok, callR_ok, eCall_eq, runF, startD, eVar, qVar, eC, mIfN, eBin, eUn, eCons, eNil, eTup, eLst, eL, eN, eNN, eBinN, mB, mD, mAnd, mOr, mNot, mIf, eAndV, eOrV, eNot, eChain, eChain3, eSl, oNone, oSome, sSeq, Fl.then, sNext, sDrop, sRet, sRetN, sIf, sSet, sSetN, sFz, fz, sAsg, sPar, sAug, sApp, sExt, sAsgM, gmName, gmSub, gmNil, gmCons, gmTup, gdName, gdNil, gdCons, gdTup, iSeq, seqD, iL, iT, iListD, iTupD, iR1, iR2, eRg, rgD, sFor, wipeD, tYesD, dAddF, dSub, dMulF, dDiv, dMod, dLt, dLe, dGt, dGe, dNeg, dIx, atI, ixN, dSl, dRevF, dLen, dTuple, dList, dAbs, dInt, dEq, dNe, dEqB_int, dEqB_str, dEqB_bl, dIs, dIsN, dIn, dNotIn, dIsi, tyName, isT, eComp, compA, ite_md, ite_rbind, lim, eCallS, e1', e2', strBA, strDA]
  | 1, _, e1' =>
    match u, hu, e2' with
    | 0, _, e2' => refine ⟨("B", 2), s2, by decide, ?_, i2⟩; simp [mbind_eq, mpure_eq, mofO_some, mofO_none, rbind_ok, rbind_err, rbind_stuck, bindS_eq, rbindS_ok, callR_ok, eCall_eq, runF, startD, eVar, qVar, eC, mIfN, eBin, eUn, eCons, eNil, eTup, eLst, eL, eN, eNN, eBinN, mB, mD, mAnd, mOr, mNot, mIf, eAndV, eOrV, eNot, eChain, eChain3, eSl, oNone, oSome, sSeq, Fl.then, sNext, sDrop, sRet, sRetN, sIf, sSet, sSetN, sFz, fz, sAsg, sPar, sAug, sApp, sExt, sAsgM, gmName, gmSub, gmNil, gmCons, gmTup, gdName, gdNil, gdCons, gdTup, iSeq, seqD, iL, iT, iListD, iTupD, iR1, iR2, eRg, rgD, sFor, wipeD, tYesD, dAddF, dSub, dMulF, dDiv, dMod, dLt, dLe, dGt, dGe, dNeg, dIx, atI, ixN, dSl, dRevF, dLen, dTuple, dList, dAbs, dInt, dEq, dNe, dEqB_int, dEqB_str, dEqB_bl, dIs, dIsN, dIn, dNotIn, dIsi, tyName, isT, eComp, compA, ite_md, ite_rbind, lim, eCallS, e1', e2', strBA, strDA]
    | 1, _, e2' => refine ⟨("B", 3), s2, by decide, ?_, i2⟩; simp [mbind_eq, mpure_eq, mofO_some, mofO_none, rbind_ok, rbind_err, rbind_stuck, bindS_eq, rbindS_ok, callR_ok, eCall_eq, runF, startD, eVar, qVar, eC, mIfN, eBin, eUn, eCons, eNil, eTup, eLst, eL, eN, eNN, eBinN, mB, mD, mAnd, mOr, mNot, mIf, eAndV, eOrV, eNot, eChain, eChain3, eSl, oNone, oSome, sSeq, Fl.then, sNext, sDrop, sRet, sRetN, sIf, sSet, sSetN, sFz, fz, sAsg, sPar, sAug, sApp, sExt, sAsgM, gmName, gmSub, gmNil, gmCons, gmTup, gdName, gdNil, gdCons, gdTup, iSeq, seqD, iL, iT, iListD, iTupD, iR1, iR2, eRg, rgD, sFor, wipeD, tYesD, dAddF, dSub, dMulF, dDiv, dMod, dLt, dLe, dGt, dGe, dNeg, dIx, atI, ixN, dSl, dRevF, dLen, dTuple, dList, dAbs, dInt, dEq, dNe, dEqB_int, dEqB_str, dEqB_bl, dIs, dIsN, dIn, dNotIn, dIsi, tyName, isT, eComp, compA, ite_md, ite_rbind, lim, eCallS, e1', e2', strBA, strDA]
    | 2, _, e2' => refine ⟨("B", 4), s2, by decide, ?_, i2⟩; simp [mbind_eq, mpure_eq, mofO_some, mofO_none, rbind_ok, rbind_err, rbind_stuck, bindS_eq, rbindS_ok, callR_ok, eCall_eq, runF, startD, eVar, qVar, eC, mIfN, eBin, eUn, eCons, eNil, eTup, eLst, eL, eN, eNN, eBinN, mB, mD, mAnd, mOr, mNot, mIf, eAndV, eOrV, eNot, eChain, eChain3, eSl, oNone, oSome, sSeq, Fl.then, sNext, sDrop, sRet, sRetN, sIf, sSet, sSetN, sFz, fz, sAsg, sPar, sAug, sApp, sExt, sAsgM, gmName, gmSub, gmNil, gmCons, gmTup, gdName, gdNil, gdCons, gdTup, iSeq, seqD, iL, iT, iListD, iTupD, iR1, iR2, eRg, rgD, sFor, wipeD, tYesD, dAddF, dSub, dMulF, dDiv, dMod, dLt, dLe, dGt, dGe, dNeg, dIx, atI, ixN, dSl, dRevF, dLen, dTuple, dList, dAbs, dInt, dEq, dNe, dEqB_int, dEqB_str, dEqB_bl, dIs, dIsN, dIn, dNotIn, dIsi, tyName, isT, eComp, compA, ite_md, ite_rbind, lim, eCallS, e1', e2', strBA, strDA]
  | 2, _, e1' =>
    match u, hu, e2' with
    | 0, _, e2' => refine ⟨("D", 2), s2, by decide, ?_, i2⟩; simp [mbind_eq, mpure_eq, mofO_some, mofO_none, rbind_ok, rbind_err, rbind_stuck, bindS_eq, rbindS_ok, callR_ok, eCall_eq, runF, startD, eVar, qVar, eC, mIfN, eBin, eUn, eCons, eNil, eTup, eLst, eL, eN, eNN, eBinN, mB, mD, mAnd, mOr, mNot, mIf, eAndV, eOrV, eNot, eChain, eChain3, eSl, oNone, oSome, sSeq, Fl.then, sNext, sDrop, sRet, sRetN, sIf, sSet, sSetN, sFz, fz, sAsg, sPar, sAug, sApp, sExt, sAsgM, gmName, gmSub, gmNil, gmCons, gmTup, gdName, gdNil, gdCons, gdTup, iSeq, seqD, iL, iT, iListD, iTupD, iR1, iR2, eRg, rgD, sFor, wipeD, tYesD, dAddF, dSub, dMulF, dDiv, dMod, dLt, dLe, dGt, dGe, dNeg, dIx, atI, ixN, dSl, dRevF, dLen, dTuple, dList, dAbs, dInt, dEq, dNe, dEqB_int, dEqB_str, dEqB_bl, dIs, dIsN, dIn, dNotIn, dIsi, tyName, isT, eComp, compA, ite_md, ite_rbind, lim, eCallS, e1', e2', strBA, strDA]
    | 1, _, e2' => refine ⟨("D", 3), s2, by decide, ?_, i2⟩; simp [mbind_eq, mpure_eq, mofO_some, mofO_none, rbind_ok, rbind_err, rbind_stuck, bindS_eq, rbindS_ok, callR_ok, eCall_eq, runF, startD, eVar, qVar, eC, mIfN, eBin, eUn, eCons, eNil, eTup, eLst, eL, eN, eNN, eBinN, mB, mD, mAnd, mOr, mNot, mIf, eAndV, eOrV, eNot, eChain, eChain3, eSl, oNone, oSome, sSeq, Fl.then, sNext, sDrop, sRet, sRetN, sIf, sSet, sSetN, sFz, fz, sAsg, sPar, sAug, sApp, sExt, sAsgM, gmName, gmSub, gmNil, gmCons, gmTup, gdName, gdNil, gdCons, gdTup, iSeq, seqD, iL, iT, iListD, iTupD, iR1, iR2, eRg, rgD, sFor, wipeD, tYesD, dAddF, dSub, dMulF, dDiv, dMod, dLt, dLe, dGt, dGe, dNeg, dIx, atI, ixN, dSl, dRevF, dLen, dTuple, dList, dAbs, dInt, dEq, dNe, dEqB_int, dEqB_str, dEqB_bl, dIs, dIsN, dIn, dNotIn, dIsi, tyName, isT, eComp, compA, ite_md, ite_rbind, lim, eCallS, e1', e2', strBA, strDA]
    | 2, _, e2' => refine ⟨("D", 4), s2, by decide, ?_, i2⟩; simp [mbind_eq, mpure_eq, mofO_some, mofO_none, rbind_ok, rbind_err, rbind_stuck, bindS_eq, rbindS_ok, callR_ok, eCall_eq, runF, startD, eVar, qVar, eC, mIfN, eBin, eUn, eCons, eNil, eTup, eLst, eL, eN, eNN, eBinN, mB, mD, mAnd, mOr, mNot, mIf, eAndV, eOrV, eNot, eChain, eChain3, eSl, oNone, oSome, sSeq, Fl.then, sNext, sDrop, sRet, sRetN, sIf, sSet, sSetN, sFz, fz, sAsg, sPar, sAug, sApp, sExt, sAsgM, gmName, gmSub, gmNil, gmCons, gmTup, gdName, gdNil, gdCons, gdTup, iSeq, seqD, iL, iT, iListD, iTupD, iR1, iR2, eRg, rgD, sFor, wipeD, tYesD, dAddF, dSub, dMulF, dDiv, dMod, dLt, dLe, dGt, dGe, dNeg, dIx, atI, ixN, dSl, dRevF, dLen, dTuple, dList, dAbs, dInt, dEq, dNe, dEqB_int, dEqB_str, dEqB_bl, dIs, dIsN, dIn, dNotIn, dIsi, tyName, isT, eComp, compA, ite_md, ite_rbind, lim, eCallS, e1', e2', strBA, strDA]
end DL

set_option Elab.async false
set_option linter.all false
set_option maxRecDepth 100000
set_option maxHeartbeats 4000000
namespace DL
open PySem PySem.Spec PyProof.Rows L2
/-! ### data compared -/
mutual
def dBeq : D → D → Bool
  | .int a, .int b => decide (a = b)
  | .bl a, .bl b => a == b
  | .non, .non => true
  | .tup a, .tup b => dsBeq a b
  | .lst a, .lst b => dsBeq a b
  | _, _ => false
def dsBeq : List D → List D → Bool
  | [], [] => true
  | a :: as, b :: bs => dBeq a b && dsBeq as bs
  | _, _ => false
end
mutual
theorem dBeq_eq : ∀ {a b : D}, dBeq a b = true → a = b
  | .int a, .int b, h => by unfold dBeq at h; rw [of_decide_eq_true h]
  | .bl a, .bl b, h => by unfold dBeq at h; rw [eq_of_beq h]
  | .non, .non, h => rfl
  | .tup a, .tup b, h => by unfold dBeq at h; rw [dsBeq_eq h]
  | .lst a, .lst b, h => by unfold dBeq at h; rw [dsBeq_eq h]
  | .int _, .bl _, h | .int _, .non, h | .int _, .tup _, h | .int _, .lst _, h | .int _, .str _, h | .int _, .dic _ _, h | .int _, .obj _ _ _, h | .int _, .ref _, h => by simp [dBeq] at h
  | .bl _, .int _, h | .bl _, .non, h | .bl _, .tup _, h | .bl _, .lst _, h | .bl _, .str _, h | .bl _, .dic _ _, h | .bl _, .obj _ _ _, h | .bl _, .ref _, h => by simp [dBeq] at h
  | .non, .int _, h | .non, .bl _, h | .non, .tup _, h | .non, .lst _, h | .non, .str _, h | .non, .dic _ _, h | .non, .obj _ _ _, h | .non, .ref _, h => by simp [dBeq] at h
  | .tup _, .int _, h | .tup _, .bl _, h | .tup _, .non, h | .tup _, .lst _, h | .tup _, .str _, h | .tup _, .dic _ _, h | .tup _, .obj _ _ _, h | .tup _, .ref _, h => by simp [dBeq] at h
  | .lst _, .int _, h | .lst _, .bl _, h | .lst _, .non, h | .lst _, .tup _, h | .lst _, .str _, h | .lst _, .dic _ _, h | .lst _, .obj _ _ _, h | .lst _, .ref _, h => by simp [dBeq] at h
  | .str _, _, h => by simp [dBeq] at h
  | .dic _ _, _, h => by simp [dBeq] at h
  | .obj _ _ _, _, h => by simp [dBeq] at h
  | .ref _, _, h => by simp [dBeq] at h
theorem dsBeq_eq : ∀ {a b : List D}, dsBeq a b = true → a = b
  | [], [], _ => rfl
  | a :: as, b :: bs, h => by
    unfold dsBeq at h
    rw [Bool.and_eq_true] at h
    rw [dBeq_eq h.1, dsBeq_eq h.2]
  | [], _ :: _, h => by simp [dsBeq] at h
  | _ :: _, [], h => by simp [dsBeq] at h
end
def resIs (r : Res D) (d : D) : Bool := match r with
  | .ok d' none => dBeq d' d
  | _ => false
theorem resIs_eq {r : Res D} {d : D} (h : resIs r d = true) : r = .ok d none := by
  unfold resIs at h
  split at h
  · rw [dBeq_eq h]
  · cases h
/-! ### windows -/
abbrev Row := List Int
def rowD (r : Row) : D := .tup (r.map D.int)
def swp (r : Row) (i : Nat) (c : Int) : Row := (r.set i (c * r.getD (i + 1) 0)).set (i + 1) (c * r.getD i 0)
def stp (k : Str) (r : Row) (s : Nat) : Row := if k = "A" then swp r s 1 else if 0 < s then swp r (s - 1) 1 else if k = "B" then r.set 0 (0 - r.getD 0 0) else swp r 0 (-1)
def szK (k : Str) (m : Nat) : Nat := if k = "A" then m + 1 else m
def plainR (k : Str) (m : Nat) : Row := (List.range (szK k m)).map fun (i : Nat) => (i : Int) + 1
def winOf (k : Str) (m : Nat) (w : List Nat) : Row := w.foldl (stp k) (plainR k m)
def edgesK (k : Str) (m : Nat) : List Edge := if k = "A" then (List.range (m - 1)).map fun (i : Nat) => ((i : Int), (i : Int) + 1, (3 : Int)) else
  (if k = "B" then [((0 : Int), (1 : Int), (4 : Int))] else if 2 < m then [((0 : Int), (2 : Int), (3 : Int))] else []) ++ ((List.range (m - 2)).map fun (i : Nat) => ((i : Int) + 1, (i : Int) + 2, (3 : Int)))
def grow (k : Str) (vals : List Int) (rows : List Row) : List Row := rows.flatMap fun r => vals.flatMap fun v => if (r.any fun x => x.natAbs == v.natAbs) then [] else if k = "A" then [r ++ [v]] else [r ++ [v], r ++ [-v]]
def rowsK (k : Str) (m : Nat) : List Row := sortL (((List.range (szK k m)).foldl (fun rows _ => grow k (plainR k m) rows) [[]]).filter fun r => k != "D" || (r.filter fun x => decide (x < 0)).length % 2 == 0)
/-- where the numbers stand -/
def invR (r : Row) : Row := (List.range r.length).map fun i => match r.findIdx? fun x => x.natAbs == i + 1 with
  | some j => if 0 < r.getD j 0 then (j : Int) + 1 else -(j : Int) - 1
  | none => 0
/-- e-coordinates -/
def addE (c : Int) (p : Int) (v : Row) : Row := v.set (p.natAbs - 1) (v.getD (p.natAbs - 1) 0 + (if 0 < p then c else -c))
/-- a root by the simple ones, from its e-coordinates -/
def coA : Row → Row
  | [] => []
  | _ :: r => r.foldr (fun c (acc : Row) => (c + acc.headD 0) :: acc) []
def coK (k : Str) (v : Row) : Row := if k = "A" then coA v else match v with
  | [] => []
  | c1 :: r => let x := coA v
    if k = "B" then ((c1 + x.headD 0) / 2) :: x
    else match r with
      | [] => []
      | c2 :: _ => let x2 := (x.drop 1).headD 0
        let x0 := (c1 + c2 + x2) / 2
        x0 :: (x0 - c1) :: x.drop 1
def simE (k : Str) (b : Row) (j : Nat) (z : Row) : Row :=
  if k = "A" then addE 1 (b.getD (j + 1) 0) (addE (-1) (b.getD j 0) z)
  else if 0 < j then addE 1 (b.getD j 0) (addE (-1) (b.getD (j - 1) 0) z)
  else if k = "B" then addE 2 (b.getD 0 0) z
  else addE 1 (b.getD 0 0) (addE 1 (b.getD 1 0) z)
def tabT (k : Str) (m : Nat) (r : Row) : List Rt := (List.range m).map fun j => (coK k (simE k (invR r) j (List.replicate (szK k m) 0))).map fun x => (x, (0 : Int))
end DL

set_option Elab.async false
set_option linter.all false
set_option maxRecDepth 100000
set_option maxHeartbeats 4000000
namespace DL
open PySem PySem.Spec PyProof.Rows L2
/-! ### what is asked of each permutation, by the kernel -/
def rowsU (k : Str) (m : Nat) : List Row := ((List.range (szK k m)).foldl (fun rows _ => grow k (plainR k m) rows) [[]]).filter fun r => k != "D" || (r.filter fun x => decide (x < 0)).length % 2 == 0
def fallK (k : Str) (r : Row) (s : Nat) : Bool := if k = "A" then decide (r.getD (s + 1) 0 < r.getD s 0) else if 0 < s then decide (r.getD s 0 < r.getD (s - 1) 0) else if k = "B" then decide (r.getD 0 0 < 0) else decide (r.getD 0 0 + r.getD 1 0 < 0)
def endsK (k : Str) (m : Nat) (r : Row) : List Nat := (List.range m).filter (fallK k r)
def wRun (k : Str) (m : Nat) : Nat → Row → Option (List Nat)
  | 0, _ => none
  | n + 1, b => match endsK k m b with
    | [] => some []
    | f :: _ => (wRun k m n (stp k b f)).map (f :: ·)
def least (k : Str) (m : Nat) (r : Row) : List Nat := (wRun k m 1000 (invR r)).getD []
/-- pairs out of order, and the numbers below 0 -/
def poo : Row → Nat
  | [] => 0
  | a :: r => (r.filter fun b => decide (b < a)).length + poo r
def lenK (k : Str) (r : Row) : Int := if k = "A" then (poo r : Int) else (poo r : Int) - (r.filter fun x => decide (x < 0)).sum - (if k = "D" then ((r.filter fun x => decide (x < 0)).length : Int) else 0)
def preR (k : Str) (r : Row) (f : Nat) : Row := invR (stp k (invR r) f)
structure RowOk (k : Str) (m : Nat) (r : Row) : Prop where
  clo : ∀ s < m, stp k r s ∈ rowsU k m
  tab : ∀ s < m, tabT k m (stp k r s) = (tabT k m r).map (mirrored (edgesK k m) s)
  fal : ∀ s < m, decide (lenK k (stp k r s) < lenK k r) = fallK k r s
  beg : ∀ s < m, decide (lenK k (winOf k m (s :: least k m r)) < lenK k r) = fallK k (invR r) s
  stepL : ∀ s < m, F_law_step [.str k, rowD r, .int s] none = .ok (rowD (stp k r s)) none
  stepP : ∀ s < m, F_stepped [.str k, rowD r, .int s] none = .ok (rowD (stp k r s)) none
  small : smallA (tabT k m r)
  low_ : low m (tabT k m r) = endsK k m (invR r)
  upd_ : ∀ f fr, endsK k m (invR r) = f :: fr → updAll (edgesK k m) m f ((tabT k m r).getD f []) (tabT k m r) = tabT k m (preR k r f)
  run : wRun k m 1000 (invR r) = some (least k m r)
  let_ : ∀ s ∈ least k m r, s < m
  win : winOf k m (least k m r) = r
  len_ : lenK k r = (least k m r).length
  inv : invR r ∈ rowsU k m
  inv2 : invR (invR r) = r
  look : F_look_at_window [.str k, .int m, rowD r] none = .ok .non none
  turn : F_turned_back [rowD r] none = .ok (rowD (invR r)) none
  ends : F_ends_of [.str k, .int m, rowD r] none = .ok (enW (endsK k m r)) none
  len : F_length_of [.str k, .int m, rowD r] none = .ok (.int (lenK k r)) none
  nums : r.length ≤ 10 ∧ (least k m r).length ≤ 100
def chk (k : Str) (m : Nat) (U : List Row) (r : Row) : Bool :=
  let T := tabT k m r
  let i := invR r
  match wRun k m 1000 i with
  | none => false
  | some l =>
    (List.range m).all (fun s => let q := stp k r s
      U.contains q && (tabT k m q == T.map (mirrored (edgesK k m) s)) && (decide (lenK k q < lenK k r) == fallK k r s) && (decide (lenK k (winOf k m (s :: l)) < lenK k r) == fallK k i s)
        && resIs (F_law_step [.str k, rowD r, .int s] none) (rowD q) && resIs (F_stepped [.str k, rowD r, .int s] none) (rowD q))
    && (decide (smallA T) && (low m T == endsK k m i) && (match endsK k m i with | [] => true | f :: _ => updAll (edgesK k m) m f (T.getD f []) T == tabT k m (preR k r f)))
    && (l.all (fun s => decide (s < m)) && (winOf k m l == r) && decide (lenK k r = l.length) && U.contains i && (invR i == r) && (decide (r.length ≤ 10) && decide (l.length ≤ 100)))
    && (resIs (F_look_at_window [.str k, .int m, rowD r] none) .non && resIs (F_turned_back [rowD r] none) (rowD i) && resIs (F_ends_of [.str k, .int m, rowD r] none) (enW (endsK k m r))
    && resIs (F_length_of [.str k, .int m, rowD r] none) (.int (lenK k r)))
theorem chk_ok {k : Str} {m : Nat} {r : Row} (h : chk k m (rowsU k m) r = true) : RowOk k m r := by
  unfold chk at h
  dsimp only at h
  cases e : wRun k m 1000 (invR r) with
  | none => rw [e] at h; cases h
  | some l =>
    rw [e] at h
    have el : least k m r = l := by unfold least; rw [e]; rfl
    simp only [Bool.and_eq_true, List.all_eq_true, List.mem_range, List.contains_iff_mem, beq_iff_eq, decide_eq_true_eq] at h
    obtain ⟨⟨⟨h1, ⟨h2, h3⟩, h4⟩, ⟨⟨⟨⟨h5, h6⟩, h7⟩, h8⟩, h9⟩, h10, h11⟩, ⟨⟨h12, h13⟩, h14⟩, h15⟩ := h
    refine ⟨fun s hs => (h1 s hs).1.1.1.1.1, fun s hs => (h1 s hs).1.1.1.1.2, fun s hs => (h1 s hs).1.1.1.2, fun s hs => by rw [el]; exact (h1 s hs).1.1.2, fun s hs => resIs_eq (h1 s hs).1.2, fun s hs => resIs_eq (h1 s hs).2, h2, h3, fun f fr ef => ?_,
      by rw [el]; exact e, by rw [el]; exact h5, by rw [el]; exact h6, by rw [el]; exact h7, h8, h9, resIs_eq h12, resIs_eq h13, resIs_eq h14, resIs_eq h15, by rw [el]; exact ⟨h10, h11⟩⟩
    rw [ef] at h4
    exact beq_iff_eq.mp h4
def chkAll (k : Str) (m : Nat) : Bool := (rowsU k m).all (chk k m (rowsU k m))
theorem chkAll_ok {k : Str} {m : Nat} (h : chkAll k m = true) {r : Row} (hr : r ∈ rowsU k m) : RowOk k m r := chk_ok (List.all_eq_true.mp h r hr)
set_option profiler true
set_option profiler.threshold 50
theorem cA1 : chkAll "A" 1 = true := by kernel_rfl
theorem cA2 : chkAll "A" 2 = true := by kernel_rfl
theorem cB2 : chkAll "B" 2 = true := by kernel_rfl
theorem cD2 : chkAll "D" 2 = true := by kernel_rfl
theorem cA3 : chkAll "A" 3 = true := by kernel_rfl
end DL

set_option Elab.async false
set_option linter.all false
set_option maxRecDepth 100000
set_option maxHeartbeats 0
namespace DL
open PySem
/-- n rows from the j-th on -/
def part (n j : Nat) (l : List Row) : List Row := (l.drop (n * j)).take n
theorem parts_all {p : Row → Bool} {l : List Row} {n J : Nat} (hn : 0 < n) (hl : l.length ≤ n * J) (h : ∀ j < J, (part n j l).all p = true) : l.all p = true := by
  refine List.all_eq_true.mpr fun x hx => ?_
  obtain ⟨i, hi, e⟩ := List.mem_iff_getElem.mp hx
  have hj : i / n < J := Nat.div_lt_of_lt_mul (by omega)
  refine List.all_eq_true.mp (h (i / n) hj) x ?_
  unfold part
  have h1 : n * (i / n) ≤ i := Nat.mul_div_le i n
  have h2 : i < n * (i / n) + n := by have := Nat.lt_div_mul_add (a := i) hn; rw [Nat.mul_comm]; exact this
  refine List.mem_iff_getElem.mpr ⟨i - n * (i / n), ?_, ?_⟩
  · rw [List.length_take, List.length_drop]; omega
  · rw [List.getElem_take, List.getElem_drop]
    have : n * (i / n) + (i - n * (i / n)) = i := by omega
    simp only [this]
    exact e
def chkP (k : Str) (m n j : Nat) : Bool := (part n j (rowsU k m)).all (chk k m (rowsU k m))
theorem cB3 : chkAll "B" 3 = true := by kernel_rfl
theorem cD3 : chkAll "D" 3 = true := by kernel_rfl
end DL

set_option Elab.async false
set_option linter.all false
set_option maxRecDepth 100000
set_option maxHeartbeats 0
namespace DL
open PySem
theorem cD4_0 : chkP "D" 4 32 0 = true := by kernel_rfl
theorem cD4_1 : chkP "D" 4 32 1 = true := by kernel_rfl
theorem cD4_2 : chkP "D" 4 32 2 = true := by kernel_rfl
theorem cD4_3 : chkP "D" 4 32 3 = true := by kernel_rfl
theorem cD4_4 : chkP "D" 4 32 4 = true := by kernel_rfl
theorem cD4_5 : chkP "D" 4 32 5 = true := by kernel_rfl
theorem cD4 : chkAll "D" 4 = true := parts_all (n := 32) (J := 6) (by decide) (Nat.le_of_ble_eq_true (by kernel_rfl)) fun j hj => match j, hj with
  | 0, _ => cD4_0
  | 1, _ => cD4_1
  | 2, _ => cD4_2
  | 3, _ => cD4_3
  | 4, _ => cD4_4
  | 5, _ => cD4_5
  | j + 6, h => absurd h (by omega)
end DL

set_option Elab.async false
set_option linter.all false
set_option maxRecDepth 100000
set_option maxHeartbeats 0
namespace DL
open PySem
theorem cB4_0 : chkP "B" 4 24 0 = true := by kernel_rfl
theorem cB4_1 : chkP "B" 4 24 1 = true := by kernel_rfl
theorem cB4_2 : chkP "B" 4 24 2 = true := by kernel_rfl
theorem cB4_3 : chkP "B" 4 24 3 = true := by kernel_rfl
theorem cB4_4 : chkP "B" 4 24 4 = true := by kernel_rfl
theorem cB4_5 : chkP "B" 4 24 5 = true := by kernel_rfl
theorem cB4_6 : chkP "B" 4 24 6 = true := by kernel_rfl
theorem cB4_7 : chkP "B" 4 24 7 = true := by kernel_rfl
theorem cB4_8 : chkP "B" 4 24 8 = true := by kernel_rfl
theorem cB4_9 : chkP "B" 4 24 9 = true := by kernel_rfl
theorem cB4_10 : chkP "B" 4 24 10 = true := by kernel_rfl
theorem cB4_11 : chkP "B" 4 24 11 = true := by kernel_rfl
theorem cB4_12 : chkP "B" 4 24 12 = true := by kernel_rfl
theorem cB4_13 : chkP "B" 4 24 13 = true := by kernel_rfl
theorem cB4_14 : chkP "B" 4 24 14 = true := by kernel_rfl
theorem cB4_15 : chkP "B" 4 24 15 = true := by kernel_rfl
theorem cB4 : chkAll "B" 4 = true := parts_all (n := 24) (J := 16) (by decide) (Nat.le_of_ble_eq_true (by kernel_rfl)) fun j hj => match j, hj with
  | 0, _ => cB4_0
  | 1, _ => cB4_1
  | 2, _ => cB4_2
  | 3, _ => cB4_3
  | 4, _ => cB4_4
  | 5, _ => cB4_5
  | 6, _ => cB4_6
  | 7, _ => cB4_7
  | 8, _ => cB4_8
  | 9, _ => cB4_9
  | 10, _ => cB4_10
  | 11, _ => cB4_11
  | 12, _ => cB4_12
  | 13, _ => cB4_13
  | 14, _ => cB4_14
  | 15, _ => cB4_15
  | j + 16, h => absurd h (by omega)
end DL

set_option Elab.async false
set_option linter.all false
set_option maxRecDepth 100000
set_option maxHeartbeats 4000000
namespace DL
open PySem PySem.Spec PyProof.Rows L2
/-! ### from the rows to the words -/
structure Case (k : Str) (m : Nat) : Prop where
  row : ∀ r ∈ rowsU k m, RowOk k m r
  plain : plainR k m ∈ rowsU k m
  tab0 : tabT k m (plainR k m) = (List.range m).map (simple m)
  kind : k = "A" ∨ k = "B" ∨ k = "D"
  m1 : 1 ≤ m ∧ m ≤ 4
  edges : F_law_edges [.str k, .int m] none = .ok (wD m (edgesK k m)) none
  eok : (edgesK k m).length ≤ 10 ∧ ∀ e ∈ edgesK k m, okLab e.2.2 = true
  all1 : F_law_all [.str k, .int m] none = .ok (.lst ((sortL (rowsU k m)).map rowD)) none
  all2 : F_all_windows [.str k, .int m] none = .ok (.tup ((sortL (rowsU k m)).map rowD)) none
  plainL : F_plain [.str k, .int m] none = .ok (rowD (plainR k m)) none
  diag : F_line_diagram [.str k, .int m] none = .ok (dDiag m (edgesK k m)) none
  size : (plainR k m).length ≤ 5
section
variable {k : Str} {m : Nat} (c : Case k m)
include c
theorem Case.es : EsOk (edgesK k m) := ⟨c.eok.2, Nat.le_trans c.eok.1 (by decide)⟩
theorem Case.fold_mem : ∀ (w : List Nat) (r : Row), (∀ s ∈ w, s < m) → r ∈ rowsU k m → w.foldl (stp k) r ∈ rowsU k m
  | [], r, _, h => h
  | s :: w, r, hw, h => by rw [List.foldl_cons]; exact Case.fold_mem w _ (fun x hx => hw x (List.mem_cons_of_mem _ hx)) ((c.row r h).clo s (hw s List.mem_cons_self))
theorem Case.win_mem {w : List Nat} (hw : ∀ s ∈ w, s < m) : winOf k m w ∈ rowsU k m := c.fold_mem w _ hw c.plain
theorem Case.tabs : ∀ (w : List Nat) (r : Row), (∀ s ∈ w, s < m) → r ∈ rowsU k m → tabT k m (w.foldl (stp k) r) = (tabT k m r).map fun x => w.foldl (fun x s => mirrored (edgesK k m) s x) x
  | [], r, _, h => by simp
  | s :: w, r, hw, h => by
    rw [List.foldl_cons, Case.tabs w _ (fun x hx => hw x (List.mem_cons_of_mem _ hx)) ((c.row r h).clo s (hw s List.mem_cons_self)), (c.row r h).tab s (hw s List.mem_cons_self), List.map_map]
    rfl
theorem Case.imgs {w : List Nat} (hw : ∀ s ∈ w, s < m) : imgs (edgesK k m) m w = tabT k m (winOf k m w) := by
  unfold winOf
  rw [c.tabs w _ hw c.plain, c.tab0, List.map_map]
  rfl
theorem Case.nrm : ∀ (n : Nat) (r : Row) (l : List Nat), r ∈ rowsU k m → wRun k m n (invR r) = some l → normRun (edgesK k m) m n (tabT k m r) = some l
  | 0, r, l, _, h => by cases h
  | n + 1, r, l, hr, h => by
    have q := c.row r hr
    unfold wRun at h
    unfold normRun
    rw [if_pos q.small, q.low_]
    cases he : endsK k m (invR r) with
    | nil => rw [he] at h; exact h
    | cons f fr =>
      rw [he] at h
      dsimp only at h ⊢
      have hf : f < m := List.mem_range.mp (List.mem_filter.mp (show f ∈ endsK k m (invR r) by rw [he]; exact List.mem_cons_self)).1
      obtain ⟨l', h1, rfl⟩ := Option.map_eq_some_iff.mp h
      have hi := c.row _ q.inv
      have hs := hi.clo f hf
      have hs2 := c.row _ hs
      rw [q.upd_ f fr he, Case.nrm n (preR k r f) l' hs2.inv (by unfold preR; rw [hs2.inv2]; exact h1)]
      rfl
theorem Case.normal {w : List Nat} (hw : ∀ s ∈ w, s < m) (hl : w.length ≤ lim) (st : Option Dr) : F_law_normal [wD m (edgesK k m), enW w] st = .ok (enW (least k m (winOf k m w))) st := by
  have q := c.row _ (c.win_mem hw)
  refine lw_normal c.es (Nat.le_trans c.m1.2 (by decide)) hw hl ?_ st
  rw [c.imgs hw]
  exact c.nrm 1000 _ _ (c.win_mem hw) q.run
end
end DL

set_option Elab.async false
set_option linter.all false
set_option maxRecDepth 100000
set_option maxHeartbeats 4000000
namespace DL
open PySem PySem.Spec PyProof.Rows L2
theorem drop_ok {f : DEnv → Md D} {δ : DEnv} {st st1 : Option Dr} {d : D} (h : f δ st = .ok d st1) : sDrop f δ st = .ok (.nx δ) st1 := by
  unfold sDrop; rw [mbind_eq, h, rbind_ok]; rfl
theorem isint (i : Int) : F_is_integer [.int i] none = .ok (.bl true) none := by
  unfold F_is_integer
  simp [mbind_eq, mpure_eq, mofO_some, mofO_none, rbind_ok, rbind_err, rbind_stuck, bindS_eq, rbindS_ok, callR_ok, eCall_eq, runF, startD, eVar, qVar, eC, mIfN, eBin, eUn, eCons, eNil, eTup, eLst, eL, eN, eNN, eBinN, mB, mD, mAnd, mOr, mNot, mIf, eAndV, eOrV, eNot, eChain, eChain3, eSl, oNone, oSome, sSeq, Fl.then, sNext, sDrop, sRet, sRetN, sIf, sSet, sSetN, sFz, fz, sAsg, sPar, sAug, sApp, sExt, sAsgM, gmName, gmSub, gmNil, gmCons, gmTup, gdName, gdNil, gdCons, gdTup, iSeq, seqD, iL, iT, iListD, iTupD, eRg, wipeD, tYesD, dAddF_int, dSub, dLt, dLe, dGt, dGe, dNeg, dSl, dLen, dTuple, dList, dAbs, dInt, dEq, dNe, dEqB_int, dEqB_str, dEqB_bl, dIs, dIsN, dIn, dNotIn, dIsi, tyName, isT, ite_md, ite_rbind, lim, dIx_c0, dIx_c1, dIx_c2, dIxL_c0, dIxL_c1, dIxL_c2]
theorem fldSize (n : Int) (l : List Edge) : dFld "Diagram" "size" (dDiag n l) = some (.int n) := by
  unfold dFld dDiag
  dsimp only
  rw [if_pos rfl]
  unfold lkF
  rw [if_neg (by decide)]
  unfold lkF
  rw [if_pos rfl]
theorem asBls_true : ∀ n : Nat, asBls (List.replicate n (D.bl true)) = some (List.replicate n true)
  | 0 => rfl
  | n + 1 => by
    rw [List.replicate_succ]
    show (asBls (List.replicate n (D.bl true))).map _ = _
    rw [asBls_true n]; rfl
theorem look_word {n : Nat} {l : List Edge} {w : List Nat} (hw : ∀ s ∈ w, s < n) (hl : w.length ≤ 400) : F_look_at_word [dDiag n l, enW w] none = .ok .non none := by
  have hc : ∀ δ, δ = [Slot.val (dDiag n l), .val (enW w), .un] → eComp [2] (iSeq (qVar 1)) (gdName 2) (tYesD) (eAndV (eCall 1 (F_is_integer) (eCons (eVar 2) (eNil))) (eChain dLe dLt (eC (.int 0)) (qVar 2) (eUn (dFld "Diagram" "size") (eVar 0)))) δ none = .ok (w.map fun _ => D.bl true) none := by
    rintro δ rfl
    refine eComp_all (enc := enN) rfl (Nat.le_trans hl (by decide)) fun s hs => ⟨_, rfl, ?_⟩
    have h1 : decide ((0 : Int) ≤ (s : Int)) = true := decide_eq_true (by omega)
    have h2 : decide ((s : Int) < (n : Int)) = true := decide_eq_true (by have := hw s hs; omega)
    simp [mbind_eq, mpure_eq, mofO_some, mofO_none, rbind_ok, rbind_err, rbind_stuck, bindS_eq, rbindS_ok, callR_ok, eCall_eq, runF, startD, eVar, qVar, eC, mIfN, eBin, eUn, eCons, eNil, eTup, eLst, eL, eN, eNN, eBinN, mB, mD, mAnd, mOr, mNot, mIf, eAndV, eOrV, eNot, eChain, eChain3, eSl, oNone, oSome, sSeq, Fl.then, sNext, sDrop, sRet, sRetN, sIf, sSet, sSetN, sFz, fz, sAsg, sPar, sAug, sApp, sExt, sAsgM, gmName, gmSub, gmNil, gmCons, gmTup, gdName, gdNil, gdCons, gdTup, iSeq, seqD, iL, iT, iListD, iTupD, eRg, wipeD, tYesD, dAddF_int, dSub, dLt, dLe, dGt, dGe, dNeg, dSl, dLen, dTuple, dList, dAbs, dInt, dEq, dNe, dEqB_int, dEqB_str, dEqB_bl, dIs, dIsN, dIn, dNotIn, dIsi, tyName, isT, ite_md, ite_rbind, lim, dIx_c0, dIx_c1, dIx_c2, dIxL_c0, dIxL_c1, dIxL_c2, enN, isint, fldSize, h1, h2]
    exact hw s hs
  have hword : F_is_word [dDiag n l, enW w] none = .ok (.bl true) none := by
    unfold F_is_word
    refine runF_ret (seq (δ1 := [.val (dDiag n l), .val (enW w), .un]) (st1 := none) ?_ ?_)
    · have hlen : decide ((400 : Int) < (w.length : Int)) = false := decide_eq_false (by omega)
      simp [mbind_eq, mpure_eq, mofO_some, mofO_none, rbind_ok, rbind_err, rbind_stuck, bindS_eq, rbindS_ok, callR_ok, eCall_eq, runF, startD, eVar, qVar, eC, mIfN, eBin, eUn, eCons, eNil, eTup, eLst, eL, eN, eNN, eBinN, mB, mD, mAnd, mOr, mNot, mIf, eAndV, eOrV, eNot, eChain, eChain3, eSl, oNone, oSome, sSeq, Fl.then, sNext, sDrop, sRet, sRetN, sIf, sSet, sSetN, sFz, fz, sAsg, sPar, sAug, sApp, sExt, sAsgM, gmName, gmSub, gmNil, gmCons, gmTup, gdName, gdNil, gdCons, gdTup, iSeq, seqD, iL, iT, iListD, iTupD, eRg, wipeD, tYesD, dAddF_int, dSub, dLt, dLe, dGt, dGe, dNeg, dSl, dLen, dTuple, dList, dAbs, dInt, dEq, dNe, dEqB_int, dEqB_str, dEqB_bl, dIs, dIsN, dIn, dNotIn, dIsi, tyName, isT, ite_md, ite_rbind, lim, dIx_c0, dIx_c1, dIx_c2, dIxL_c0, dIxL_c1, dIxL_c2, enW, hlen]
    · have := hc _ rfl
      have e : (w.map fun _ => D.bl true) = List.replicate w.length (.bl true) := List.map_const ..
      rw [e] at this
      simp [mbind_eq, mpure_eq, mofO_some, mofO_none, rbind_ok, rbind_err, rbind_stuck, bindS_eq, rbindS_ok, callR_ok, eCall_eq, runF, startD, eVar, qVar, eC, mIfN, eBin, eUn, eCons, eNil, eTup, eLst, eL, eN, eNN, eBinN, mB, mD, mAnd, mOr, mNot, mIf, eAndV, eOrV, eNot, eChain, eChain3, eSl, oNone, oSome, sSeq, Fl.then, sNext, sDrop, sRet, sRetN, sIf, sSet, sSetN, sFz, fz, sAsg, sPar, sAug, sApp, sExt, sAsgM, gmName, gmSub, gmNil, gmCons, gmTup, gdName, gdNil, gdCons, gdTup, iSeq, seqD, iL, iT, iListD, iTupD, eRg, wipeD, tYesD, dAddF_int, dSub, dLt, dLe, dGt, dGe, dNeg, dSl, dLen, dTuple, dList, dAbs, dInt, dEq, dNe, dEqB_int, dEqB_str, dEqB_bl, dIs, dIsN, dIn, dNotIn, dIsi, tyName, isT, ite_md, ite_rbind, lim, dIx_c0, dIx_c1, dIx_c2, dIxL_c0, dIxL_c1, dIxL_c2, this, dAll, asBls_true]
  unfold F_look_at_word
  refine runF_nx (δ := [.val (dDiag n l), .val (enW w)]) ?_
  simp [mbind_eq, mpure_eq, mofO_some, mofO_none, rbind_ok, rbind_err, rbind_stuck, bindS_eq, rbindS_ok, callR_ok, eCall_eq, runF, startD, eVar, qVar, eC, mIfN, eBin, eUn, eCons, eNil, eTup, eLst, eL, eN, eNN, eBinN, mB, mD, mAnd, mOr, mNot, mIf, eAndV, eOrV, eNot, eChain, eChain3, eSl, oNone, oSome, sSeq, Fl.then, sNext, sDrop, sRet, sRetN, sIf, sSet, sSetN, sFz, fz, sAsg, sPar, sAug, sApp, sExt, sAsgM, gmName, gmSub, gmNil, gmCons, gmTup, gdName, gdNil, gdCons, gdTup, iSeq, seqD, iL, iT, iListD, iTupD, eRg, wipeD, tYesD, dAddF_int, dSub, dLt, dLe, dGt, dGe, dNeg, dSl, dLen, dTuple, dList, dAbs, dInt, dEq, dNe, dEqB_int, dEqB_str, dEqB_bl, dIs, dIsN, dIn, dNotIn, dIsi, tyName, isT, ite_md, ite_rbind, lim, dIx_c0, dIx_c1, dIx_c2, dIxL_c0, dIxL_c1, dIxL_c2, hword]
section
variable {k : Str} {m : Nat} (c : Case k m)
include c
theorem Case.lwin {w : List Nat} (hw : ∀ s ∈ w, s < m) (st : Option Dr) : F_law_window [.str k, .int m, enW w] st = .ok (rowD (winOf k m w)) st := by
  unfold F_law_window
  have e0 : ∀ st, sSet 3 (eRg (iR2 (eC (.int 1)) (eBin dAddF (eBin dAddF (qVar 1) (eC (.int 1))) (eN dInt (eCons (eBin dEq (qVar 0) (eC (.str "A"))) (eNil)))))) (startD 5 [.str k, .int m, enW w]) st = .ok (.nx [.val (.str k), .val (.int m), .val (enW w), .val (rowD (plainR k m)), .un]) st := fun st => by
    have hm := c.m1
    have e1 : ∀ δ, δ = startD 5 [.str k, .int m, enW w] → iR2 (eC (.int 1)) (eBin dAddF (eBin dAddF (qVar 1) (eC (.int 1))) (eN dInt (eCons (eBin dEq (qVar 0) (eC (.str "A"))) (eNil)))) δ st = .ok ((plainR k m).map D.int) st := by
      rintro δ rfl
      have := iR2_eq (f := eC (.int 1)) (f' := eBin dAddF (eBin dAddF (qVar 1) (eC (.int 1))) (eN dInt (eCons (eBin dEq (qVar 0) (eC (.str "A"))) (eNil)))) (δ := startD 5 [.str k, .int m, enW w]) (st := st) (st' := st) (st2 := st) (m := 1) (n := (szK k m : Nat) + 1) rfl (by
        unfold szK
        by_cases hk : k = "A"
        · simp [mbind_eq, mpure_eq, mofO_some, mofO_none, rbind_ok, rbind_err, rbind_stuck, bindS_eq, rbindS_ok, callR_ok, eCall_eq, runF, startD, eVar, qVar, eC, mIfN, eBin, eUn, eCons, eNil, eTup, eLst, eL, eN, eNN, eBinN, mB, mD, mAnd, mOr, mNot, mIf, eAndV, eOrV, eNot, eChain, eChain3, eSl, oNone, oSome, sSeq, Fl.then, sNext, sDrop, sRet, sRetN, sIf, sSet, sSetN, sFz, fz, sAsg, sPar, sAug, sApp, sExt, sAsgM, gmName, gmSub, gmNil, gmCons, gmTup, gdName, gdNil, gdCons, gdTup, iSeq, seqD, iL, iT, iListD, iTupD, eRg, wipeD, tYesD, dAddF_int, dSub, dLt, dLe, dGt, dGe, dNeg, dSl, dLen, dTuple, dList, dAbs, dInt, dEq, dNe, dEqB_int, dEqB_str, dEqB_bl, dIs, dIsN, dIn, dNotIn, dIsi, tyName, isT, ite_md, ite_rbind, lim, dIx_c0, dIx_c1, dIx_c2, dIxL_c0, dIxL_c1, dIxL_c2, hk]
        · simp [mbind_eq, mpure_eq, mofO_some, mofO_none, rbind_ok, rbind_err, rbind_stuck, bindS_eq, rbindS_ok, callR_ok, eCall_eq, runF, startD, eVar, qVar, eC, mIfN, eBin, eUn, eCons, eNil, eTup, eLst, eL, eN, eNN, eBinN, mB, mD, mAnd, mOr, mNot, mIf, eAndV, eOrV, eNot, eChain, eChain3, eSl, oNone, oSome, sSeq, Fl.then, sNext, sDrop, sRet, sRetN, sIf, sSet, sSetN, sFz, fz, sAsg, sPar, sAug, sApp, sExt, sAsgM, gmName, gmSub, gmNil, gmCons, gmTup, gdName, gdNil, gdCons, gdTup, iSeq, seqD, iL, iT, iListD, iTupD, eRg, wipeD, tYesD, dAddF_int, dSub, dLt, dLe, dGt, dGe, dNeg, dSl, dLen, dTuple, dList, dAbs, dInt, dEq, dNe, dEqB_int, dEqB_str, dEqB_bl, dIs, dIsN, dIn, dNotIn, dIsi, tyName, isT, ite_md, ite_rbind, lim, dIx_c0, dIx_c1, dIx_c2, dIxL_c0, dIxL_c1, dIxL_c2, hk]) ⟨by omega, by decide⟩ (by unfold szK; have : (lim : Int) = 1000000 := rfl; split <;> omega)
      rw [this]
      congr 1
      unfold rgD plainR
      rw [List.map_map, show ((szK k m : Nat) + 1 - (1 : Int)).toNat = szK k m by omega]
      refine List.map_congr_left fun i _ => ?_
      show D.int (1 + (i : Int)) = D.int ((i : Int) + 1)
      rw [Int.add_comm]
    refine set (d := rowD (plainR k m)) ?_
    unfold eRg
    rw [mbind_eq, e1 _ rfl, rbind_ok]
    rfl
  refine runF_ret (seq (e0 st) (seq_ex (for_exE (enc := enN) (l := w) (s := plainR k m) (f := stp k)
    (R := fun r δ s => s = st ∧ r ∈ rowsU k m ∧ ∃ o, δ = [.val (.str k), .val (.int m), .val (enW w), .val (rowD r), o]) (st1 := st) rfl ⟨rfl, c.plain, .un, rfl⟩ (fun s hs r δ s' ⟨h1, hr, o, h2⟩ => ?_)) ?_))
  · subst h1 h2
    have q := c.row r hr
    refine ⟨_, rfl, [.val (.str k), .val (.int m), .val (enW w), .val (rowD (stp k r s)), .val (enN s)], s', ?_, rfl, q.clo s (hw s hs), _, rfl⟩
    simp [mbind_eq, mpure_eq, mofO_some, mofO_none, rbind_ok, rbind_err, rbind_stuck, bindS_eq, rbindS_ok, callR_ok, eCall_eq, runF, startD, eVar, qVar, eC, mIfN, eBin, eUn, eCons, eNil, eTup, eLst, eL, eN, eNN, eBinN, mB, mD, mAnd, mOr, mNot, mIf, eAndV, eOrV, eNot, eChain, eChain3, eSl, oNone, oSome, sSeq, Fl.then, sNext, sDrop, sRet, sRetN, sIf, sSet, sSetN, sFz, fz, sAsg, sPar, sAug, sApp, sExt, sAsgM, gmName, gmSub, gmNil, gmCons, gmTup, gdName, gdNil, gdCons, gdTup, iSeq, seqD, iL, iT, iListD, iTupD, eRg, wipeD, tYesD, dAddF_int, dSub, dLt, dLe, dGt, dGe, dNeg, dSl, dLen, dTuple, dList, dAbs, dInt, dEq, dNe, dEqB_int, dEqB_str, dEqB_bl, dIs, dIsN, dIn, dNotIn, dIsi, tyName, isT, ite_md, ite_rbind, lim, dIx_c0, dIx_c1, dIx_c2, dIxL_c0, dIxL_c1, dIxL_c2, enN, q.stepL s (hw s hs)]
  · rintro _ _ ⟨rfl, _, o, rfl⟩
    rfl
theorem Case.pwin {w : List Nat} (hw : ∀ s ∈ w, s < m) (hl : w.length ≤ 400) : F_window_of [.str k, .int m, enW w] none = .ok (rowD (winOf k m w)) none := by
  unfold F_window_of
  have hlw := look_word (l := edgesK k m) hw hl
  refine runF_ret (seq (δ1 := [.val (.str k), .val (.int m), .val (enW w), .un, .un]) (st1 := none) (drop_ok (d := .non) ?_) (seq (δ1 := [.val (.str k), .val (.int m), .val (enW w), .val (rowD (plainR k m)), .un]) (st1 := none) ?_ (seq_ex (for_exE (enc := enN) (l := w) (s := plainR k m) (f := stp k)
    (R := fun r δ s => s = none ∧ r ∈ rowsU k m ∧ ∃ o, δ = [.val (.str k), .val (.int m), .val (enW w), .val (rowD r), o]) (st1 := none) rfl ⟨rfl, c.plain, .un, rfl⟩ (fun s hs r δ s' ⟨h1, hr, o, h2⟩ => ?_)) ?_)))
  · simp [mbind_eq, mpure_eq, mofO_some, mofO_none, rbind_ok, rbind_err, rbind_stuck, bindS_eq, rbindS_ok, callR_ok, eCall_eq, runF, startD, eVar, qVar, eC, mIfN, eBin, eUn, eCons, eNil, eTup, eLst, eL, eN, eNN, eBinN, mB, mD, mAnd, mOr, mNot, mIf, eAndV, eOrV, eNot, eChain, eChain3, eSl, oNone, oSome, sSeq, Fl.then, sNext, sDrop, sRet, sRetN, sIf, sSet, sSetN, sFz, fz, sAsg, sPar, sAug, sApp, sExt, sAsgM, gmName, gmSub, gmNil, gmCons, gmTup, gdName, gdNil, gdCons, gdTup, iSeq, seqD, iL, iT, iListD, iTupD, eRg, wipeD, tYesD, dAddF_int, dSub, dLt, dLe, dGt, dGe, dNeg, dSl, dLen, dTuple, dList, dAbs, dInt, dEq, dNe, dEqB_int, dEqB_str, dEqB_bl, dIs, dIsN, dIn, dNotIn, dIsi, tyName, isT, ite_md, ite_rbind, lim, dIx_c0, dIx_c1, dIx_c2, dIxL_c0, dIxL_c1, dIxL_c2, c.diag, hlw]
  · simp [mbind_eq, mpure_eq, mofO_some, mofO_none, rbind_ok, rbind_err, rbind_stuck, bindS_eq, rbindS_ok, callR_ok, eCall_eq, runF, startD, eVar, qVar, eC, mIfN, eBin, eUn, eCons, eNil, eTup, eLst, eL, eN, eNN, eBinN, mB, mD, mAnd, mOr, mNot, mIf, eAndV, eOrV, eNot, eChain, eChain3, eSl, oNone, oSome, sSeq, Fl.then, sNext, sDrop, sRet, sRetN, sIf, sSet, sSetN, sFz, fz, sAsg, sPar, sAug, sApp, sExt, sAsgM, gmName, gmSub, gmNil, gmCons, gmTup, gdName, gdNil, gdCons, gdTup, iSeq, seqD, iL, iT, iListD, iTupD, eRg, wipeD, tYesD, dAddF_int, dSub, dLt, dLe, dGt, dGe, dNeg, dSl, dLen, dTuple, dList, dAbs, dInt, dEq, dNe, dEqB_int, dEqB_str, dEqB_bl, dIs, dIsN, dIn, dNotIn, dIsi, tyName, isT, ite_md, ite_rbind, lim, dIx_c0, dIx_c1, dIx_c2, dIxL_c0, dIxL_c1, dIxL_c2, c.plainL]
  · subst h1 h2
    have q := c.row r hr
    refine ⟨_, rfl, [.val (.str k), .val (.int m), .val (enW w), .val (rowD (stp k r s)), .val (enN s)], none, ?_, rfl, q.clo s (hw s hs), _, rfl⟩
    simp [mbind_eq, mpure_eq, mofO_some, mofO_none, rbind_ok, rbind_err, rbind_stuck, bindS_eq, rbindS_ok, callR_ok, eCall_eq, runF, startD, eVar, qVar, eC, mIfN, eBin, eUn, eCons, eNil, eTup, eLst, eL, eN, eNN, eBinN, mB, mD, mAnd, mOr, mNot, mIf, eAndV, eOrV, eNot, eChain, eChain3, eSl, oNone, oSome, sSeq, Fl.then, sNext, sDrop, sRet, sRetN, sIf, sSet, sSetN, sFz, fz, sAsg, sPar, sAug, sApp, sExt, sAsgM, gmName, gmSub, gmNil, gmCons, gmTup, gdName, gdNil, gdCons, gdTup, iSeq, seqD, iL, iT, iListD, iTupD, eRg, wipeD, tYesD, dAddF_int, dSub, dLt, dLe, dGt, dGe, dNeg, dSl, dLen, dTuple, dList, dAbs, dInt, dEq, dNe, dEqB_int, dEqB_str, dEqB_bl, dIs, dIsN, dIn, dNotIn, dIsi, tyName, isT, ite_md, ite_rbind, lim, dIx_c0, dIx_c1, dIx_c2, dIxL_c0, dIxL_c1, dIxL_c2, enN, q.stepP s (hw s hs)]
  · rintro _ _ ⟨rfl, _, o, rfl⟩
    rfl
theorem Case.begs {r : Row} (hr : r ∈ rowsU k m) : F_beginnings_of [.str k, .int m, rowD r] none = .ok (enW (endsK k m (invR r))) none := by
  have q := c.row r hr
  have qi := c.row _ q.inv
  unfold F_beginnings_of
  refine runF_ret (seq (δ1 := [.val (.str k), .val (.int m), .val (rowD r)]) (st1 := none) (drop_ok (d := .non) ?_) ?_)
  · simp [mbind_eq, mpure_eq, mofO_some, mofO_none, rbind_ok, rbind_err, rbind_stuck, bindS_eq, rbindS_ok, callR_ok, eCall_eq, runF, startD, eVar, qVar, eC, mIfN, eBin, eUn, eCons, eNil, eTup, eLst, eL, eN, eNN, eBinN, mB, mD, mAnd, mOr, mNot, mIf, eAndV, eOrV, eNot, eChain, eChain3, eSl, oNone, oSome, sSeq, Fl.then, sNext, sDrop, sRet, sRetN, sIf, sSet, sSetN, sFz, fz, sAsg, sPar, sAug, sApp, sExt, sAsgM, gmName, gmSub, gmNil, gmCons, gmTup, gdName, gdNil, gdCons, gdTup, iSeq, seqD, iL, iT, iListD, iTupD, eRg, wipeD, tYesD, dAddF_int, dSub, dLt, dLe, dGt, dGe, dNeg, dSl, dLen, dTuple, dList, dAbs, dInt, dEq, dNe, dEqB_int, dEqB_str, dEqB_bl, dIs, dIsN, dIn, dNotIn, dIsi, tyName, isT, ite_md, ite_rbind, lim, dIx_c0, dIx_c1, dIx_c2, dIxL_c0, dIxL_c1, dIxL_c2, q.look]
  · simp [mbind_eq, mpure_eq, mofO_some, mofO_none, rbind_ok, rbind_err, rbind_stuck, bindS_eq, rbindS_ok, callR_ok, eCall_eq, runF, startD, eVar, qVar, eC, mIfN, eBin, eUn, eCons, eNil, eTup, eLst, eL, eN, eNN, eBinN, mB, mD, mAnd, mOr, mNot, mIf, eAndV, eOrV, eNot, eChain, eChain3, eSl, oNone, oSome, sSeq, Fl.then, sNext, sDrop, sRet, sRetN, sIf, sSet, sSetN, sFz, fz, sAsg, sPar, sAug, sApp, sExt, sAsgM, gmName, gmSub, gmNil, gmCons, gmTup, gdName, gdNil, gdCons, gdTup, iSeq, seqD, iL, iT, iListD, iTupD, eRg, wipeD, tYesD, dAddF_int, dSub, dLt, dLe, dGt, dGe, dNeg, dSl, dLen, dTuple, dList, dAbs, dInt, dEq, dNe, dEqB_int, dEqB_str, dEqB_bl, dIs, dIsN, dIn, dNotIn, dIsi, tyName, isT, ite_md, ite_rbind, lim, dIx_c0, dIx_c1, dIx_c2, dIxL_c0, dIxL_c1, dIxL_c2, q.turn, qi.ends]
theorem Case.word {r : Row} (hr : r ∈ rowsU k m) : F_word_of [.str k, .int m, rowD r] none = .ok (enW (least k m r)) none := by
  have q := c.row r hr
  have qi := c.row _ q.inv
  unfold F_word_of
  refine runF_ret (seq (δ1 := [.val (.str k), .val (.int m), .val (rowD r), .un, .un, .un]) (st1 := none) (drop_ok (d := .non) ?_) (seq rfl (seq (δ1 := [.val (.str k), .val (.int m), .val (rowD r), .own [], .val (rowD (invR r)), .un]) (st1 := none) ?_ (seq (δ1 := [.val (.str k), .val (.int m), .val (rowD r), .own [], .val (rowD (invR r)), .val (enW (endsK k m (invR r)))]) (st1 := none) ?_
    (seq_ex (P := fun δ s => s = none ∧ ∃ a b, δ = [.val (.str k), .val (.int m), .val (rowD r), .own ((least k m r).map enN), a, b]) (while_ex
      (Q := fun n δ s => s = none ∧ ∃ b tl rest, b ∈ rowsU k m ∧ wRun k m (n + 1) b = some rest ∧ tl ++ rest = least k m r ∧ tl.length + n = 999 ∧ δ = [.val (.str k), .val (.int m), .val (rowD r), .own (tl.map enN), .val (rowD b), .val (enW (endsK k m b))])
      (n := 999) ?_ (by decide) ⟨rfl, invR r, [], least k m r, q.inv, q.run, rfl, rfl, rfl⟩) ?_)))))
  · simp [mbind_eq, mpure_eq, mofO_some, mofO_none, rbind_ok, rbind_err, rbind_stuck, bindS_eq, rbindS_ok, callR_ok, eCall_eq, runF, startD, eVar, qVar, eC, mIfN, eBin, eUn, eCons, eNil, eTup, eLst, eL, eN, eNN, eBinN, mB, mD, mAnd, mOr, mNot, mIf, eAndV, eOrV, eNot, eChain, eChain3, eSl, oNone, oSome, sSeq, Fl.then, sNext, sDrop, sRet, sRetN, sIf, sSet, sSetN, sFz, fz, sAsg, sPar, sAug, sApp, sExt, sAsgM, gmName, gmSub, gmNil, gmCons, gmTup, gdName, gdNil, gdCons, gdTup, iSeq, seqD, iL, iT, iListD, iTupD, eRg, wipeD, tYesD, dAddF_int, dSub, dLt, dLe, dGt, dGe, dNeg, dSl, dLen, dTuple, dList, dAbs, dInt, dEq, dNe, dEqB_int, dEqB_str, dEqB_bl, dIs, dIsN, dIn, dNotIn, dIsi, tyName, isT, ite_md, ite_rbind, lim, dIx_c0, dIx_c1, dIx_c2, dIxL_c0, dIxL_c1, dIxL_c2, q.look]
  · simp [mbind_eq, mpure_eq, mofO_some, mofO_none, rbind_ok, rbind_err, rbind_stuck, bindS_eq, rbindS_ok, callR_ok, eCall_eq, runF, startD, eVar, qVar, eC, mIfN, eBin, eUn, eCons, eNil, eTup, eLst, eL, eN, eNN, eBinN, mB, mD, mAnd, mOr, mNot, mIf, eAndV, eOrV, eNot, eChain, eChain3, eSl, oNone, oSome, sSeq, Fl.then, sNext, sDrop, sRet, sRetN, sIf, sSet, sSetN, sFz, fz, sAsg, sPar, sAug, sApp, sExt, sAsgM, gmName, gmSub, gmNil, gmCons, gmTup, gdName, gdNil, gdCons, gdTup, iSeq, seqD, iL, iT, iListD, iTupD, eRg, wipeD, tYesD, dAddF_int, dSub, dLt, dLe, dGt, dGe, dNeg, dSl, dLen, dTuple, dList, dAbs, dInt, dEq, dNe, dEqB_int, dEqB_str, dEqB_bl, dIs, dIsN, dIn, dNotIn, dIsi, tyName, isT, ite_md, ite_rbind, lim, dIx_c0, dIx_c1, dIx_c2, dIxL_c0, dIxL_c1, dIxL_c2, q.turn]
  · simp [mbind_eq, mpure_eq, mofO_some, mofO_none, rbind_ok, rbind_err, rbind_stuck, bindS_eq, rbindS_ok, callR_ok, eCall_eq, runF, startD, eVar, qVar, eC, mIfN, eBin, eUn, eCons, eNil, eTup, eLst, eL, eN, eNN, eBinN, mB, mD, mAnd, mOr, mNot, mIf, eAndV, eOrV, eNot, eChain, eChain3, eSl, oNone, oSome, sSeq, Fl.then, sNext, sDrop, sRet, sRetN, sIf, sSet, sSetN, sFz, fz, sAsg, sPar, sAug, sApp, sExt, sAsgM, gmName, gmSub, gmNil, gmCons, gmTup, gdName, gdNil, gdCons, gdTup, iSeq, seqD, iL, iT, iListD, iTupD, eRg, wipeD, tYesD, dAddF_int, dSub, dLt, dLe, dGt, dGe, dNeg, dSl, dLen, dTuple, dList, dAbs, dInt, dEq, dNe, dEqB_int, dEqB_str, dEqB_bl, dIs, dIsN, dIn, dNotIn, dIsi, tyName, isT, ite_md, ite_rbind, lim, dIx_c0, dIx_c1, dIx_c2, dIxL_c0, dIxL_c1, dIxL_c2, qi.ends]
  · rintro n δ s ⟨rfl, b, tl, rest, hb, hrun, htl, hn, rfl⟩
    have qb := c.row b hb
    unfold wRun at hrun
    cases he : endsK k m b with
    | nil =>
      rw [he] at hrun
      cases hrun
      rw [List.append_nil] at htl
      subst htl
      exact .inl ⟨none, by simp [mbind_eq, mpure_eq, mofO_some, mofO_none, rbind_ok, rbind_err, rbind_stuck, bindS_eq, rbindS_ok, callR_ok, eCall_eq, runF, startD, eVar, qVar, eC, mIfN, eBin, eUn, eCons, eNil, eTup, eLst, eL, eN, eNN, eBinN, mB, mD, mAnd, mOr, mNot, mIf, eAndV, eOrV, eNot, eChain, eChain3, eSl, oNone, oSome, sSeq, Fl.then, sNext, sDrop, sRet, sRetN, sIf, sSet, sSetN, sFz, fz, sAsg, sPar, sAug, sApp, sExt, sAsgM, gmName, gmSub, gmNil, gmCons, gmTup, gdName, gdNil, gdCons, gdTup, iSeq, seqD, iL, iT, iListD, iTupD, eRg, wipeD, tYesD, dAddF_int, dSub, dLt, dLe, dGt, dGe, dNeg, dSl, dLen, dTuple, dList, dAbs, dInt, dEq, dNe, dEqB_int, dEqB_str, dEqB_bl, dIs, dIsN, dIn, dNotIn, dIsi, tyName, isT, ite_md, ite_rbind, lim, dIx_c0, dIx_c1, dIx_c2, dIxL_c0, dIxL_c1, dIxL_c2, enW], rfl, _, _, rfl⟩
    | cons f fr =>
      rw [he] at hrun
      dsimp only at hrun
      obtain ⟨rest', hr', rfl⟩ := Option.map_eq_some_iff.mp hrun
      have hf : f < m := List.mem_range.mp (List.mem_filter.mp (show f ∈ endsK k m b by rw [he]; exact List.mem_cons_self)).1
      cases n with
      | zero => cases hr'
      | succ n =>
        have hs := qb.clo f hf
        have qs := c.row _ hs
        refine .inr ⟨n, none, Nat.lt_succ_self _, by simp [mbind_eq, mpure_eq, mofO_some, mofO_none, rbind_ok, rbind_err, rbind_stuck, bindS_eq, rbindS_ok, callR_ok, eCall_eq, runF, startD, eVar, qVar, eC, mIfN, eBin, eUn, eCons, eNil, eTup, eLst, eL, eN, eNN, eBinN, mB, mD, mAnd, mOr, mNot, mIf, eAndV, eOrV, eNot, eChain, eChain3, eSl, oNone, oSome, sSeq, Fl.then, sNext, sDrop, sRet, sRetN, sIf, sSet, sSetN, sFz, fz, sAsg, sPar, sAug, sApp, sExt, sAsgM, gmName, gmSub, gmNil, gmCons, gmTup, gdName, gdNil, gdCons, gdTup, iSeq, seqD, iL, iT, iListD, iTupD, eRg, wipeD, tYesD, dAddF_int, dSub, dLt, dLe, dGt, dGe, dNeg, dSl, dLen, dTuple, dList, dAbs, dInt, dEq, dNe, dEqB_int, dEqB_str, dEqB_bl, dIs, dIsN, dIn, dNotIn, dIsi, tyName, isT, ite_md, ite_rbind, lim, dIx_c0, dIx_c1, dIx_c2, dIxL_c0, dIxL_c1, dIxL_c2, enW], ?_⟩
        refine seqE (δ1 := [.val (.str k), .val (.int m), .val (rowD r), .own ((tl ++ [f]).map enN), .val (rowD b), .val (enW (f :: fr))]) (st1 := none) ?_ ?_
        · have htl' : (tl.map enN).length < 1000000 := by rw [List.length_map]; omega
          have : tl.length < 1000000 := by omega
          simp [mbind_eq, mpure_eq, mofO_some, mofO_none, rbind_ok, rbind_err, rbind_stuck, bindS_eq, rbindS_ok, callR_ok, eCall_eq, runF, startD, eVar, qVar, eC, mIfN, eBin, eUn, eCons, eNil, eTup, eLst, eL, eN, eNN, eBinN, mB, mD, mAnd, mOr, mNot, mIf, eAndV, eOrV, eNot, eChain, eChain3, eSl, oNone, oSome, sSeq, Fl.then, sNext, sDrop, sRet, sRetN, sIf, sSet, sSetN, sFz, fz, sAsg, sPar, sAug, sApp, sExt, sAsgM, gmName, gmSub, gmNil, gmCons, gmTup, gdName, gdNil, gdCons, gdTup, iSeq, seqD, iL, iT, iListD, iTupD, eRg, wipeD, tYesD, dAddF_int, dSub, dLt, dLe, dGt, dGe, dNeg, dSl, dLen, dTuple, dList, dAbs, dInt, dEq, dNe, dEqB_int, dEqB_str, dEqB_bl, dIs, dIsN, dIn, dNotIn, dIsi, tyName, isT, ite_md, ite_rbind, lim, dIx_c0, dIx_c1, dIx_c2, dIxL_c0, dIxL_c1, dIxL_c2, enW, this]
        refine seqE (δ1 := [.val (.str k), .val (.int m), .val (rowD r), .own ((tl ++ [f]).map enN), .val (rowD (stp k b f)), .val (enW (f :: fr))]) (st1 := none) ?_ ?_
        · simp [mbind_eq, mpure_eq, mofO_some, mofO_none, rbind_ok, rbind_err, rbind_stuck, bindS_eq, rbindS_ok, callR_ok, eCall_eq, runF, startD, eVar, qVar, eC, mIfN, eBin, eUn, eCons, eNil, eTup, eLst, eL, eN, eNN, eBinN, mB, mD, mAnd, mOr, mNot, mIf, eAndV, eOrV, eNot, eChain, eChain3, eSl, oNone, oSome, sSeq, Fl.then, sNext, sDrop, sRet, sRetN, sIf, sSet, sSetN, sFz, fz, sAsg, sPar, sAug, sApp, sExt, sAsgM, gmName, gmSub, gmNil, gmCons, gmTup, gdName, gdNil, gdCons, gdTup, iSeq, seqD, iL, iT, iListD, iTupD, eRg, wipeD, tYesD, dAddF_int, dSub, dLt, dLe, dGt, dGe, dNeg, dSl, dLen, dTuple, dList, dAbs, dInt, dEq, dNe, dEqB_int, dEqB_str, dEqB_bl, dIs, dIsN, dIn, dNotIn, dIsi, tyName, isT, ite_md, ite_rbind, lim, dIx_c0, dIx_c1, dIx_c2, dIxL_c0, dIxL_c1, dIxL_c2, enW, enN, qb.stepP f hf]
        refine ⟨[.val (.str k), .val (.int m), .val (rowD r), .own ((tl ++ [f]).map enN), .val (rowD (stp k b f)), .val (enW (endsK k m (stp k b f)))], none, ?_, rfl, stp k b f, tl ++ [f], rest', hs, hr', by rw [List.append_assoc]; exact htl, by rw [List.length_append]; show tl.length + 1 + n = 999; omega, rfl⟩
        simp [mbind_eq, mpure_eq, mofO_some, mofO_none, rbind_ok, rbind_err, rbind_stuck, bindS_eq, rbindS_ok, callR_ok, eCall_eq, runF, startD, eVar, qVar, eC, mIfN, eBin, eUn, eCons, eNil, eTup, eLst, eL, eN, eNN, eBinN, mB, mD, mAnd, mOr, mNot, mIf, eAndV, eOrV, eNot, eChain, eChain3, eSl, oNone, oSome, sSeq, Fl.then, sNext, sDrop, sRet, sRetN, sIf, sSet, sSetN, sFz, fz, sAsg, sPar, sAug, sApp, sExt, sAsgM, gmName, gmSub, gmNil, gmCons, gmTup, gdName, gdNil, gdCons, gdTup, iSeq, seqD, iL, iT, iListD, iTupD, eRg, wipeD, tYesD, dAddF_int, dSub, dLt, dLe, dGt, dGe, dNeg, dSl, dLen, dTuple, dList, dAbs, dInt, dEq, dNe, dEqB_int, dEqB_str, dEqB_bl, dIs, dIsN, dIn, dNotIn, dIsi, tyName, isT, ite_md, ite_rbind, lim, dIx_c0, dIx_c1, dIx_c2, dIxL_c0, dIxL_c1, dIxL_c2, qs.ends]
  · rintro _ _ ⟨rfl, a, b, rfl⟩
    rfl
end
end DL

set_option Elab.async false
set_option linter.all false
set_option maxRecDepth 100000
set_option maxHeartbeats 4000000
namespace DL
open PySem PySem.Spec PyProof.Rows L2
theorem io_enW (w : List Nat) : io (enW w) = true := by
  unfold enW io
  have : w.map enN = (w.map fun (j : Nat) => (j : Int)).map D.int := by rw [List.map_map]; rfl
  rw [this]; exact io_ints _
theorem dep_enW (w : List Nat) : dep (enW w) = 1 := by
  unfold enW dep
  have : w.map enN = (w.map fun (j : Nat) => (j : Int)).map D.int := by rw [List.map_map]; rfl
  rw [this, dep_ints]
theorem lenss_ints : ∀ l : List Int, lenss (l.map D.int) = true
  | [] => rfl
  | a :: l => by rw [List.map_cons]; unfold lenss; rw [lenss_ints l]; rfl
theorem lens_enW {w : List Nat} (h : w.length ≤ lim) : lens (enW w) = true := by
  unfold enW lens
  have : w.map enN = (w.map fun (j : Nat) => (j : Int)).map D.int := by rw [List.map_map]; rfl
  rw [this, lenss_ints, Bool.and_true]
  exact decide_eq_true (by rw [List.length_map, List.length_map]; exact h)
theorem same_enW {w : List Nat} (h : w.length ≤ lim) : F_law_same 6 [enW w, enW w] none = .ok (.bl true) none := same_io 5 _ (io_enW w) (lens_enW h) (by rw [dep_enW]; decide)
theorem same_int (i : Int) : F_law_same 6 [.int i, .int i] none = .ok (.bl true) none := same_io 5 _ rfl rfl (by unfold dep; decide)
theorem io_rowD (r : Row) : io (rowD r) = true := by unfold rowD io; exact io_ints r
theorem dep_rowD (r : Row) : dep (rowD r) = 1 := by unfold rowD dep; rw [dep_ints]
theorem lens_rowD {r : Row} (h : r.length ≤ lim) : lens (rowD r) = true := by
  unfold rowD lens
  rw [lenss_ints, Bool.and_true]
  exact decide_eq_true (by rw [List.length_map]; exact h)
theorem same_rowD {r : Row} (h : r.length ≤ lim) : F_law_same 6 [rowD r, rowD r] none = .ok (.bl true) none := same_io 5 _ (io_rowD r) (lens_rowD h) (by rw [dep_rowD]; decide)
theorem ios_rows : ∀ l : List Row, ios (l.map rowD) = true
  | [] => rfl
  | r :: l => by rw [List.map_cons]; unfold ios; rw [io_rowD, ios_rows l]; rfl
theorem deps_rows : ∀ l : List Row, deps (l.map rowD) ≤ 1
  | [] => Nat.zero_le _
  | r :: l => by rw [List.map_cons]; unfold deps; rw [dep_rowD]; exact Nat.max_le.mpr ⟨Nat.le_refl _, deps_rows l⟩
theorem lenss_rows : ∀ l : List Row, (∀ r ∈ l, r.length ≤ lim) → lenss (l.map rowD) = true
  | [], _ => rfl
  | r :: l, h => by
    rw [List.map_cons]; unfold lenss
    rw [lens_rowD (h r List.mem_cons_self), lenss_rows l fun x hx => h x (List.mem_cons_of_mem _ hx)]; rfl
theorem same_rows {l : List Row} (h : ∀ r ∈ l, r.length ≤ lim) (hl : l.length ≤ lim) : F_law_same 6 [.tup (l.map rowD), .tup (l.map rowD)] none = .ok (.bl true) none := by
  refine same_io 5 _ (by unfold io; exact ios_rows l) ?_ (by unfold dep; have := deps_rows l; omega)
  unfold lens
  rw [lenss_rows l h, Bool.and_true]
  exact decide_eq_true (by rw [List.length_map]; exact hl)
section
variable {k : Str} {m : Nat} (c : Case k m)
include c
omit c in
theorem len_lt {a b : Row} (ha : RowOk k m a) (hb : RowOk k m b) : decide (((least k m a).length : Int) < ((least k m b).length : Int)) = decide (lenK k a < lenK k b) := by rw [ha.len_, hb.len_]
/-- one turn of the law -/
theorem Case.turn {ad : Addr} {U : List Row} (hU : U = sortL (rowsU k m)) (hUl : U.length ≤ 1000) (hU0 : 0 < U.length) (t : Nat) {s : Option Dr} (hs : DrI ad s) (x0 o7 o8 o9 o10 o11 : Slot) :
    ∃ δ2 st2, (sSeq (sSet 7 (eCallS 3 (F_law_word) (eCons (eVar 1) (eCons (eVar 3) (eCons (eC (.int 10)) (eNil)))))) (sSeq (sSet 8 (eCall 3 (F_law_window) (eCons (eVar 2) (eCons (eVar 3) (eCons (eVar 7) (eNil)))))) (sSeq (sIf (mB (eBin dGt (qVar 6) (eC (.int 3)))) (sSeq (sSet 8 (eBin dIx (qVar 5) (eCallS 2 (F_law_draw) (eCons (eVar 1) (eCons (eN dLen (eCons (qVar 5) (eNil))) (eNil)))))) (sSet 7 (eCall 3 (F_word_of) (eCons (eVar 2) (eCons (eVar 3) (eCons (eVar 8) (eNil))))))) (sNext)) (sSeq (sSet 9 (eCall 2 (F_law_normal) (eCons (eVar 4) (eCons (eVar 7) (eNil))))) (sSeq (sIf (mOr (mNot (mB (eCall 2 (F_law_same 6) (eCons (eCall 3 (F_word_of) (eCons (eVar 2) (eCons (eVar 3) (eCons (eVar 8) (eNil))))) (eCons (eVar 9) (eNil)))))) (mNot (mB (eCall 2 (F_law_same 6) (eCons (eCall 3 (F_length_of) (eCons (eVar 2) (eCons (eVar 3) (eCons (eVar 8) (eNil))))) (eCons (eN dLen (eCons (qVar 9) (eNil))) (eNil))))))) (sRet (eC (.bl false))) (sNext)) (sSeq (sSetN 10 (eComp [12] (iR1 (eVar 3)) (gdName 12) (mB (eBin dLt (eN dLen (eCons (eCall 2 (F_law_normal) (eCons (eVar 4) (eCons (eBin dAddF (qVar 9) (eTup (eCons (eVar 12) (eNil)))) (eNil)))) (eNil))) (eN dLen (eCons (qVar 9) (eNil))))) (eVar 12))) (sSeq (sSetN 11 (eComp [12] (iR1 (eVar 3)) (gdName 12) (mB (eBin dLt (eN dLen (eCons (eCall 2 (F_law_normal) (eCons (eVar 4) (eCons (eBin dAddF (eTup (eCons (eVar 12) (eNil))) (qVar 9)) (eNil)))) (eNil))) (eN dLen (eCons (qVar 9) (eNil))))) (eVar 12))) (sSeq (sIf (mOr (mNot (mB (eCall 2 (F_law_same 6) (eCons (eCall 3 (F_ends_of) (eCons (eVar 2) (eCons (eVar 3) (eCons (eVar 8) (eNil))))) (eCons (eN dTuple (eCons (qVar 10) (eNil))) (eNil)))))) (mNot (mB (eCall 2 (F_law_same 6) (eCons (eCall 3 (F_beginnings_of) (eCons (eVar 2) (eCons (eVar 3) (eCons (eVar 8) (eNil))))) (eCons (eN dTuple (eCons (qVar 11) (eNil))) (eNil))))))) (sRet (eC (.bl false))) (sNext)) (sIf (mOr (mNot (mB (eCall 2 (F_law_same 6) (eCons (eCall 3 (F_window_of) (eCons (eVar 2) (eCons (eVar 3) (eCons (eVar 9) (eNil))))) (eCons (eVar 8) (eNil)))))) (mB (eBin dNe (eCall 3 (F_law_window) (eCons (eVar 2) (eCons (eVar 3) (eCons (eVar 9) (eNil))))) (qVar 8)))) (sRet (eC (.bl false))) (sNext))))))))))
      [x0, .val (.ref ad), .val (.str k), .val (.int m), .val (wD m (edgesK k m)), .val (.lst (U.map rowD)), .val (enN t), o7, o8, o9, o10, o11, .un] s = .ok (.nx δ2) st2 ∧
      DrI ad st2 ∧ ∃ p6 p7 p8 p9 p10 p11, δ2 = [x0, .val (.ref ad), .val (.str k), .val (.int m), .val (wD m (edgesK k m)), .val (.lst (U.map rowD)), p6, p7, p8, p9, p10, p11, .un] := by
  have hm := c.m1
  obtain ⟨w, s1, e1, hw, hwl, i1⟩ := lw_word hs (m := m) (most := 10) (by omega) (by omega) (by omega)
  have e1' : F_law_word [.ref ad, .int m, .int 10] s = .ok (enW w) s1 := e1
  refine seqE (δ1 := [x0, .val (.ref ad), .val (.str k), .val (.int m), .val (wD m (edgesK k m)), .val (.lst (U.map rowD)), .val (enN t), .val (enW w), o8, o9, o10, o11, .un]) (st1 := s1) (by simp [mbind_eq, mpure_eq, mofO_some, mofO_none, rbind_ok, rbind_err, rbind_stuck, bindS_eq, rbindS_ok, callR_ok, eCall_eq, runF, startD, eVar, qVar, eC, mIfN, eBin, eUn, eCons, eNil, eTup, eLst, eL, eN, eNN, eBinN, mB, mD, mAnd, mOr, mNot, mIf, eAndV, eOrV, eNot, eChain, eChain3, eSl, oNone, oSome, sSeq, Fl.then, sNext, sDrop, sRet, sRetN, sIf, sSet, sSetN, sFz, fz, sAsg, sPar, sAug, sApp, sExt, sAsgM, gmName, gmSub, gmNil, gmCons, gmTup, gdName, gdNil, gdCons, gdTup, iSeq, seqD, iL, iT, iListD, iTupD, eRg, wipeD, tYesD, dAddF_int, dSub, dLt, dLe, dGt, dGe, dNeg, dSl, dLen, dTuple, dList, dAbs, dInt, dEq, dNe, dEqB_int, dEqB_str, dEqB_bl, dIs, dIsN, dIn, dNotIn, dIsi, tyName, isT, ite_md, ite_rbind, lim, dIx_c0, dIx_c1, dIx_c2, dIxL_c0, dIxL_c1, dIxL_c2, eCallS, e1']) ?_
  refine seqE (δ1 := [x0, .val (.ref ad), .val (.str k), .val (.int m), .val (wD m (edgesK k m)), .val (.lst (U.map rowD)), .val (enN t), .val (enW w), .val (rowD (winOf k m w)), o9, o10, o11, .un]) (st1 := s1) (by simp [mbind_eq, mpure_eq, mofO_some, mofO_none, rbind_ok, rbind_err, rbind_stuck, bindS_eq, rbindS_ok, callR_ok, eCall_eq, runF, startD, eVar, qVar, eC, mIfN, eBin, eUn, eCons, eNil, eTup, eLst, eL, eN, eNN, eBinN, mB, mD, mAnd, mOr, mNot, mIf, eAndV, eOrV, eNot, eChain, eChain3, eSl, oNone, oSome, sSeq, Fl.then, sNext, sDrop, sRet, sRetN, sIf, sSet, sSetN, sFz, fz, sAsg, sPar, sAug, sApp, sExt, sAsgM, gmName, gmSub, gmNil, gmCons, gmTup, gdName, gdNil, gdCons, gdTup, iSeq, seqD, iL, iT, iListD, iTupD, eRg, wipeD, tYesD, dAddF_int, dSub, dLt, dLe, dGt, dGe, dNeg, dSl, dLen, dTuple, dList, dAbs, dInt, dEq, dNe, dEqB_int, dEqB_str, dEqB_bl, dIs, dIsN, dIn, dNotIn, dIsi, tyName, isT, ite_md, ite_rbind, lim, dIx_c0, dIx_c1, dIx_c2, dIxL_c0, dIxL_c1, dIxL_c2, c.lwin hw]) ?_
  refine seqEE (P1 := fun δ s => DrI ad s ∧ ∃ w r, (∀ x ∈ w, x < m) ∧ w.length ≤ 100 ∧ r ∈ rowsU k m ∧ winOf k m w = r ∧ δ = [x0, .val (.ref ad), .val (.str k), .val (.int m), .val (wD m (edgesK k m)), .val (.lst (U.map rowD)), .val (enN t), .val (enW w), .val (rowD r), o9, o10, o11, .un]) ?_ ?_
  · by_cases ht : 3 < t
    · obtain ⟨v, s2, e2, hv, i2⟩ := lw_drawN i1 (n := U.length) hU0 (by omega)
      have hr : U.getD v [] ∈ rowsU k m := (sortL_perm _).mem_iff.mp (by rw [← hU]; exact getD_mem hv)
      have q := c.row _ hr
      have hx := dIxL_map (f := rowD) ([] : Row) hv
      have hword := c.word hr
      refine ⟨[x0, .val (.ref ad), .val (.str k), .val (.int m), .val (wD m (edgesK k m)), .val (.lst (U.map rowD)), .val (enN t), .val (enW (least k m (U.getD v []))), .val (rowD (U.getD v [])), o9, o10, o11, .un], s2, if_t (st1 := s1) (by simp [mbind_eq, mpure_eq, mofO_some, mofO_none, rbind_ok, rbind_err, rbind_stuck, bindS_eq, rbindS_ok, callR_ok, eCall_eq, runF, startD, eVar, qVar, eC, mIfN, eBin, eUn, eCons, eNil, eTup, eLst, eL, eN, eNN, eBinN, mB, mD, mAnd, mOr, mNot, mIf, eAndV, eOrV, eNot, eChain, eChain3, eSl, oNone, oSome, sSeq, Fl.then, sNext, sDrop, sRet, sRetN, sIf, sSet, sSetN, sFz, fz, sAsg, sPar, sAug, sApp, sExt, sAsgM, gmName, gmSub, gmNil, gmCons, gmTup, gdName, gdNil, gdCons, gdTup, iSeq, seqD, iL, iT, iListD, iTupD, eRg, wipeD, tYesD, dAddF_int, dSub, dLt, dLe, dGt, dGe, dNeg, dSl, dLen, dTuple, dList, dAbs, dInt, dEq, dNe, dEqB_int, dEqB_str, dEqB_bl, dIs, dIsN, dIn, dNotIn, dIsi, tyName, isT, ite_md, ite_rbind, lim, dIx_c0, dIx_c1, dIx_c2, dIxL_c0, dIxL_c1, dIxL_c2, enN]; omega) (seq (δ1 := [x0, .val (.ref ad), .val (.str k), .val (.int m), .val (wD m (edgesK k m)), .val (.lst (U.map rowD)), .val (enN t), .val (enW w), .val (rowD (U.getD v [])), o9, o10, o11, .un]) (st1 := s2) ?_ ?_), i2, least k m (U.getD v []), U.getD v [], q.let_, q.nums.2, hr, q.win, rfl⟩
      · simp only [List.getD_eq_getElem?_getD] at hx
        simp [mbind_eq, mpure_eq, mofO_some, mofO_none, rbind_ok, rbind_err, rbind_stuck, bindS_eq, rbindS_ok, callR_ok, eCall_eq, runF, startD, eVar, qVar, eC, mIfN, eBin, eUn, eCons, eNil, eTup, eLst, eL, eN, eNN, eBinN, mB, mD, mAnd, mOr, mNot, mIf, eAndV, eOrV, eNot, eChain, eChain3, eSl, oNone, oSome, sSeq, Fl.then, sNext, sDrop, sRet, sRetN, sIf, sSet, sSetN, sFz, fz, sAsg, sPar, sAug, sApp, sExt, sAsgM, gmName, gmSub, gmNil, gmCons, gmTup, gdName, gdNil, gdCons, gdTup, iSeq, seqD, iL, iT, iListD, iTupD, eRg, wipeD, tYesD, dAddF_int, dSub, dLt, dLe, dGt, dGe, dNeg, dSl, dLen, dTuple, dList, dAbs, dInt, dEq, dNe, dEqB_int, dEqB_str, dEqB_bl, dIs, dIsN, dIn, dNotIn, dIsi, tyName, isT, ite_md, ite_rbind, lim, dIx_c0, dIx_c1, dIx_c2, dIxL_c0, dIxL_c1, dIxL_c2, eCallS, e2, hx]
      · simp only [List.getD_eq_getElem?_getD] at hword
        simp [mbind_eq, mpure_eq, mofO_some, mofO_none, rbind_ok, rbind_err, rbind_stuck, bindS_eq, rbindS_ok, callR_ok, eCall_eq, runF, startD, eVar, qVar, eC, mIfN, eBin, eUn, eCons, eNil, eTup, eLst, eL, eN, eNN, eBinN, mB, mD, mAnd, mOr, mNot, mIf, eAndV, eOrV, eNot, eChain, eChain3, eSl, oNone, oSome, sSeq, Fl.then, sNext, sDrop, sRet, sRetN, sIf, sSet, sSetN, sFz, fz, sAsg, sPar, sAug, sApp, sExt, sAsgM, gmName, gmSub, gmNil, gmCons, gmTup, gdName, gdNil, gdCons, gdTup, iSeq, seqD, iL, iT, iListD, iTupD, eRg, wipeD, tYesD, dAddF_int, dSub, dLt, dLe, dGt, dGe, dNeg, dSl, dLen, dTuple, dList, dAbs, dInt, dEq, dNe, dEqB_int, dEqB_str, dEqB_bl, dIs, dIsN, dIn, dNotIn, dIsi, tyName, isT, ite_md, ite_rbind, lim, dIx_c0, dIx_c1, dIx_c2, dIxL_c0, dIxL_c1, dIxL_c2, hword]
    · refine ⟨_, s1, if_f (st1 := s1) (by simp [mbind_eq, mpure_eq, mofO_some, mofO_none, rbind_ok, rbind_err, rbind_stuck, bindS_eq, rbindS_ok, callR_ok, eCall_eq, runF, startD, eVar, qVar, eC, mIfN, eBin, eUn, eCons, eNil, eTup, eLst, eL, eN, eNN, eBinN, mB, mD, mAnd, mOr, mNot, mIf, eAndV, eOrV, eNot, eChain, eChain3, eSl, oNone, oSome, sSeq, Fl.then, sNext, sDrop, sRet, sRetN, sIf, sSet, sSetN, sFz, fz, sAsg, sPar, sAug, sApp, sExt, sAsgM, gmName, gmSub, gmNil, gmCons, gmTup, gdName, gdNil, gdCons, gdTup, iSeq, seqD, iL, iT, iListD, iTupD, eRg, wipeD, tYesD, dAddF_int, dSub, dLt, dLe, dGt, dGe, dNeg, dSl, dLen, dTuple, dList, dAbs, dInt, dEq, dNe, dEqB_int, dEqB_str, dEqB_bl, dIs, dIsN, dIn, dNotIn, dIsi, tyName, isT, ite_md, ite_rbind, lim, dIx_c0, dIx_c1, dIx_c2, dIxL_c0, dIxL_c1, dIxL_c2, enN]; omega) rfl, i1, w, winOf k m w, hw, by omega, c.win_mem hw, rfl, rfl⟩
  · rintro _ s2 ⟨i2, w, r, hw, hwl, hr, rfl, rfl⟩
    have q := c.row _ hr
    generalize hr0 : winOf k m w = r at *
    have hL1 : (least k m r).length ≤ lim := Nat.le_trans q.nums.2 (by decide)
    have hn1 := c.normal hw (Nat.le_trans hwl (by decide)) none
    rw [hr0] at hn1
    have dl : ∀ x : List Nat, dLen [enW x] = some (.int x.length) := fun x => by unfold enW dLen; dsimp only; rw [List.length_map]
    have hlen : F_length_of [.str k, .int m, rowD r] none = .ok (.int ((least k m r).length : Nat)) none := by rw [q.len, q.len_]
    refine seqE (δ1 := [x0, .val (.ref ad), .val (.str k), .val (.int m), .val (wD m (edgesK k m)), .val (.lst (U.map rowD)), .val (enN t), .val (enW w), .val (rowD r), .val (enW (least k m r)), o10, o11, .un]) (st1 := s2) (by simp [mbind_eq, mpure_eq, mofO_some, mofO_none, rbind_ok, rbind_err, rbind_stuck, bindS_eq, rbindS_ok, callR_ok, eCall_eq, runF, startD, eVar, qVar, eC, mIfN, eBin, eUn, eCons, eNil, eTup, eLst, eL, eN, eNN, eBinN, mB, mD, mAnd, mOr, mNot, mIf, eAndV, eOrV, eNot, eChain, eChain3, eSl, oNone, oSome, sSeq, Fl.then, sNext, sDrop, sRet, sRetN, sIf, sSet, sSetN, sFz, fz, sAsg, sPar, sAug, sApp, sExt, sAsgM, gmName, gmSub, gmNil, gmCons, gmTup, gdName, gdNil, gdCons, gdTup, iSeq, seqD, iL, iT, iListD, iTupD, eRg, wipeD, tYesD, dAddF_int, dSub, dLt, dLe, dGt, dGe, dNeg, dSl, dLen, dTuple, dList, dAbs, dInt, dEq, dNe, dEqB_int, dEqB_str, dEqB_bl, dIs, dIsN, dIn, dNotIn, dIsi, tyName, isT, ite_md, ite_rbind, lim, dIx_c0, dIx_c1, dIx_c2, dIxL_c0, dIxL_c1, dIxL_c2, hn1]) ?_
    have EVN : ∀ (δ : DEnv) (st : Option Dr) (fs : DEnv → Md (List D)) (l : List D), eN dLen fs δ st = (fs δ st).bind fun ds => Md.ofO (dLen ds) := fun _ _ _ _ => rfl
    refine seqE (δ1 := [x0, .val (.ref ad), .val (.str k), .val (.int m), .val (wD m (edgesK k m)), .val (.lst (U.map rowD)), .val (enN t), .val (enW w), .val (rowD r), .val (enW (least k m r)), o10, o11, .un]) (st1 := s2) (by simp [mbind_eq, mpure_eq, mofO_some, mofO_none, rbind_ok, rbind_err, rbind_stuck, bindS_eq, rbindS_ok, callR_ok, eCall_eq, runF, startD, eVar, qVar, eC, mIfN, eBin, eUn, eCons, eNil, eTup, eLst, eL, eN, eNN, eBinN, mB, mD, mAnd, mOr, mNot, mIf, eAndV, eOrV, eNot, eChain, eChain3, eSl, oNone, oSome, sSeq, Fl.then, sNext, sDrop, sRet, sRetN, sIf, sSet, sSetN, sFz, fz, sAsg, sPar, sAug, sApp, sExt, sAsgM, gmName, gmSub, gmNil, gmCons, gmTup, gdName, gdNil, gdCons, gdTup, iSeq, seqD, iL, iT, iListD, iTupD, eRg, wipeD, tYesD, dAddF_int, dSub, dLt, dLe, dGt, dGe, dNeg, dSl, dTuple, dList, dAbs, dInt, dEq, dNe, dEqB_int, dEqB_str, dEqB_bl, dIs, dIsN, dIn, dNotIn, dIsi, tyName, isT, ite_md, ite_rbind, lim, dIx_c0, dIx_c1, dIx_c2, dIxL_c0, dIxL_c1, dIxL_c2, c.word hr, same_enW hL1, hlen, dl, same_int]) ?_
    have lm : ∀ s < m, ∀ x ∈ least k m r ++ [s], x < m := fun s hs x hx => (List.mem_append.mp hx).elim (q.let_ x) (fun z => by rw [List.mem_singleton.mp z]; exact hs)
    have lm2 : ∀ s < m, ∀ x ∈ s :: least k m r, x < m := fun s hs x hx => (List.mem_cons.mp hx).elim (fun z => by rw [z]; exact hs) (q.let_ x)
    have hcap : (least k m r).length ≤ 100 := q.nums.2
    refine seqE (setN (d := (endsK k m r).map enN) (st1 := s2) (eComp_map (p := fallK k r) (enc := enN) (iR1_nat (n := m) rfl (Nat.le_trans hm.2 (by decide))) (by rw [List.length_range]; exact Nat.le_trans hm.2 (by decide)) fun s hs => ⟨_, rfl, ?_, fun _ => rfl⟩)) ?_
    · have hs' : s < m := List.mem_range.mp hs
      have ha : dAddF (enW (least k m r)) (.tup [.int (s : Nat)]) = some (enW (least k m r ++ [s])) := by
        unfold enW
        rw [dAdd_tup (by rw [List.length_map]; show _ + 1 ≤ 1000000; omega), List.map_append]; rfl
      have hn2 := c.normal (lm s hs') (by rw [List.length_append]; show _ + 1 ≤ 1000000; omega) none
      have hwin : winOf k m (least k m r ++ [s]) = stp k r s := by
        have := q.win
        unfold winOf at this ⊢
        rw [List.foldl_append, this]; rfl
      rw [hwin] at hn2
      have hf := q.fal s hs'
      have q2 := c.row _ (q.clo s hs')
      rw [q2.len_, q.len_] at hf
      simp [mbind_eq, mpure_eq, mofO_some, mofO_none, rbind_ok, rbind_err, rbind_stuck, bindS_eq, rbindS_ok, callR_ok, eCall_eq, runF, startD, eVar, qVar, eC, mIfN, eBin, eUn, eCons, eNil, eTup, eLst, eL, eN, eNN, eBinN, mB, mD, mAnd, mOr, mNot, mIf, eAndV, eOrV, eNot, eChain, eChain3, eSl, oNone, oSome, sSeq, Fl.then, sNext, sDrop, sRet, sRetN, sIf, sSet, sSetN, sFz, fz, sAsg, sPar, sAug, sApp, sExt, sAsgM, gmName, gmSub, gmNil, gmCons, gmTup, gdName, gdNil, gdCons, gdTup, iSeq, seqD, iL, iT, iListD, iTupD, eRg, wipeD, tYesD, dAddF_int, dSub, dLt, dLe, dGt, dGe, dNeg, dSl, dTuple, dList, dAbs, dInt, dEq, dNe, dEqB_int, dEqB_str, dEqB_bl, dIs, dIsN, dIn, dNotIn, dIsi, tyName, isT, ite_md, ite_rbind, lim, dIx_c0, dIx_c1, dIx_c2, dIxL_c0, dIxL_c1, dIxL_c2, enN, ha, hn2, dl]
      rw [← hf]
      simp
    refine seqE (setN (d := (endsK k m (invR r)).map enN) (st1 := s2) (eComp_map (p := fallK k (invR r)) (enc := enN) (iR1_nat (n := m) rfl (Nat.le_trans hm.2 (by decide))) (by rw [List.length_range]; exact Nat.le_trans hm.2 (by decide)) fun s hs => ⟨_, rfl, ?_, fun _ => rfl⟩)) ?_
    · have hs' : s < m := List.mem_range.mp hs
      have ha : dAddF (.tup [.int (s : Nat)]) (enW (least k m r)) = some (enW (s :: least k m r)) := by
        unfold enW
        rw [dAdd_tup (by rw [List.length_map]; show 1 + _ ≤ 1000000; omega)]; rfl
      have hn2 := c.normal (lm2 s hs') (by rw [List.length_cons]; show _ + 1 ≤ 1000000; omega) none
      have hf := q.beg s hs'
      have q2 := c.row _ (c.win_mem (lm2 s hs'))
      rw [q2.len_, q.len_] at hf
      simp [mbind_eq, mpure_eq, mofO_some, mofO_none, rbind_ok, rbind_err, rbind_stuck, bindS_eq, rbindS_ok, callR_ok, eCall_eq, runF, startD, eVar, qVar, eC, mIfN, eBin, eUn, eCons, eNil, eTup, eLst, eL, eN, eNN, eBinN, mB, mD, mAnd, mOr, mNot, mIf, eAndV, eOrV, eNot, eChain, eChain3, eSl, oNone, oSome, sSeq, Fl.then, sNext, sDrop, sRet, sRetN, sIf, sSet, sSetN, sFz, fz, sAsg, sPar, sAug, sApp, sExt, sAsgM, gmName, gmSub, gmNil, gmCons, gmTup, gdName, gdNil, gdCons, gdTup, iSeq, seqD, iL, iT, iListD, iTupD, eRg, wipeD, tYesD, dAddF_int, dSub, dLt, dLe, dGt, dGe, dNeg, dSl, dTuple, dList, dAbs, dInt, dEq, dNe, dEqB_int, dEqB_str, dEqB_bl, dIs, dIsN, dIn, dNotIn, dIsi, tyName, isT, ite_md, ite_rbind, lim, dIx_c0, dIx_c1, dIx_c2, dIxL_c0, dIxL_c1, dIxL_c2, enN, ha, hn2, dl]
      rw [← hf]
      simp
    have el : ∀ x : Row, (endsK k m x).length ≤ lim := fun x => by
      unfold endsK
      have := List.length_filter_le (fallK k x) (List.range m)
      rw [List.length_range] at this
      show _ ≤ 1000000
      omega
    refine seqE (δ1 := [x0, .val (.ref ad), .val (.str k), .val (.int m), .val (wD m (edgesK k m)), .val (.lst (U.map rowD)), .val (enN t), .val (enW w), .val (rowD r), .val (enW (least k m r)), .own ((endsK k m r).map enN), .own ((endsK k m (invR r)).map enN), .un]) (st1 := s2) ?_ ?_
    · have e1 : ∀ x : List Nat, D.tup (x.map enN) = enW x := fun _ => rfl
      simp [mbind_eq, mpure_eq, mofO_some, mofO_none, rbind_ok, rbind_err, rbind_stuck, bindS_eq, rbindS_ok, callR_ok, eCall_eq, runF, startD, eVar, qVar, eC, mIfN, eBin, eUn, eCons, eNil, eTup, eLst, eL, eN, eNN, eBinN, mB, mD, mAnd, mOr, mNot, mIf, eAndV, eOrV, eNot, eChain, eChain3, eSl, oNone, oSome, sSeq, Fl.then, sNext, sDrop, sRet, sRetN, sIf, sSet, sSetN, sFz, fz, sAsg, sPar, sAug, sApp, sExt, sAsgM, gmName, gmSub, gmNil, gmCons, gmTup, gdName, gdNil, gdCons, gdTup, iSeq, seqD, iL, iT, iListD, iTupD, eRg, wipeD, tYesD, dAddF_int, dSub, dLt, dLe, dGt, dGe, dNeg, dSl, dTuple, dList, dAbs, dInt, dEq, dNe, dEqB_int, dEqB_str, dEqB_bl, dIs, dIsN, dIn, dNotIn, dIsi, tyName, isT, ite_md, ite_rbind, lim, dIx_c0, dIx_c1, dIx_c2, dIxL_c0, dIxL_c1, dIxL_c2, q.ends, c.begs hr, same_enW (el _), e1]
    · have hw1 := c.lwin q.let_ none
      have hw2 := c.pwin q.let_ (Nat.le_trans hcap (by decide))
      rw [q.win] at hw1 hw2
      have hne : dEqB (rowD r) (rowD r) = some true := by
        have := dEqB_tupI r r
        rw [decide_eq_true rfl] at this
        exact this
      refine ⟨_, s2, if_f (st1 := s2) ?_ rfl, i2, _, _, _, _, _, _, rfl⟩
      simp [mbind_eq, mpure_eq, mofO_some, mofO_none, rbind_ok, rbind_err, rbind_stuck, bindS_eq, rbindS_ok, callR_ok, eCall_eq, runF, startD, eVar, qVar, eC, mIfN, eBin, eUn, eCons, eNil, eTup, eLst, eL, eN, eNN, eBinN, mB, mD, mAnd, mOr, mNot, mIf, eAndV, eOrV, eNot, eChain, eChain3, eSl, oNone, oSome, sSeq, Fl.then, sNext, sDrop, sRet, sRetN, sIf, sSet, sSetN, sFz, fz, sAsg, sPar, sAug, sApp, sExt, sAsgM, gmName, gmSub, gmNil, gmCons, gmTup, gdName, gdNil, gdCons, gdTup, iSeq, seqD, iL, iT, iListD, iTupD, eRg, wipeD, tYesD, dAddF_int, dSub, dLt, dLe, dGt, dGe, dNeg, dSl, dTuple, dList, dAbs, dInt, dEq, dNe, dEqB_int, dEqB_str, dEqB_bl, dIs, dIsN, dIn, dNotIn, dIsi, tyName, isT, ite_md, ite_rbind, lim, dIx_c0, dIx_c1, dIx_c2, dIxL_c0, dIxL_c1, dIxL_c2, hw1, hw2, same_rowD (Nat.le_trans q.nums.1 (by decide)), hne]
end
end DL

set_option Elab.async false
set_option linter.all false
set_option maxRecDepth 100000
set_option maxHeartbeats 4000000
namespace DL
open PySem PySem.Spec PyProof.Rows L2
structure Case' (k : Str) (m : Nat) : Prop where
  c : Case k m
  few : (rowsU k m).length ≤ 1000
theorem law_of (h : ∀ p ∈ cases9, Case' p.1 p.2) : LawOk 1 13 b_law := by
  intro ad ns hns
  have key : RtEx (b_law ((List.replicate 13 Slot.un).set 1 (.val (.ref ad))) (some ⟨ad, ns, 0, 0, 1⟩)) (fun d _ => d = .bl true) := by
    have i0 : DrI ad (some ⟨ad, ns, 0, 0, 1⟩) := ⟨_, rfl, rfl, Int.le_refl _⟩
    obtain ⟨⟨k, m⟩, s1, hp, e1, i1⟩ := lw_kind i0
    obtain ⟨c, few⟩ := h _ hp
    dsimp only at c few e1
    have hrl : ∀ r ∈ sortL (rowsU k m), r.length ≤ lim := fun r hr => Nat.le_trans (c.row r ((sortL_perm _).mem_iff.mp hr)).nums.1 (by decide)
    have hUl : (sortL (rowsU k m)).length ≤ 1000 := by rw [(sortL_perm _).length_eq]; exact few
    have hU0 : 0 < (sortL (rowsU k m)).length := List.length_pos_of_mem ((sortL_perm _).mem_iff.mpr c.plain)
    generalize hU : sortL (rowsU k m) = U at *
    have hall1 := c.all1
    have hall2 := c.all2
    rw [hU] at hall1 hall2
    refine seqX (P1 := fun δ s => s = s1 ∧ δ = [.un, .val (.ref ad), .val (.str k), .val (.int m), .un, .un, .un, .un, .un, .un, .un, .un, .un]) ⟨_, s1, ?_, rfl, rfl⟩ ?_
    · simp [mbind_eq, mpure_eq, mofO_some, mofO_none, rbind_ok, rbind_err, rbind_stuck, bindS_eq, rbindS_ok, callR_ok, eCall_eq, runF, startD, eVar, qVar, eC, mIfN, eBin, eUn, eCons, eNil, eTup, eLst, eL, eN, eNN, eBinN, mB, mD, mAnd, mOr, mNot, mIf, eAndV, eOrV, eNot, eChain, eChain3, eSl, oNone, oSome, sSeq, Fl.then, sNext, sDrop, sRet, sRetN, sIf, sSet, sSetN, sFz, fz, sAsg, sPar, sAug, sApp, sExt, sAsgM, gmName, gmSub, gmNil, gmCons, gmTup, gdName, gdNil, gdCons, gdTup, iSeq, seqD, iL, iT, iListD, iTupD, eRg, wipeD, tYesD, dAddF_int, dSub, dLt, dLe, dGt, dGe, dNeg, dSl, dLen, dTuple, dList, dAbs, dInt, dEq, dNe, dEqB_int, dEqB_str, dEqB_bl, dIs, dIsN, dIn, dNotIn, dIsi, tyName, isT, ite_md, ite_rbind, lim, dIx_c0, dIx_c1, dIx_c2, dIxL_c0, dIxL_c1, dIxL_c2, eCallS, e1]
    rintro _ _ ⟨hst, rfl⟩; rw [hst]
    refine seqX (P1 := fun δ s => s = s1 ∧ δ = [.un, .val (.ref ad), .val (.str k), .val (.int m), .val (wD m (edgesK k m)), .un, .un, .un, .un, .un, .un, .un, .un]) ⟨_, s1, ?_, rfl, rfl⟩ ?_
    · simp [mbind_eq, mpure_eq, mofO_some, mofO_none, rbind_ok, rbind_err, rbind_stuck, bindS_eq, rbindS_ok, callR_ok, eCall_eq, runF, startD, eVar, qVar, eC, mIfN, eBin, eUn, eCons, eNil, eTup, eLst, eL, eN, eNN, eBinN, mB, mD, mAnd, mOr, mNot, mIf, eAndV, eOrV, eNot, eChain, eChain3, eSl, oNone, oSome, sSeq, Fl.then, sNext, sDrop, sRet, sRetN, sIf, sSet, sSetN, sFz, fz, sAsg, sPar, sAug, sApp, sExt, sAsgM, gmName, gmSub, gmNil, gmCons, gmTup, gdName, gdNil, gdCons, gdTup, iSeq, seqD, iL, iT, iListD, iTupD, eRg, wipeD, tYesD, dAddF_int, dSub, dLt, dLe, dGt, dGe, dNeg, dSl, dLen, dTuple, dList, dAbs, dInt, dEq, dNe, dEqB_int, dEqB_str, dEqB_bl, dIs, dIsN, dIn, dNotIn, dIsi, tyName, isT, ite_md, ite_rbind, lim, dIx_c0, dIx_c1, dIx_c2, dIxL_c0, dIxL_c1, dIxL_c2, c.edges]
    rintro _ _ ⟨hst, rfl⟩; rw [hst]
    refine seqX (P1 := fun δ s => s = s1 ∧ δ = [.un, .val (.ref ad), .val (.str k), .val (.int m), .val (wD m (edgesK k m)), .val (.lst (U.map rowD)), .un, .un, .un, .un, .un, .un, .un]) ⟨_, s1, ?_, rfl, rfl⟩ ?_
    · simp [mbind_eq, mpure_eq, mofO_some, mofO_none, rbind_ok, rbind_err, rbind_stuck, bindS_eq, rbindS_ok, callR_ok, eCall_eq, runF, startD, eVar, qVar, eC, mIfN, eBin, eUn, eCons, eNil, eTup, eLst, eL, eN, eNN, eBinN, mB, mD, mAnd, mOr, mNot, mIf, eAndV, eOrV, eNot, eChain, eChain3, eSl, oNone, oSome, sSeq, Fl.then, sNext, sDrop, sRet, sRetN, sIf, sSet, sSetN, sFz, fz, sAsg, sPar, sAug, sApp, sExt, sAsgM, gmName, gmSub, gmNil, gmCons, gmTup, gdName, gdNil, gdCons, gdTup, iSeq, seqD, iL, iT, iListD, iTupD, eRg, wipeD, tYesD, dAddF_int, dSub, dLt, dLe, dGt, dGe, dNeg, dSl, dLen, dTuple, dList, dAbs, dInt, dEq, dNe, dEqB_int, dEqB_str, dEqB_bl, dIs, dIsN, dIn, dNotIn, dIsi, tyName, isT, ite_md, ite_rbind, lim, dIx_c0, dIx_c1, dIx_c2, dIxL_c0, dIxL_c1, dIxL_c2, hall1]
    rintro _ _ ⟨hst, rfl⟩; rw [hst]
    refine seqX (P1 := fun δ s => s = s1 ∧ δ = [.un, .val (.ref ad), .val (.str k), .val (.int m), .val (wD m (edgesK k m)), .val (.lst (U.map rowD)), .un, .un, .un, .un, .un, .un, .un]) ⟨_, s1, ?_, rfl, rfl⟩ ?_
    · simp [mbind_eq, mpure_eq, mofO_some, mofO_none, rbind_ok, rbind_err, rbind_stuck, bindS_eq, rbindS_ok, callR_ok, eCall_eq, runF, startD, eVar, qVar, eC, mIfN, eBin, eUn, eCons, eNil, eTup, eLst, eL, eN, eNN, eBinN, mB, mD, mAnd, mOr, mNot, mIf, eAndV, eOrV, eNot, eChain, eChain3, eSl, oNone, oSome, sSeq, Fl.then, sNext, sDrop, sRet, sRetN, sIf, sSet, sSetN, sFz, fz, sAsg, sPar, sAug, sApp, sExt, sAsgM, gmName, gmSub, gmNil, gmCons, gmTup, gdName, gdNil, gdCons, gdTup, iSeq, seqD, iL, iT, iListD, iTupD, eRg, wipeD, tYesD, dAddF_int, dSub, dLt, dLe, dGt, dGe, dNeg, dSl, dLen, dTuple, dList, dAbs, dInt, dEq, dNe, dEqB_int, dEqB_str, dEqB_bl, dIs, dIsN, dIn, dNotIn, dIsi, tyName, isT, ite_md, ite_rbind, lim, dIx_c0, dIx_c1, dIx_c2, dIxL_c0, dIxL_c1, dIxL_c2, hall2, same_rows hrl (Nat.le_trans hUl (by decide))]
    rintro _ _ ⟨hst, rfl⟩; rw [hst]
    refine seqX (for_exE (enc := enN) (l := List.range 8) (s := ()) (f := fun _ _ => ()) (R := fun _ δ s => DrI ad s ∧ ∃ p6 p7 p8 p9 p10 p11, δ = [.un, .val (.ref ad), .val (.str k), .val (.int m), .val (wD m (edgesK k m)), .val (.lst (U.map rowD)), p6, p7, p8, p9, p10, p11, .un])
      (iR1_nat (n := 8) rfl (by decide)) ⟨i1, .un, .un, .un, .un, .un, .un, rfl⟩ ?_) ?_
    · rintro t ht _ δ s ⟨is, p6, p7, p8, p9, p10, p11, rfl⟩
      exact ⟨_, rfl, c.turn hU.symm hUl hU0 t is .un p7 p8 p9 p10 p11⟩
    · rintro _ _ ⟨is, p6, p7, p8, p9, p10, p11, rfl⟩
      exact ⟨_, _, rfl, rfl⟩
  obtain ⟨d, st, e, rfl⟩ := key
  exact ⟨st, e⟩
end DL

set_option Elab.async false
set_option linter.all false
set_option maxRecDepth 100000
set_option maxHeartbeats 0
namespace DL
open PySem PySem.Spec PyProof.Rows L2
def caseB (k : Str) (m : Nat) : Bool := (rowsU k m).contains (plainR k m) && (tabT k m (plainR k m) == (List.range m).map (simple m)) && resIs (F_law_edges [.str k, .int m] none) (wD m (edgesK k m)) && decide ((edgesK k m).length ≤ 10) && (edgesK k m).all (fun e => okLab e.2.2)
  && resIs (F_plain [.str k, .int m] none) (rowD (plainR k m)) && decide ((plainR k m).length ≤ 5) && decide ((rowsU k m).length ≤ 1000)
theorem case_ok {k : Str} {m : Nat} (hk : k = "A" ∨ k = "B" ∨ k = "D") (hm : 1 ≤ m ∧ m ≤ 4) (hc : chkAll k m = true) (hb : caseB k m = true) (hd : F_line_diagram [.str k, .int m] none = .ok (dDiag m (edgesK k m)) none)
    (h1 : resIs (F_law_all [.str k, .int m] none) (.lst ((sortL (rowsU k m)).map rowD)) = true) (h2 : resIs (F_all_windows [.str k, .int m] none) (.tup ((sortL (rowsU k m)).map rowD)) = true) : Case' k m := by
  unfold caseB at hb
  simp only [Bool.and_eq_true, List.all_eq_true, List.contains_iff_mem, beq_iff_eq, decide_eq_true_eq] at hb
  obtain ⟨⟨⟨⟨⟨⟨⟨b1, b2⟩, b3⟩, b4⟩, b5⟩, b6⟩, b7⟩, b8⟩ := hb
  exact ⟨⟨fun r hr => chkAll_ok hc hr, b1, b2, hk, hm, resIs_eq b3, ⟨b4, b5⟩, resIs_eq h1, resIs_eq h2, resIs_eq b6, hd, b7⟩, b8⟩
theorem eA1_1 : resIs (F_law_all [.str "A", .int (1 : Nat)] none) (.lst ((sortL (rowsU "A" 1)).map rowD)) = true := by kernel_rfl
theorem eA1_2 : resIs (F_all_windows [.str "A", .int (1 : Nat)] none) (.tup ((sortL (rowsU "A" 1)).map rowD)) = true := by kernel_rfl
theorem eA1 : Case' "A" 1 := case_ok (.inl rfl) (by decide) cA1 (by kernel_rfl) (by kernel_rfl) eA1_1 eA1_2
theorem eA2_1 : resIs (F_law_all [.str "A", .int (2 : Nat)] none) (.lst ((sortL (rowsU "A" 2)).map rowD)) = true := by kernel_rfl
theorem eA2_2 : resIs (F_all_windows [.str "A", .int (2 : Nat)] none) (.tup ((sortL (rowsU "A" 2)).map rowD)) = true := by kernel_rfl
theorem eA2 : Case' "A" 2 := case_ok (.inl rfl) (by decide) cA2 (by kernel_rfl) (by kernel_rfl) eA2_1 eA2_2
theorem eA3_1 : resIs (F_law_all [.str "A", .int (3 : Nat)] none) (.lst ((sortL (rowsU "A" 3)).map rowD)) = true := by kernel_rfl
theorem eA3_2 : resIs (F_all_windows [.str "A", .int (3 : Nat)] none) (.tup ((sortL (rowsU "A" 3)).map rowD)) = true := by kernel_rfl
theorem eA3 : Case' "A" 3 := case_ok (.inl rfl) (by decide) cA3 (by kernel_rfl) (by kernel_rfl) eA3_1 eA3_2
theorem eB2_1 : resIs (F_law_all [.str "B", .int (2 : Nat)] none) (.lst ((sortL (rowsU "B" 2)).map rowD)) = true := by kernel_rfl
theorem eB2_2 : resIs (F_all_windows [.str "B", .int (2 : Nat)] none) (.tup ((sortL (rowsU "B" 2)).map rowD)) = true := by kernel_rfl
theorem eB2 : Case' "B" 2 := case_ok (.inr (.inl rfl)) (by decide) cB2 (by kernel_rfl) (by kernel_rfl) eB2_1 eB2_2
theorem eB3_1 : resIs (F_law_all [.str "B", .int (3 : Nat)] none) (.lst ((sortL (rowsU "B" 3)).map rowD)) = true := by kernel_rfl
theorem eB3_2 : resIs (F_all_windows [.str "B", .int (3 : Nat)] none) (.tup ((sortL (rowsU "B" 3)).map rowD)) = true := by kernel_rfl
theorem eB3 : Case' "B" 3 := case_ok (.inr (.inl rfl)) (by decide) cB3 (by kernel_rfl) (by kernel_rfl) eB3_1 eB3_2
theorem eB4_1 : resIs (F_law_all [.str "B", .int (4 : Nat)] none) (.lst ((sortL (rowsU "B" 4)).map rowD)) = true := by kernel_rfl
theorem eB4_2 : resIs (F_all_windows [.str "B", .int (4 : Nat)] none) (.tup ((sortL (rowsU "B" 4)).map rowD)) = true := by kernel_rfl
theorem eB4 : Case' "B" 4 := case_ok (.inr (.inl rfl)) (by decide) cB4 (by kernel_rfl) (by kernel_rfl) eB4_1 eB4_2
theorem eD2_1 : resIs (F_law_all [.str "D", .int (2 : Nat)] none) (.lst ((sortL (rowsU "D" 2)).map rowD)) = true := by kernel_rfl
theorem eD2_2 : resIs (F_all_windows [.str "D", .int (2 : Nat)] none) (.tup ((sortL (rowsU "D" 2)).map rowD)) = true := by kernel_rfl
theorem eD2 : Case' "D" 2 := case_ok (.inr (.inr rfl)) (by decide) cD2 (by kernel_rfl) (by kernel_rfl) eD2_1 eD2_2
theorem eD3_1 : resIs (F_law_all [.str "D", .int (3 : Nat)] none) (.lst ((sortL (rowsU "D" 3)).map rowD)) = true := by kernel_rfl
theorem eD3_2 : resIs (F_all_windows [.str "D", .int (3 : Nat)] none) (.tup ((sortL (rowsU "D" 3)).map rowD)) = true := by kernel_rfl
theorem eD3 : Case' "D" 3 := case_ok (.inr (.inr rfl)) (by decide) cD3 (by kernel_rfl) (by kernel_rfl) eD3_1 eD3_2
theorem eD4_1 : resIs (F_law_all [.str "D", .int (4 : Nat)] none) (.lst ((sortL (rowsU "D" 4)).map rowD)) = true := by kernel_rfl
theorem eD4_2 : resIs (F_all_windows [.str "D", .int (4 : Nat)] none) (.tup ((sortL (rowsU "D" 4)).map rowD)) = true := by kernel_rfl
theorem eD4 : Case' "D" 4 := case_ok (.inr (.inr rfl)) (by decide) cD4 (by kernel_rfl) (by kernel_rfl) eD4_1 eD4_2
theorem law_ok : LawOk 1 13 b_law := law_of fun p hp => by
  unfold cases9 at hp
  simp only [List.mem_cons, List.not_mem_nil, or_false] at hp
  rcases hp with rfl | rfl | rfl | rfl | rfl | rfl | rfl | rfl | rfl
  · exact eA1
  · exact eA2
  · exact eA3
  · exact eB2
  · exact eB3
  · exact eB4
  · exact eD2
  · exact eD3
  · exact eD4
end DL

open PySem PySem.W PyProof.Rows
set_option maxHeartbeats 0 in
theorem PySem.Challenge.cw_mirrorwalk_k64_whole_numbers_tell_length_holds : PySem.Challenge.rw_mirrorwalk_k64_whole_numbers_tell_length.Holds := by
  w_on; o_law; k_head; (case hw => w_witness2)
  k_fill
  refine L2.walk_of (l := PySem.Challenge.rw_mirrorwalk_k64_whole_numbers_tell_length) (n := 63) (k := 8) (x := "script") (CX := fun w => L2.CX (PySem.Challenge.rw_mirrorwalk_k64_whole_numbers_tell_length).prog w) (sp := fun w => DL.spLaw _) rfl (by decide) rfl ⟨rfl, by decide, by decide⟩ (fun w h Y => PySem.W.kIn_of Y) ?F (fun _ _ a ns hl _ hS => ⟨a, ns, rfl, hS, hl, fun _ => rfl⟩) (fun _ _ _ _ _ h => by obtain ⟨_, _, _, _, _, _, _, _, _, _, _, _, z⟩ := h; exact z)
  case F =>
    intro w mg fa h KX G hmg
    refine' DL.all_mk KX G hmg ?aC_BadDiagram ?aC_BadWord ?aC_Diagram ?a_law_all ?l_law_all ?c_law_all ?k_law_all ?a_law_draw ?l_law_draw ?c_law_draw ?k_law_draw ?a_law_edges ?l_law_edges ?c_law_edges ?k_law_edges ?a_law_kind ?l_law_kind ?c_law_kind ?k_law_kind ?a_law_plus ?l_law_plus ?c_law_plus ?k_law_plus ?a_law_slope ?l_law_slope ?c_law_slope ?k_law_slope ?a_law_times ?l_law_times ?c_law_times ?k_law_times ?a_law_taken ?l_law_taken ?c_law_taken ?k_law_taken ?a_law_mirrored ?l_law_mirrored ?c_law_mirrored ?k_law_mirrored ?a_law_moved ?l_law_moved ?c_law_moved ?k_law_moved ?a_law_sign ?l_law_sign ?c_law_sign ?k_law_sign ?a_law_side ?l_law_side ?c_law_side ?k_law_side ?a_law_simple ?l_law_simple ?c_law_simple ?k_law_simple ?a_law_normal ?l_law_normal ?c_law_normal ?k_law_normal ?a_law_same ?l_law_same ?c_law_same ?k_law_same ?a_law_step ?l_law_step ?c_law_step ?k_law_step ?a_law_window ?l_law_window ?c_law_window ?k_law_window ?a_law_word ?l_law_word ?c_law_word ?k_law_word ?a_is_integer ?l_is_integer ?c_is_integer ?k_is_integer ?a_look_at_kind ?l_look_at_kind ?c_look_at_kind ?k_look_at_kind ?a_size_of ?l_size_of ?c_size_of ?k_size_of ?a_plain ?l_plain ?c_plain ?k_plain ?a_is_window ?l_is_window ?c_is_window ?k_is_window ?a_plain_row ?l_plain_row ?c_plain_row ?k_plain_row ?a_signed_numbers ?l_signed_numbers ?c_signed_numbers ?k_signed_numbers ?a_all_windows ?l_all_windows ?c_all_windows ?k_all_windows ?a_falls ?l_falls ?c_falls ?k_falls ?a_look_at_window ?l_look_at_window ?c_look_at_window ?k_look_at_window ?a_ends_of ?l_ends_of ?c_ends_of ?k_ends_of ?a_turned_back ?l_turned_back ?c_turned_back ?k_turned_back ?a_beginnings_of ?l_beginnings_of ?c_beginnings_of ?k_beginnings_of ?a_pairs_out_of_order ?l_pairs_out_of_order ?c_pairs_out_of_order ?k_pairs_out_of_order ?a_length_of ?l_length_of ?c_length_of ?k_length_of ?a_is_edge ?l_is_edge ?c_is_edge ?k_is_edge ?a_Diagram___init ?i_Diagram___init ?l_Diagram___init ?c_Diagram___init ?k_Diagram___init ?a_line_diagram ?l_line_diagram ?c_line_diagram ?k_line_diagram ?a_is_word ?l_is_word ?c_is_word ?k_is_word ?a_look_at_word ?l_look_at_word ?c_look_at_word ?k_look_at_word ?a_stepped ?l_stepped ?c_stepped ?k_stepped ?a_window_of ?l_window_of ?c_window_of ?k_window_of ?a_word_of ?l_word_of ?c_word_of ?k_word_of ?a_law_draws ?l_law_draws ?c_law_draws ?k_law_draws ?a_law ?l_law ?c_law ?k_law ?z_abs ?z_all ?z_bool ?z_enumerate ?z_int ?z_isinstance ?z_len ?z_list ?z_max ?z_min ?z_range ?z_sorted ?z_str ?z_sum ?z_tuple ?x_BadDiagram ?kC_BadDiagram ?bC_BadDiagram ?tC_BadDiagram ?x_BadWord ?kC_BadWord ?bC_BadWord ?tC_BadWord ?pg_Diagram ?hd_Diagram ?po_Diagram ?sa_Diagram ?na_Diagram_labels ?na_Diagram_size ?mk_Diagram ?kC_Diagram ?q_KINDS ?w_KINDS ?q_LABELS ?w_LABELS ?q_MOST ?q_MOST_LETTERS ?q_MOST_MIRRORS DL.law_ok
    (case aC_BadDiagram => k_is)
    (case aC_BadWord => k_is)
    (case aC_Diagram => k_is)
    (case a_law_all => k_is)
    (case l_law_all => k_is)
    (case c_law_all => k_is)
    (case k_law_all => k_is)
    (case a_law_draw => k_is)
    (case l_law_draw => k_is)
    (case c_law_draw => k_is)
    (case k_law_draw => k_is)
    (case a_law_edges => k_is)
    (case l_law_edges => k_is)
    (case c_law_edges => k_is)
    (case k_law_edges => k_is)
    (case a_law_kind => k_is)
    (case l_law_kind => k_is)
    (case c_law_kind => k_is)
    (case k_law_kind => k_is)
    (case a_law_plus => k_is)
    (case l_law_plus => k_is)
    (case c_law_plus => k_is)
    (case k_law_plus => k_is)
    (case a_law_slope => k_is)
    (case l_law_slope => k_is)
    (case c_law_slope => k_is)
    (case k_law_slope => k_is)
    (case a_law_times => k_is)
    (case l_law_times => k_is)
    (case c_law_times => k_is)
    (case k_law_times => k_is)
    (case a_law_taken => k_is)
    (case l_law_taken => k_is)
    (case c_law_taken => k_is)
    (case k_law_taken => k_is)
    (case a_law_mirrored => k_is)
    (case l_law_mirrored => k_is)
    (case c_law_mirrored => k_is)
    (case k_law_mirrored => k_is)
    (case a_law_moved => k_is)
    (case l_law_moved => k_is)
    (case c_law_moved => k_is)
    (case k_law_moved => k_is)
    (case a_law_sign => k_is)
    (case l_law_sign => k_is)
    (case c_law_sign => k_is)
    (case k_law_sign => k_is)
    (case a_law_side => k_is)
    (case l_law_side => k_is)
    (case c_law_side => k_is)
    (case k_law_side => k_is)
    (case a_law_simple => k_is)
    (case l_law_simple => k_is)
    (case c_law_simple => k_is)
    (case k_law_simple => k_is)
    (case a_law_normal => k_is)
    (case l_law_normal => k_is)
    (case c_law_normal => k_is)
    (case k_law_normal => k_is)
    (case a_law_same => k_is)
    (case l_law_same => k_is)
    (case c_law_same => k_is)
    (case k_law_same => k_is)
    (case a_law_step => k_is)
    (case l_law_step => k_is)
    (case c_law_step => k_is)
    (case k_law_step => k_is)
    (case a_law_window => k_is)
    (case l_law_window => k_is)
    (case c_law_window => k_is)
    (case k_law_window => k_is)
    (case a_law_word => k_is)
    (case l_law_word => k_is)
    (case c_law_word => k_is)
    (case k_law_word => k_is)
    (case a_is_integer => k_is)
    (case l_is_integer => k_is)
    (case c_is_integer => k_is)
    (case k_is_integer => k_is)
    (case a_look_at_kind => k_is)
    (case l_look_at_kind => k_is)
    (case c_look_at_kind => k_is)
    (case k_look_at_kind => k_is)
    (case a_size_of => k_is)
    (case l_size_of => k_is)
    (case c_size_of => k_is)
    (case k_size_of => k_is)
    (case a_plain => k_is)
    (case l_plain => k_is)
    (case c_plain => k_is)
    (case k_plain => k_is)
    (case a_is_window => k_is)
    (case l_is_window => k_is)
    (case c_is_window => k_is)
    (case k_is_window => k_is)
    (case a_plain_row => k_is)
    (case l_plain_row => k_is)
    (case c_plain_row => k_is)
    (case k_plain_row => k_is)
    (case a_signed_numbers => k_is)
    (case l_signed_numbers => k_is)
    (case c_signed_numbers => k_is)
    (case k_signed_numbers => k_is)
    (case a_all_windows => k_is)
    (case l_all_windows => k_is)
    (case c_all_windows => k_is)
    (case k_all_windows => k_is)
    (case a_falls => k_is)
    (case l_falls => k_is)
    (case c_falls => k_is)
    (case k_falls => k_is)
    (case a_look_at_window => k_is)
    (case l_look_at_window => k_is)
    (case c_look_at_window => k_is)
    (case k_look_at_window => k_is)
    (case a_ends_of => k_is)
    (case l_ends_of => k_is)
    (case c_ends_of => k_is)
    (case k_ends_of => k_is)
    (case a_turned_back => k_is)
    (case l_turned_back => k_is)
    (case c_turned_back => k_is)
    (case k_turned_back => k_is)
    (case a_beginnings_of => k_is)
    (case l_beginnings_of => k_is)
    (case c_beginnings_of => k_is)
    (case k_beginnings_of => k_is)
    (case a_pairs_out_of_order => k_is)
    (case l_pairs_out_of_order => k_is)
    (case c_pairs_out_of_order => k_is)
    (case k_pairs_out_of_order => k_is)
    (case a_length_of => k_is)
    (case l_length_of => k_is)
    (case c_length_of => k_is)
    (case k_length_of => k_is)
    (case a_is_edge => k_is)
    (case l_is_edge => k_is)
    (case c_is_edge => k_is)
    (case k_is_edge => k_is)
    (case a_Diagram___init => k_is)
    (case i_Diagram___init => k_is)
    (case l_Diagram___init => k_is)
    (case c_Diagram___init => k_is)
    (case k_Diagram___init => k_is)
    (case a_line_diagram => k_is)
    (case l_line_diagram => k_is)
    (case c_line_diagram => k_is)
    (case k_line_diagram => k_is)
    (case a_is_word => k_is)
    (case l_is_word => k_is)
    (case c_is_word => k_is)
    (case k_is_word => k_is)
    (case a_look_at_word => k_is)
    (case l_look_at_word => k_is)
    (case c_look_at_word => k_is)
    (case k_look_at_word => k_is)
    (case a_stepped => k_is)
    (case l_stepped => k_is)
    (case c_stepped => k_is)
    (case k_stepped => k_is)
    (case a_window_of => k_is)
    (case l_window_of => k_is)
    (case c_window_of => k_is)
    (case k_window_of => k_is)
    (case a_word_of => k_is)
    (case l_word_of => k_is)
    (case c_word_of => k_is)
    (case k_word_of => k_is)
    (case a_law_draws => k_is)
    (case l_law_draws => k_is)
    (case c_law_draws => k_is)
    (case k_law_draws => k_is)
    (case a_law => k_is)
    (case l_law => k_is)
    (case c_law => k_is)
    (case k_law => k_is)
    (case z_abs => k_is)
    (case z_all => k_is)
    (case z_bool => k_is)
    (case z_enumerate => k_is)
    (case z_int => k_is)
    (case z_isinstance => k_is)
    (case z_len => k_is)
    (case z_list => k_is)
    (case z_max => k_is)
    (case z_min => k_is)
    (case z_range => k_is)
    (case z_sorted => k_is)
    (case z_str => k_is)
    (case z_sum => k_is)
    (case z_tuple => k_is)
    (case x_BadDiagram => k_exc)
    (case kC_BadDiagram => k_is)
    (case bC_BadDiagram => k_is)
    (case tC_BadDiagram => k_is)
    (case x_BadWord => k_exc)
    (case kC_BadWord => k_is)
    (case bC_BadWord => k_is)
    (case tC_BadWord => k_is)
    (case pg_Diagram => k_is)
    (case hd_Diagram => k_is)
    (case po_Diagram => k_is)
    (case sa_Diagram => k_is)
    (case na_Diagram_labels => k_is)
    (case na_Diagram_size => k_is)
    (case mk_Diagram => k_is)
    (case kC_Diagram => k_is)
    (case q_KINDS => k_is)
    (case w_KINDS => k_is)
    (case q_LABELS => k_is)
    (case w_LABELS => k_is)
    (case q_MOST => k_is)
    (case q_MOST_LETTERS => k_is)
    (case q_MOST_MIRRORS => k_is)
