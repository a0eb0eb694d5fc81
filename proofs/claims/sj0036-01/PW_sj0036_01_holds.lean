import PyProof.Rows.All
import Wide.All
import OpenK.AllK
import Wide.FinOn
import PySem.Challenge.RW_sj0036_01
set_option Elab.async false
set_option maxRecDepth 100000
namespace Mine
open PySem PySem.W PySem.Calls PyProof.Rows

-- AW1
section
-- values without tokens or addresses
inductive V where
  | none
  | bool (b : Bool)
  | int (i : Int)
  | tup (vs : List V)
  | ref (n : Nat)
  | top (v : Value)

-- objects of the store
inductive O where
  | list (vs : List V)
  | fields (fs : List (Str × V))
  | cell (v : V)
  | raw (f : List Addr → Obj) (ids : List Nat)
  | dict (es : List (List Int × V))

mutual
inductive VR (ρ : List Addr) (h : Heap) : V → Value → Prop
  | none : VR ρ h .none .none
  | bool {b} : VR ρ h (.bool b) (.bool b)
  | int {i t} : VR ρ h (.int i) (.int i t)
  | tup {vs a items} : IsTup h a items → VRs ρ h vs items.toList → VR ρ h (.tup vs) (.ref a)
  | ref {n a} : ρ[n]? = some a → VR ρ h (.ref n) (.ref a)
  | top {v} : VR ρ h (.top v) v
inductive VRs (ρ : List Addr) (h : Heap) : List V → List Value → Prop
  | nil : VRs ρ h [] []
  | cons {v x vs xs} : VR ρ h v x → VRs ρ h vs xs → VRs ρ h (v :: vs) (x :: xs)
end

section
variable {ρ ρ' : List Addr} {h h' : Heap}
mutual
theorem VR.mono (hρ : ∀ (n a : Nat), ρ[n]? = some a → ρ'[n]? = some a) (hh : ∀ a items, IsTup h a items → IsTup h' a items) : ∀ {v x}, VR ρ h v x → VR ρ' h' v x
  | _, _, .none => .none
  | _, _, .bool => .bool
  | _, _, .int => .int
  | _, _, .tup ht hs => .tup (hh _ _ ht) (VRs.mono hρ hh hs)
  | _, _, .ref e => .ref (hρ _ _ e)
  | _, _, .top => .top
theorem VRs.mono (hρ : ∀ (n a : Nat), ρ[n]? = some a → ρ'[n]? = some a) (hh : ∀ a items, IsTup h a items → IsTup h' a items) : ∀ {v x}, VRs ρ h v x → VRs ρ' h' v x
  | _, _, .nil => .nil
  | _, _, .cons a b => .cons (VR.mono hρ hh a) (VRs.mono hρ hh b)
end
theorem VRs.length : ∀ {vs xs}, VRs ρ h vs xs → vs.length = xs.length
  | _, _, .nil => rfl
  | _, _, .cons _ b => by simp [VRs.length b]
theorem VRs.get : ∀ {vs xs} {i : Nat} {v}, VRs ρ h vs xs → vs[i]? = some v → ∃ x, xs[i]? = some x ∧ VR ρ h v x
  | _, _, 0, _, .cons a _, e => by simp at e; subst e; exact ⟨_, rfl, a⟩
  | _, _, i + 1, _, .cons _ b, e => by simp at e; simpa using VRs.get b e
theorem VRs.append : ∀ {vs xs ws ys}, VRs ρ h vs xs → VRs ρ h ws ys → VRs ρ h (vs ++ ws) (xs ++ ys)
  | _, _, _, _, .nil, k => k
  | _, _, _, _, .cons a b, k => .cons a (VRs.append b k)
theorem VRs.set : ∀ {vs xs} {i : Nat} {v x}, VRs ρ h vs xs → VR ρ h v x → VRs ρ h (vs.set i v) (xs.set i x)
  | _, _, _, _, _, .nil, _ => .nil
  | _, _, 0, _, _, .cons _ b, k => .cons k b
  | _, _, i + 1, _, _, .cons a b, k => .cons a (VRs.set b k)
theorem VRs.snoc {vs xs v x} (a : VRs ρ h vs xs) (b : VR ρ h v x) : VRs ρ h (vs ++ [v]) (xs ++ [x]) := a.append (.cons b .nil)
end

-- the dict of an object of a class: its entries hold the fields, in order
inductive FieldsR (ρ : List Addr) (h : Heap) : List (Str × V) → List DictEntry → Prop
  | nil : FieldsR ρ h [] []
  | cons {x v hs t val fs es} : VR ρ h v val → FieldsR ρ h fs es → FieldsR ρ h ((x, v) :: fs) (⟨hs, .str x t, val⟩ :: es)
theorem FieldsR.mono {ρ ρ' h h'} (hρ : ∀ (n a : Nat), ρ[n]? = some a → ρ'[n]? = some a) (hh : ∀ a items, IsTup h a items → IsTup h' a items) : ∀ {fs es}, FieldsR ρ h fs es → FieldsR ρ' h' fs es
  | _, _, .nil => .nil
  | _, _, .cons r k => .cons (r.mono hρ hh) (k.mono hρ hh)

structure Gx where
  prog : Program
  w : World
  h₀ : Heap
  K : Frag
  p : Program
  loose : List Str
  mean : ExcName → Option Value
  mg : Str → Option Value
  mb : Str → Option Value
  X : K.In h₀
  T : Top p loose mean mg mb h₀
  pin : List (Nat × Addr)
noncomputable abbrev Gx.M (G : Gx) : Model := model G.prog G.w
noncomputable abbrev Gx.tk (G : Gx) : HeapKind G.prog G.w (List Int) := tupleKind (intKind G.prog G.w)

noncomputable def OR (G : Gx) (ρ : List Addr) (h : Heap) (a : Addr) : O → Prop
  | .list vs => ∃ items : Array Value, h.PlainList a items ∧ VRs ρ h vs items.toList
  | .fields fs => ∃ es n, h.get? a = some (dictOf es n) ∧ FieldsR ρ h fs es
  | .cell v => ∃ val, h.IsCell a (some val) ∧ VR ρ h v val ∧ ∀ items, ¬ IsTup h a items
  | .raw f ids => ∃ as : List Addr, ids.map (fun n => ρ[n]?) = as.map some ∧ h.get? a = some (f as) ∧ ∀ items, ¬ IsTup h a items
  | .dict es => ∃ xs : List (List Int × Addr × Value), h.DictOfH G.tk a xs ∧ xs.map (·.1) = es.map (·.1) ∧ VRs ρ h (es.map (·.2)) (xs.map (·.2.2)) ∧ (a == sysModules) = false

theorem OR.live {G ρ h a o} (x : OR G ρ h a o) : ∃ ob, h.get? a = some ob := by
  cases o with
  | list vs => obtain ⟨_, ⟨_, ho⟩, _⟩ := x; exact ⟨_, ho⟩
  | fields fs => obtain ⟨_, _, ho, _⟩ := x; exact ⟨_, ho⟩
  | cell v => obtain ⟨_, ⟨o, ho, _⟩, _⟩ := x; exact ⟨o, ho⟩
  | raw f ids => obtain ⟨_, _, ho, _⟩ := x; exact ⟨_, ho⟩
  | dict es => obtain ⟨_, ⟨o, _, _, ho, _⟩, _⟩ := x; exact ⟨o, ho⟩
theorem OR.notTup {G ρ h a o} (x : OR G ρ h a o) (items : Array Value) : ¬ IsTup h a items := by
  intro ⟨ob, ho, hc, n, hd⟩
  cases o with
  | list vs =>
    obtain ⟨it, ⟨_, ho'⟩, _⟩ := x
    rw [ho] at ho'; cases ho'; exact absurd (show Value.type "list" = Value.type "tuple" from hc) (by decide)
  | fields fs =>
    obtain ⟨es, n', ho', _⟩ := x
    rw [ho] at ho'; cases ho'; cases hd
  | cell v => obtain ⟨_, _, _, k⟩ := x; exact k items ⟨ob, ho, hc, n, hd⟩
  | raw f ids => obtain ⟨_, _, _, k⟩ := x; exact k items ⟨ob, ho, hc, n, hd⟩
  | dict es =>
    obtain ⟨_, ⟨o, _, _, ho', _, hd', _⟩, _⟩ := x
    rw [ho] at ho'; cases ho'; rw [hd] at hd'; cases hd'

theorem tup_touch {h h' : Heap} {I : Addr} (hb : Heap.ExtBut I h h') (ht : ∀ items, ¬ IsTup h I items) (c : Addr) (items : Array Value) (t : IsTup h c items) : IsTup h' c items := by
  obtain ⟨o, ho, r⟩ := id t
  exact ⟨o, hb c o (fun e => ht items (e ▸ t)) ho, r⟩

-- an object stays what it is where its own place, its tuples and the places that it names stay
theorem OR.keep {G ρ ρ' h h' a o} (x : OR G ρ h a o) (hρ : ∀ (n a : Nat), ρ[n]? = some a → ρ'[n]? = some a) (ht : ∀ a items, IsTup h a items → IsTup h' a items) (ha : ∀ ob, h.get? a = some ob → h'.get? a = some ob) : OR G ρ' h' a o := by
  have up : ∀ {v x}, VR ρ h v x → VR ρ' h' v x := fun r => r.mono hρ ht
  have notT : ∀ ob, h.get? a = some ob → (∀ items, ¬ IsTup h a items) → ∀ items, ¬ IsTup h' a items := fun ob ho k items t => by
    obtain ⟨o', ho', r⟩ := t
    rw [ha ob ho] at ho'; cases ho'
    exact k items ⟨ob, ho, r⟩
  cases o with
  | list vs => obtain ⟨items, ⟨n, ho⟩, k⟩ := x; exact ⟨items, ⟨n, ha _ ho⟩, k.mono hρ ht⟩
  | fields fs =>
    obtain ⟨es, n, ho, k⟩ := x
    exact ⟨es, n, ha _ ho, k.mono hρ ht⟩
  | cell v => obtain ⟨val, ⟨ob, ho, r⟩, k, z⟩ := x; exact ⟨val, ⟨ob, ha ob ho, r⟩, up k, notT ob ho z⟩
  | raw f ids =>
    obtain ⟨as, e, ho, z⟩ := x
    refine ⟨as, ?_, ha _ ho, notT _ ho z⟩
    refine Eq.trans ?_ e
    refine List.map_congr_left fun n hn => ?_
    have : ∃ b, ρ[n]? = some b := by
      have hm : ρ[n]? ∈ ids.map (fun n => ρ[n]?) := List.mem_map_of_mem hn
      rw [e] at hm
      obtain ⟨b, _, hb⟩ := List.mem_map.mp hm
      exact ⟨b, hb.symm⟩
    obtain ⟨b, hb⟩ := this
    rw [hb, hρ n b hb]
  | dict es =>
    obtain ⟨xs, ⟨o, e, ep, ho, r1, r2, r3, r4, r5⟩, k1, k2, k3⟩ := x
    refine ⟨xs, ⟨o, e, ep, ha _ ho, r1, r2, r3, fun y hy => ?_, r5⟩, k1, k2.mono hρ ht, k3⟩
    obtain ⟨o', items, n, q1, q2, q3, q4⟩ := r4 y hy
    obtain ⟨o2, p1, p2, n2, p3⟩ := ht _ items ⟨o', q1, q2, n, q3⟩
    exact ⟨o2, items, n2, p1, p2, p3, q4⟩

theorem VRs.invCons {ρ : List Addr} {h : Heap} {v : V} {vs : List V} {xs : List Value} (k : VRs ρ h (v :: vs) xs) : ∃ x t, xs = x :: t ∧ VR ρ h v x ∧ VRs ρ h vs t := by
  cases k with
  | cons a b => exact ⟨_, _, rfl, a, b⟩
theorem VRs.invNil {ρ : List Addr} {h : Heap} {xs : List Value} (k : VRs ρ h [] xs) : [] = xs := by cases k; rfl
theorem VR.invInt {ρ : List Addr} {h : Heap} {i : Int} {x : Value} (k : VR ρ h (.int i) x) : ∃ t, x = .int i t := by cases k; exact ⟨_, rfl⟩
theorem VR.invTop {ρ : List Addr} {h : Heap} {v x : Value} (k : VR ρ h (.top v) x) : v = x := by cases k; rfl
theorem VR.invRef {ρ : List Addr} {h : Heap} {n : Nat} {x : Value} (k : VR ρ h (.ref n) x) : ∃ a, x = .ref a ∧ ρ[n]? = some a := by
  cases k with
  | ref e => exact ⟨_, rfl, e⟩
theorem VR.invTup {ρ : List Addr} {h : Heap} {vs : List V} {x : Value} (k : VR ρ h (.tup vs) x) : ∃ a items, x = .ref a ∧ IsTup h a items ∧ VRs ρ h vs items.toList := by
  cases k with
  | tup a b => exact ⟨_, _, rfl, a, b⟩
theorem vals_succ {α : Type} {l : List α} {n : Nat} (h : l.length = n + 1) : ∃ a t, l = a :: t ∧ t.length = n := by
  cases l with
  | nil => simp at h
  | cons a t => exact ⟨a, t, rfl, by simpa using h⟩
theorem vals1 {α : Type} {l : List α} (h : l.length = 1) : ∃ a, l = [a] := by
  obtain ⟨a, t, rfl, h'⟩ := vals_succ h
  exact ⟨a, by rw [List.length_eq_zero_iff.mp h']⟩
theorem vals2 {α : Type} {l : List α} (h : l.length = 2) : ∃ a b, l = [a, b] := by
  obtain ⟨a, t, rfl, h'⟩ := vals_succ h
  obtain ⟨b, rfl⟩ := vals1 h'
  exact ⟨a, b, rfl⟩
theorem vals3 {α : Type} {l : List α} (h : l.length = 3) : ∃ a b c, l = [a, b, c] := by
  obtain ⟨a, t, rfl, h'⟩ := vals_succ h
  obtain ⟨b, c, rfl⟩ := vals2 h'
  exact ⟨a, b, c, rfl⟩
theorem vals4 {α : Type} {l : List α} (h : l.length = 4) : ∃ a b c d, l = [a, b, c, d] := by
  obtain ⟨a, t, rfl, h'⟩ := vals_succ h
  obtain ⟨b, c, d, rfl⟩ := vals3 h'
  exact ⟨a, b, c, d, rfl⟩
theorem vals5 {α : Type} {l : List α} (h : l.length = 5) : ∃ a b c d e, l = [a, b, c, d, e] := by
  obtain ⟨a, t, rfl, h'⟩ := vals_succ h
  obtain ⟨b, c, d, e, rfl⟩ := vals4 h'
  exact ⟨a, b, c, d, e, rfl⟩
theorem vals6 {α : Type} {l : List α} (h : l.length = 6) : ∃ a b c d e f, l = [a, b, c, d, e, f] := by
  obtain ⟨a, t, rfl, h'⟩ := vals_succ h
  obtain ⟨b, c, d, e, f, rfl⟩ := vals5 h'
  exact ⟨a, b, c, d, e, f, rfl⟩
end
-- AW2
section
noncomputable abbrev noE : Value → Shared → Prop := fun _ _ => False
theorem up {M : Model} {A : Around} {α : Type} {t : Sem α} {Q : α → Shared → Prop} {E : Value → Shared → Prop} {s : Shared} (h : wpAny M A t Q noE s) : wpAny M A t Q E s :=
  wpAny_mono h (fun _ _ x => x) fun _ _ x => x.elim
theorem monoN {M : Model} {A : Around} {α : Type} {t : Sem α} {Q Q' : α → Shared → Prop} {s : Shared} (h : wpAny M A t Q noE s) (k : ∀ a s', Q a s' → Q' a s') : wpAny M A t Q' noE s :=
  wpAny_mono h k fun _ _ x => x

structure HS (G : Gx) (ρ : List Addr) (S : List O) (h : Heap) : Prop where
  base : ∀ b o, G.h₀.get? b = some o → h.get? b = some o
  off : ∀ a ∈ ρ, G.h₀.get? a = none
  nodup : ρ.Nodup ∧ ∀ p ∈ G.pin, ρ[p.1]? = some p.2
  len : ρ.length = S.length
  objs : ∀ (n : Nat) a o, ρ[n]? = some a → S[n]? = some o → OR G ρ h a o

structure Ext (X : Addr → Prop) (ρ : List Addr) (h : Heap) (ρ' : List Addr) (h' : Heap) : Prop where
  pre : ∃ x, ρ' = ρ ++ x ∧ ∀ a ∈ x, h.get? a = none
  pres : ∀ b o, h.get? b = some o → b ∉ ρ → ¬ X b → h'.get? b = some o
  live : ∀ b o, h.get? b = some o → ∃ o', h'.get? b = some o'
noncomputable abbrev noX : Addr → Prop := fun _ => False

theorem Ext.refl {X ρ h} : Ext X ρ h ρ h := ⟨⟨[], by simp, by simp⟩, fun _ _ e _ _ => e, fun _ _ e => ⟨_, e⟩⟩
theorem Ext.trans {X ρ h ρ₁ h₁ ρ₂ h₂} (a : Ext X ρ h ρ₁ h₁) (b : Ext X ρ₁ h₁ ρ₂ h₂) : Ext X ρ h ρ₂ h₂ := by
  obtain ⟨x, rfl, hx⟩ := a.pre
  obtain ⟨y, rfl, hy⟩ := b.pre
  refine ⟨⟨x ++ y, by simp, fun c hc => ?_⟩, fun c o e hn hX => ?_, fun c o e => ?_⟩
  · rcases List.mem_append.mp hc with hc | hc
    · exact hx c hc
    · cases e : h.get? c with
      | none => rfl
      | some o =>
        obtain ⟨o', e'⟩ := a.live c o e
        rw [hy c hc] at e'; cases e'
  · refine b.pres c o (a.pres c o e hn hX) (fun hm => ?_) hX
    rcases List.mem_append.mp hm with hm | hm
    · exact hn hm
    · rw [hx c hm] at e; cases e
  · obtain ⟨o', e'⟩ := a.live c o e
    exact b.live c o' e'
theorem Ext.weak {X Y : Addr → Prop} {ρ h ρ' h'} (a : Ext X ρ h ρ' h') (k : ∀ b, X b → Y b) : Ext Y ρ h ρ' h' := ⟨a.pre, fun b o e n y => a.pres b o e n fun x => y (k b x), a.live⟩
theorem Ext.idx {X ρ h ρ' h'} (a : Ext X ρ h ρ' h') (n : Nat) (c : Addr) (e : ρ[n]? = some c) : ρ'[n]? = some c := by
  obtain ⟨x, rfl, _⟩ := a.pre
  rw [List.getElem?_append_left (List.getElem?_eq_some_iff.mp e).1]; exact e

theorem HS.notTup {G ρ S h} (H : HS G ρ S h) {a} (ha : a ∈ ρ) (items : Array Value) : ¬ IsTup h a items := by
  obtain ⟨n, hn, rfl⟩ := List.getElem_of_mem ha
  exact (H.objs n _ (S[n]'(H.len ▸ hn)) (by simp) (by simp)).notTup items

theorem get_push_none {h : Heap} : h.get? h.objs.size = none := by
  cases e : h.get? h.objs.size with
  | none => rfl
  | some o => exact absurd (Heap.lt_size e) (Nat.lt_irrefl _)
theorem HS.live {G ρ S h} (H : HS G ρ S h) {a} (ha : a ∈ ρ) : ∃ o, h.get? a = some o := by
  obtain ⟨n, hn, rfl⟩ := List.getElem_of_mem ha
  exact (H.objs n _ (S[n]'(H.len ▸ hn)) (by simp) (by simp)).live
theorem HS.fresh {G ρ S h} (H : HS G ρ S h) : h.objs.size ∉ ρ ∧ G.h₀.get? h.objs.size = none := by
  refine ⟨fun hm => ?_, ?_⟩
  · obtain ⟨o, ho⟩ := H.live hm; rw [get_push_none] at ho; cases ho
  · cases e : G.h₀.get? h.objs.size with
    | none => rfl
    | some o => have := H.base _ o e; rw [get_push_none] at this; cases this

theorem Ext.tup {X G ρ S h ρ' h'} (a : Ext X ρ h ρ' h') (H : HS G ρ S h) (hX : ∀ b items, X b → ¬ IsTup h b items) (c : Addr) (items : Array Value) (t : IsTup h c items) : IsTup h' c items := by
  obtain ⟨o, ho, r⟩ := id t
  exact ⟨o, a.pres c o ho (fun hm => H.notTup hm items t) (fun hx => hX c items hx t), r⟩
theorem Ext.vr {X G ρ S h ρ' h'} (a : Ext X ρ h ρ' h') (H : HS G ρ S h) (hX : ∀ b items, X b → ¬ IsTup h b items) {v x} (r : VR ρ h v x) : VR ρ' h' v x := r.mono a.idx (a.tup H hX)
theorem Ext.vrs {X G ρ S h ρ' h'} (a : Ext X ρ h ρ' h') (H : HS G ρ S h) (hX : ∀ b items, X b → ¬ IsTup h b items) {v x} (r : VRs ρ h v x) : VRs ρ' h' v x := r.mono a.idx (a.tup H hX)
theorem noX_tup {h : Heap} : ∀ b items, noX b → ¬ IsTup h b items := fun _ _ x => x.elim

structure FS (G : Gx) (env : Env) (ρ : List Addr) (m cm : Str → Option Value) (h : Heap) : Prop where
  ns : h.Ns env.locals m
  above : G.h₀.get? env.locals = none
  off : env.locals ∉ ρ
  cells : ∀ x c, env.cells.lookup x = some c → h.IsCell c (cm x) ∧ c ∉ ρ ∧ c ≠ env.locals ∧ (env.kindOf x = some .cell → G.h₀.get? c = none) ∧ (env.kindOf x ≠ some .cell → ∃ o, G.h₀.get? c = some o)
  inj : ∀ x y c, env.cells.lookup x = some c → env.cells.lookup y = some c → x = y

noncomputable def FX (env : Env) (b : Addr) : Prop := b = env.locals ∨ ∃ x, env.kindOf x = some .cell ∧ env.cells.lookup x = some b

theorem FS.ext {G env ρ m cm h ρ' h'} (F : FS G env ρ m cm h) (a : Ext noX ρ h ρ' h') : FS G env ρ' m cm h' := by
  have offR : ∀ b o, h.get? b = some o → b ∉ ρ → b ∉ ρ' := fun b o e n hm => by
    obtain ⟨x, rfl, hx⟩ := a.pre
    rcases List.mem_append.mp hm with hm | hm
    · exact n hm
    · rw [hx b hm] at e; cases e
  obtain ⟨o, es, ep, ho, r⟩ := F.ns
  refine ⟨⟨o, es, ep, a.pres _ _ ho F.off id, r⟩, F.above, offR _ _ ho F.off, fun x c hc => ?_, F.inj⟩
  obtain ⟨⟨o', ho', d'⟩, hn, r'⟩ := F.cells x c hc
  exact ⟨⟨o', a.pres _ _ ho' hn id, d'⟩, offR _ _ ho' hn, r'⟩
theorem FS.notTup {G env ρ m cm h} (F : FS G env ρ m cm h) : ∀ b items, FX env b → ¬ IsTup h b items := by
  rintro b items (rfl | ⟨x, hkx, hx⟩) ⟨o, ho, hc, n, hd⟩
  · obtain ⟨o', es, ep, ho', hd', _⟩ := F.ns
    rw [ho] at ho'; cases ho'; rw [hd] at hd'; cases hd'
  · obtain ⟨⟨o', ho', d'⟩, _⟩ := F.cells x b hx
    rw [ho] at ho'; cases ho'; rw [hd] at d'; cases d'

structure EnvOk (env : Env) : Prop where
  kind : env.scope.kind = .function
  glob : env.globals = mainGlobals
  blt : env.builtins = builtinsNs

noncomputable def LR (ρ : List Addr) (h : Heap) (env : Env) (m cm : Str → Option Value) (ls : List (Str × V)) : Prop :=
  ∀ x v, ls.lookup x = some v → ∃ val, VR ρ h v val ∧ ((env.kindOf x = some .local ∧ m x = some val) ∨
    (∃ c, (env.kindOf x = some .cell ∨ (env.kindOf x = some .free ∧ (x == ("__classdict__" : Str)) = false)) ∧ env.cells.lookup x = some c ∧ cm x = some val))
theorem LR.ext {X G ρ S h ρ' h' env m cm ls} (a : Ext X ρ h ρ' h') (H : HS G ρ S h) (hX : ∀ b items, X b → ¬ IsTup h b items) (l : LR ρ h env m cm ls) : LR ρ' h' env m cm ls := fun x v e => by
  obtain ⟨val, r, k⟩ := l x v e
  exact ⟨val, a.vr H hX r, k⟩

-- the whole state of an abstract run in a frame
structure St (G : Gx) (env : Env) (ls : List (Str × V)) (S : List O) (ρ : List Addr) (m cm : Str → Option Value) (h : Heap) : Prop where
  H : HS G ρ S h
  F : FS G env ρ m cm h
  L : LR ρ h env m cm ls
theorem St.next {G env ls S ρ m cm h S' ρ' h'} (x : St G env ls S ρ m cm h) (H' : HS G ρ' S' h') (a : Ext noX ρ h ρ' h') : St G env ls S' ρ' m cm h' :=
  ⟨H', x.F.ext a, x.L.ext a x.H noX_tup⟩

-- a tree that gives back what R relates to an abstract result
noncomputable def ATree {α β : Type} (G : Gx) (A : Around) (env : Env) (t : Sem α) (R : List Addr → Heap → β → α → Prop) (ls : List (Str × V)) (S : List O) (P : β → List O → Prop) : Prop :=
  ∀ ρ m cm s (Q : α → Shared → Prop), St G env ls S ρ m cm s.heap →
    (∀ b S' a ρ' h' tk', P b S' → R ρ' h' b a → HS G ρ' S' h' → Ext noX ρ s.heap ρ' h' → Q a { s with heap := h', toks := tk' }) → wpAny G.M A t Q noE s
noncomputable abbrev AEval (G : Gx) (A : Around) (env : Env) (e : Expr) (ls : List (Str × V)) (S : List O) (P : V → List O → Prop) : Prop := ATree G A env (eval e env) VR ls S P
noncomputable abbrev bR (_ : List Addr) (_ : Heap) (b a : Bool) : Prop := a = b
noncomputable abbrev ATest (G : Gx) (A : Around) (env : Env) (e : Expr) (ls : List (Str × V)) (S : List O) (P : Bool → List O → Prop) : Prop := ATree G A env (isTrue e env (eval e env)) bR ls S P
noncomputable abbrev AArgs (G : Gx) (A : Around) (env : Env) (pos : Pos) (es : List Expr) (ls : List (Str × V)) (S : List O) (P : List V → List O → Prop) : Prop := ATree G A env (spliced (backTo pos (starEach es env))) VRs ls S P

-- an operation on values: no frame is asked
noncomputable def AOp {α β : Type} (G : Gx) (A : Around) (f : List Value → Sem α) (R : List Addr → Heap → β → α → Prop) (vs : List V) (S : List O) (P : β → List O → Prop) : Prop :=
  ∀ ρ s vals (Q : α → Shared → Prop), HS G ρ S s.heap → VRs ρ s.heap vs vals →
    (∀ b S' a ρ' h' tk', P b S' → R ρ' h' b a → HS G ρ' S' h' → Ext noX ρ s.heap ρ' h' → Q a { s with heap := h', toks := tk' }) → wpAny G.M A (f vals) Q noE s
theorem ATree.mono {α β : Type} {G A env} {t : Sem α} {R : List Addr → Heap → β → α → Prop} {ls S} {P P' : β → List O → Prop} (h : ATree G A env t R ls S P) (k : ∀ b S', P b S' → P' b S') : ATree G A env t R ls S P' :=
  fun ρ m cm s Q x c => h ρ m cm s Q x fun b S' a ρ' h' tk' p => c b S' a ρ' h' tk' (k b S' p)
theorem AOp.mono {α β : Type} {G A} {t : List Value → Sem α} {R : List Addr → Heap → β → α → Prop} {vs S} {P P' : β → List O → Prop} (h : AOp G A t R vs S P) (k : ∀ b S', P b S' → P' b S') : AOp G A t R vs S P' :=
  fun ρ s vals Q x y c => h ρ s vals Q x y fun b S' a ρ' h' tk' p => c b S' a ρ' h' tk' (k b S' p)

inductive AFlow where
  | next | brk | cont
  | ret (v : V)
inductive FlowR (ρ : List Addr) (h : Heap) : AFlow → Flow → Prop
  | next : FlowR ρ h .next .next
  | brk : FlowR ρ h .brk .brk
  | cont : FlowR ρ h .cont .cont
  | ret {v x} : VR ρ h v x → FlowR ρ h (.ret v) (.ret x)

-- a statement: it may store into its frame
noncomputable def AStm (G : Gx) (A : Around) (env : Env) (t : Sem Flow) (ls : List (Str × V)) (S : List O) (P : AFlow → List (Str × V) → List O → Prop) : Prop :=
  ∀ ρ m cm s (Q : Flow → Shared → Prop), St G env ls S ρ m cm s.heap →
    (∀ b ls' S' a ρ' m' cm' h' tk', P b ls' S' → FlowR ρ' h' b a → St G env ls' S' ρ' m' cm' h' → Ext (FX env) ρ s.heap ρ' h' → Q a { s with heap := h', toks := tk' }) → wpAny G.M A t Q noE s
noncomputable abbrev AExec (G : Gx) (A : Around) (env : Env) (st : Stmt) (ls : List (Str × V)) (S : List O) (P : AFlow → List (Str × V) → List O → Prop) : Prop := AStm G A env (exec st env) ls S P
noncomputable abbrev AExecs (G : Gx) (A : Around) (env : Env) (sts : List Stmt) (ls : List (Str × V)) (S : List O) (P : AFlow → List (Str × V) → List O → Prop) : Prop := AStm G A env (execs sts env) ls S P
theorem AStm.mono {G A env} {t : Sem Flow} {ls S} {P P' : AFlow → List (Str × V) → List O → Prop} (h : AStm G A env t ls S P) (k : ∀ b l S', P b l S' → P' b l S') : AStm G A env t ls S P' :=
  fun ρ m cm s Q x c => h ρ m cm s Q x fun b l S' a ρ' m' cm' h' tk' p => c b l S' a ρ' m' cm' h' tk' (k b l S' p)
end
-- AW3
section
noncomputable def op1 {α : Type} (t : Value → Sem α) : List Value → Sem α
  | [a] => t a
  | _ => unsupported ""
noncomputable def op2 {α : Type} (t : Value → Value → Sem α) : List Value → Sem α
  | [a, b] => t a b
  | _ => unsupported ""
noncomputable def op3 {α : Type} (t : Value → Value → Value → Sem α) : List Value → Sem α
  | [a, b, c] => t a b c
  | _ => unsupported ""
noncomputable abbrev uR (_ : List Addr) (_ : Heap) (_ _ : Unit) : Prop := True
noncomputable abbrev ABin (G : Gx) (A : Around) (op : Operator) (a b : V) (S : List O) (P : V → List O → Prop) : Prop := AOp G A (op2 (binaryOp op)) VR [a, b] S P
noncomputable abbrev ACmp (G : Gx) (A : Around) (op : CmpOp) (a b : V) (S : List O) (P : V → List O → Prop) : Prop := AOp G A (op2 (compareOp op)) VR [a, b] S P
noncomputable abbrev AGet (G : Gx) (A : Around) (o i : V) (S : List O) (P : V → List O → Prop) : Prop := AOp G A (op2 getItem) VR [o, i] S P
noncomputable abbrev ASet (G : Gx) (A : Around) (o i v : V) (S : List O) (P : Unit → List O → Prop) : Prop := AOp G A (op3 setItem) uR [o, i, v] S P
noncomputable abbrev ATruth (G : Gx) (A : Around) (v : V) (S : List O) (P : Bool → List O → Prop) : Prop := AOp G A (op1 truthy) bR [v] S P

section
variable {G : Gx} {A : Around} {env : Env} {ls : List (Str × V)} {S : List O}

theorem aName {x : Str} {pos : Pos} {v : V} {P : V → List O → Prop} (ok : EnvOk env) (hv : ls.lookup x = some v) (h : P v S) (hd : (x == ("__debug__" : Str)) = false := by decide) : AEval G A env (.Name x pos) ls S P := by
  intro ρ m cm s Q X c
  obtain ⟨val, r, ⟨k1, k2⟩ | ⟨cc, k1, k2, k3⟩⟩ := X.L x v hv
  · exact wpAny_Name (wpAny_loadName_local ok.kind k1 X.F.ns k2 (c v S val ρ s.heap s.toks h r X.H .refl)) hd
  · have hc := (X.F.cells x cc k2).1
    rw [k3] at hc
    rcases k1 with k1 | ⟨k1, k4⟩
    · exact wpAny_Name (wpAny_loadName_cell ok.kind k1 k2 hc (c v S val ρ s.heap s.toks h r X.H .refl)) hd
    · exact wpAny_Name (wpAny_loadName_free ok.kind k1 k2 hc (c v S val ρ s.heap s.toks h r X.H .refl) k4) hd

theorem aGlobal {x : Str} {pos : Pos} {v : Value} {P : V → List O → Prop} (ok : EnvOk env) (hx : env.kindOf x = some .globalImplicit) (e : nsIn G.K mainGlobals x = some (some v)) (h : P (.top v) S) (hd : (x == ("__debug__" : Str)) = false := by decide) :
    AEval G A env (.Name x pos) ls S P := by
  intro ρ m cm s Q X c
  have T : TopRead G.p G.loose G.mg G.mb G.h₀ := topRead_of G.T
  exact Name_function_global ok.kind hx (loadGlobal_global (ok.glob ▸ T.g.keeps X.H.base) (mg_of G.X T.g e) (c _ S v ρ s.heap s.toks h .top X.H .refl)) hd
theorem aBuiltin {x : Str} {pos : Pos} {v : Value} {P : V → List O → Prop} (ok : EnvOk env) (hx : env.kindOf x = some .globalImplicit) (e : nsIn G.K mainGlobals x = some none) (hv : bootBuiltins x = some v) (hn : x ≠ "__name__")
    (h : P (.top v) S) (hd : (x == ("__debug__" : Str)) = false := by decide) : AEval G A env (.Name x pos) ls S P := by
  intro ρ m cm s Q X c
  have T : TopRead G.p G.loose G.mg G.mb G.h₀ := topRead_of G.T
  exact Name_function_global ok.kind hx (loadGlobal_builtin (ok.glob ▸ T.g.keeps X.H.base) (mg_none_of G.X T.g e) (ok.blt ▸ T.b.keeps X.H.base) ((T.builtins x hn).trans hv) (c _ S v ρ s.heap s.toks h .top X.H .refl)) hd

theorem aInt {i : Int} {k : Nat} {pos : Pos} {P : V → List O → Prop} (h : P (.int i) S) : AEval G A env (.Constant (.int i) k pos) ls S P :=
  fun ρ _ _ s _ X c => wpAny_Constant_int (c _ S _ ρ s.heap _ h .int X.H .refl)
theorem aNone {k : Nat} {pos : Pos} {P : V → List O → Prop} (h : P .none S) : AEval G A env (.Constant .none k pos) ls S P :=
  fun ρ _ _ s _ X c => wpAny_Constant_none (c _ S _ ρ s.heap s.toks h .none X.H .refl)
theorem aBool {b : Bool} {k : Nat} {pos : Pos} {P : V → List O → Prop} (h : P (.bool b) S) : AEval G A env (.Constant (.bool b) k pos) ls S P :=
  fun ρ _ _ s _ X c => wpAny_Constant_bool (c _ S _ ρ s.heap s.toks h .bool X.H .refl)

-- two parts, then an operation
theorem two {α β : Type} {R : List Addr → Heap → β → α → Prop} {l r : Expr} {f : Value → Value → Sem α} {P : β → List O → Prop} {ρ m cm s} {Q : α → Shared → Prop}
    (h : AEval G A env l ls S fun a S₁ => AEval G A env r ls S₁ fun b S₂ => AOp G A (op2 f) R [a, b] S₂ P) (X : St G env ls S ρ m cm s.heap)
    (c : ∀ b S' a ρ' h' tk', P b S' → R ρ' h' b a → HS G ρ' S' h' → Ext noX ρ s.heap ρ' h' → Q a { s with heap := h', toks := tk' }) :
    wpAny G.M A (eval l env) (fun a s₁ => wpAny G.M A (eval r env) (fun b s₂ => wpAny G.M A (f a b) Q noE s₂) noE s₁) noE s := by
  refine h ρ m cm s _ X fun a S₁ x ρ₁ h₁ t₁ p₁ r₁ H₁ e₁ => ?_
  refine p₁ ρ₁ m cm _ _ (X.next H₁ e₁) fun b S₂ y ρ₂ h₂ t₂ p₂ r₂ H₂ e₂ => ?_
  exact p₂ ρ₂ _ [x, y] Q H₂ (.cons (e₂.vr H₁ noX_tup r₁) (.cons r₂ .nil)) fun b S' a ρ' h' tk' hp hr H' e' => c b S' a ρ' h' tk' hp hr H' ((e₁.trans e₂).trans e')

theorem aBinOp {l r : Expr} {op : Operator} {pos : Pos} {P : V → List O → Prop} (h : AEval G A env l ls S fun a S₁ => AEval G A env r ls S₁ fun b S₂ => ABin G A op a b S₂ P) : AEval G A env (.BinOp l op r pos) ls S P :=
  fun ρ m cm s Q X c => wpAny_BinOp (two h X c)
theorem aCompare {l r : Expr} {op : CmpOp} {pos : Pos} {P : V → List O → Prop} (h : AEval G A env l ls S fun a S₁ => AEval G A env r ls S₁ fun b S₂ => ACmp G A op a b S₂ P) (hm : behindInMarks op r = false := by rfl) :
    AEval G A env (.Compare l [op] [r] pos) ls S P :=
  fun ρ m cm s Q X c => wpAny_Compare1 (two h X c) hm

theorem tTruth {t : Sem Value} {P : Bool → List O → Prop} {ρ m cm s} {Q : Bool → Shared → Prop} (h : ATree G A env t VR ls S fun v S₁ => ATruth G A v S₁ P) (X : St G env ls S ρ m cm s.heap)
    (c : ∀ b S' a ρ' h' tk', P b S' → bR ρ' h' b a → HS G ρ' S' h' → Ext noX ρ s.heap ρ' h' → Q a { s with heap := h', toks := tk' }) :
    wpAny G.M A t (fun v s₁ => wpAny G.M A (truthy v) Q noE s₁) noE s := by
  refine h ρ m cm s _ X fun a S₁ x ρ₁ h₁ t₁ p₁ r₁ H₁ e₁ => ?_
  exact p₁ ρ₁ _ [x] Q H₁ (.cons r₁ .nil) fun b S' a ρ' h' tk' hp hr H' e' => c b S' a ρ' h' tk' hp hr H' (e₁.trans e')
theorem truth_bool {b : Bool} {P : Bool → List O → Prop} (h : P b S) : ATruth G A (.bool b) S P := by
  intro ρ s vals Q H hv c
  cases hv with
  | cons a r => cases a; cases r; exact wpAny_truthy_bool (c b S b ρ s.heap s.toks h rfl H .refl)

theorem tCompare {l r : Expr} {op : CmpOp} {pos : Pos} {P : Bool → List O → Prop} (h : AEval G A env l ls S fun a S₁ => AEval G A env r ls S₁ fun b S₂ => ACmp G A op a b S₂ fun v S₃ => ATruth G A v S₃ P) (hm : behindInMarks op r = false := by rfl) :
    ATest G A env (.Compare l [op] [r] pos) ls S P := by
  intro ρ m cm s Q X c
  refine wpAny_isTrue_Compare1 ?_ hm
  refine two (f := compareOp op) (R := VR) (P := fun v S₃ => ATruth G A v S₃ P) (Q := fun c s₃ => wpAny G.M A (truthy c) Q noE s₃) h X fun v S₁ x ρ₁ h₁ t₁ p₁ r₁ H₁ e₁ => ?_
  exact p₁ ρ₁ _ [x] Q H₁ (.cons r₁ .nil) fun b S' a ρ' h' tk' hp hr H' e' => c b S' a ρ' h' tk' hp hr H' (e₁.trans e')
theorem tNot {x : Expr} {pos : Pos} {P : Bool → List O → Prop} (h : ATest G A env x ls S fun b S₁ => P (!b) S₁) : ATest G A env (.UnaryOp .Not x pos) ls S P := by
  intro ρ m cm s Q X c
  exact wpAny_isTrue_Not (h ρ m cm s _ X fun b S' a ρ' h' tk' hp hr H' e' => c (!b) S' (!a) ρ' h' tk' hp (by rw [show a = b from hr]) H' e')
theorem tValue {e : Expr} {P : Bool → List O → Prop} (h : AEval G A env e ls S fun v S₁ => ATruth G A v S₁ P)
    (he : isTrue e env (eval e env) = (do let v ← eval e env; standAt e.pos; holding [v] (truthy v)) := by rfl) : ATest G A env e ls S P :=
  fun _ _ _ _ _ X c => wpAny_isTrue_value (tTruth h X c) he

noncomputable abbrev AAll (G : Gx) (A : Around) (env : Env) (op : BoolOp) (es : List Expr) (ls : List (Str × V)) (S : List O) (P : Bool → List O → Prop) : Prop := ATree G A env (allTrue op es env) bR ls S P
theorem tBoolOp {op : BoolOp} {es : List Expr} {pos : Pos} {P : Bool → List O → Prop} (h : AAll G A env op es ls S P) : ATest G A env (.BoolOp op es pos) ls S P :=
  fun ρ m cm s Q X c => wpAny_isTrue_BoolOp (h ρ m cm s Q X c)
theorem all_and_nil {P : Bool → List O → Prop} (h : P true S) : AAll G A env .And [] ls S P := fun ρ _ _ s _ X c => wpAny_allTrue_And_nil (c _ S _ ρ s.heap s.toks h rfl X.H .refl)
theorem all_or_nil {P : Bool → List O → Prop} (h : P false S) : AAll G A env .Or [] ls S P := fun ρ _ _ s _ X c => wpAny_allTrue_Or_nil (c _ S _ ρ s.heap s.toks h rfl X.H .refl)
theorem all_and {x : Expr} {es : List Expr} {P : Bool → List O → Prop} (h : ATest G A env x ls S fun b S₁ => if b then AAll G A env .And es ls S₁ P else P false S₁) : AAll G A env .And (x :: es) ls S P := by
  intro ρ m cm s Q X c
  refine wpAny_allTrue_And_cons (h ρ m cm s _ X fun b S₁ a ρ₁ h₁ t₁ p₁ r₁ H₁ e₁ => ?_)
  have : a = b := r₁
  subst this
  cases a with
  | true => exact p₁ ρ₁ m cm _ Q (X.next H₁ e₁) fun b S' a ρ' h' tk' hp hr H' e' => c b S' a ρ' h' tk' hp hr H' (e₁.trans e')
  | false => exact c false S₁ false ρ₁ h₁ t₁ p₁ rfl H₁ e₁
theorem all_or {x : Expr} {es : List Expr} {P : Bool → List O → Prop} (h : ATest G A env x ls S fun b S₁ => if b then P true S₁ else AAll G A env .Or es ls S₁ P) : AAll G A env .Or (x :: es) ls S P := by
  intro ρ m cm s Q X c
  refine wpAny_allTrue_Or_cons (h ρ m cm s _ X fun b S₁ a ρ₁ h₁ t₁ p₁ r₁ H₁ e₁ => ?_)
  have : a = b := r₁
  subst this
  cases a with
  | false => exact p₁ ρ₁ m cm _ Q (X.next H₁ e₁) fun b S' a ρ' h' tk' hp hr H' e' => c b S' a ρ' h' tk' hp hr H' (e₁.trans e')
  | true => exact c true S₁ true ρ₁ h₁ t₁ p₁ rfl H₁ e₁

-- values of and, or
theorem aAnd2 {x y : Expr} {pos : Pos} {P : V → List O → Prop} (h : AEval G A env x ls S fun v S₁ => ATruth G A v S₁ fun b S₂ => if b then AEval G A env y ls S₂ P else S₂ = S₁ ∧ P v S₁) : AEval G A env (.BoolOp .And [x, y] pos) ls S P := by
  intro ρ m cm s Q X c
  refine wpAny_And2 (h ρ m cm s _ X fun v S₁ a ρ₁ h₁ t₁ p₁ r₁ H₁ e₁ => ?_)
  refine p₁ ρ₁ _ [a] _ H₁ (.cons r₁ .nil) fun b S₂ b' ρ₂ h₂ t₂ p₂ r₂ H₂ e₂ => ?_
  have : b' = b := r₂
  subst this
  cases b' with
  | true => exact p₂ ρ₂ m cm _ Q (X.next H₂ (e₁.trans e₂)) fun b S' a ρ' h' tk' hp hr H' e' => c b S' a ρ' h' tk' hp hr H' ((e₁.trans e₂).trans e')
  | false =>
    obtain ⟨rfl, hp⟩ := p₂
    exact c v S₂ a ρ₂ h₂ t₂ hp (e₂.vr H₁ noX_tup r₁) H₂ (e₁.trans e₂)
theorem args_nil {pos : Pos} {P : List V → List O → Prop} (h : P [] S) : AArgs G A env pos [] ls S P := fun ρ _ _ s _ X c => wpAny_items_nil (c _ S _ ρ s.heap s.toks h .nil X.H .refl)
theorem args_cons {pos : Pos} {e : Expr} {es : List Expr} {P : List V → List O → Prop} (h : AEval G A env e ls S fun v S₁ => AArgs G A env pos es ls S₁ fun vs S₂ => P (v :: vs) S₂)
    (he : starEach (e :: es) env = (false, eval e env) :: starEach es env := by rfl) : AArgs G A env pos (e :: es) ls S P := by
  intro ρ m cm s Q X c
  refine wpAny_items_cons (h ρ m cm s _ X fun v S₁ a ρ₁ h₁ t₁ p₁ r₁ H₁ e₁ => ?_) he
  exact p₁ ρ₁ m cm _ _ (X.next H₁ e₁) fun vs S₂ as ρ₂ h₂ t₂ p₂ r₂ H₂ e₂ => c (v :: vs) S₂ (a :: as) ρ₂ h₂ t₂ p₂ (.cons (e₂.vr H₁ noX_tup r₁) r₂) H₂ (e₁.trans e₂)

end
end
-- AW4
section
noncomputable def upd : List (Str × V) → Str → V → List (Str × V)
  | [], x, v => [(x, v)]
  | (y, u) :: r, x, v => bif x == y then (y, v) :: r else (y, u) :: upd r x v
theorem lookup_upd : ∀ (ls : List (Str × V)) (x : Str) (v : V) (y : Str), (upd ls x v).lookup y = if y = x then some v else ls.lookup y
  | [], x, v, y => by
    by_cases e : y = x
    · simp [upd, e]
    · rw [if_neg e]
      simp [upd, List.lookup, beq_eq_false_iff_ne.mpr e]
  | (z, u) :: r, x, v, y => by
    unfold upd
    by_cases e : x = z
    · subst e
      simp only [beq_self_eq_true, cond_true]
      by_cases e' : y = x
      · subst e'; simp
      · rw [if_neg e']; simp [List.lookup, beq_eq_false_iff_ne.mpr e']
    · simp only [beq_eq_false_iff_ne.mpr e, cond_false]
      by_cases e' : y = z
      · subst e'; rw [if_neg (Ne.symm e)]; simp [List.lookup]
      · have ih := lookup_upd r x v y
        simp only [List.lookup, beq_eq_false_iff_ne.mpr e']
        exact ih

noncomputable def SubL : List (Str × V) → List (Str × V) → Prop
  | [], _ => True
  | (x, v) :: r, l => l.lookup x = some v ∧ SubL r l
theorem SubL.lookup : ∀ {a b : List (Str × V)}, SubL a b → ∀ {x v}, a.lookup x = some v → b.lookup x = some v
  | [], _, _, _, _, e => by simp at e
  | (y, u) :: r, b, ⟨h, k⟩, x, v, e => by
    by_cases e' : x = y
    · subst e'; simp at e; subst e; exact h
    · simp only [List.lookup, beq_eq_false_iff_ne.mpr e'] at e
      exact SubL.lookup k e
theorem LR.sub {ρ h env m cm a b} (l : LR ρ h env m cm b) (k : SubL a b) : LR ρ h env m cm a := fun x v e => l x v (k.lookup e)
theorem St.sub {G env a b S ρ m cm h} (x : St G env b S ρ m cm h) (k : SubL a b) : St G env a S ρ m cm h := ⟨x.H, x.F, x.L.sub k⟩

section touch
variable {G : Gx} {env : Env} {ρ : List Addr} {S : List O} {m cm : Str → Option Value} {h h' : Heap} {I : Addr} {ls : List (Str × V)}
theorem OR.touch {a o} (x : OR G ρ h a o) (hb : Heap.ExtBut I h h') (ht : ∀ items, ¬ IsTup h I items) (ha : a ≠ I) : OR G ρ h' a o :=
  x.keep (fun _ _ e => e) (tup_touch hb ht) fun ob ho => hb a ob ha ho
theorem HS.touch (H : HS G ρ S h) (hb : Heap.ExtBut I h h') (ht : ∀ items, ¬ IsTup h I items) (hI : I ∉ ρ) (h0 : G.h₀.get? I = none) : HS G ρ S h' :=
  ⟨fun b o e => hb b o (fun q => by rw [q, h0] at e; cases e) (H.base b o e), H.off, H.nodup, H.len,
    fun n a o e1 e2 => (H.objs n a o e1 e2).touch hb ht fun q => hI (q ▸ List.mem_of_getElem? e1)⟩
theorem FS.touch (F : FS G env ρ m cm h) (hb : Heap.ExtBut I h h') (h0 : G.h₀.get? I = none) (hX : ¬ FX env I) : FS G env ρ m cm h' := by
  obtain ⟨o, es, ep, ho, r⟩ := F.ns
  refine ⟨⟨o, es, ep, hb _ o (fun q => hX (.inl q.symm)) ho, r⟩, F.above, F.off, fun x c hc => ?_, F.inj⟩
  obtain ⟨⟨o', ho', d'⟩, r'⟩ := F.cells x c hc
  refine ⟨⟨o', hb c o' (fun q => ?_) ho', d'⟩, r'⟩
  by_cases hk : env.kindOf x = some .cell
  · exact hX (.inr ⟨x, hk, q ▸ hc⟩)
  · obtain ⟨o, ho⟩ := r'.2.2.2 hk; rw [q, h0] at ho; cases ho
theorem LR.touch (l : LR ρ h env m cm ls) (hb : Heap.ExtBut I h h') (ht : ∀ items, ¬ IsTup h I items) : LR ρ h' env m cm ls := fun x v e =>
  let ⟨val, r, k⟩ := l x v e; ⟨val, r.mono (fun _ _ e => e) (tup_touch hb ht), k⟩
theorem St.touch (x : St G env ls S ρ m cm h) (hb : Heap.ExtBut I h h') (ht : ∀ items, ¬ IsTup h I items) (hI : I ∉ ρ) (h0 : G.h₀.get? I = none) (hX : ¬ FX env I) : St G env ls S ρ m cm h' :=
  ⟨x.H.touch hb ht hI h0, x.F.touch hb h0 hX, x.L.touch hb ht⟩
theorem Ext.touch {X ρ₀ h₀} (e : Ext X ρ₀ h₀ ρ h) (hb : Heap.ExtBut I h h') (hn : h₀.get? I = none) : Ext X ρ₀ h₀ ρ h' := by
  have ne : ∀ b o, h₀.get? b = some o → b ≠ I := fun b o e q => by rw [q, hn] at e; cases e
  exact ⟨e.pre, fun b o k n x => hb b o (ne b o k) (e.pres b o k n x), fun b o k => let ⟨o', k'⟩ := e.live b o k; ⟨o', hb b o' (ne b o k) k'⟩⟩
end touch

theorem St.fresh {G env ls S ρ m cm h} (x : St G env ls S ρ m cm h) : h.objs.size ∉ ρ ∧ G.h₀.get? h.objs.size = none ∧ ¬ FX env h.objs.size := by
  refine ⟨x.H.fresh.1, x.H.fresh.2, ?_⟩
  rintro (q | ⟨y, hky, q⟩)
  · obtain ⟨o, _, _, ho, _⟩ := x.F.ns; rw [← q, get_push_none] at ho; cases ho
  · obtain ⟨⟨o, ho, _⟩, _⟩ := x.F.cells y _ q; rw [get_push_none] at ho; cases ho

-- a name is stored
noncomputable def Stored (env : Env) (x : Str) : Prop := env.kindOf x = some .local ∨ (env.kindOf x = some .cell ∧ (env.cells.lookup x).isSome = true ∧ (x == ("__classdict__" : Str)) = false)

section
variable {G : Gx} {A : Around} {env : Env} {ls : List (Str × V)} {S : List O} {ρ : List Addr} {m cm : Str → Option Value} {s : Shared}

theorem store_ {x : Str} {v : V} {val : Value} {Q : Unit → Shared → Prop} (ok : EnvOk env) (hx : Stored env x) (X : St G env ls S ρ m cm s.heap) (r : VR ρ s.heap v val)
    (c : ∀ m' cm' h' tk', St G env (upd ls x v) S ρ m' cm' h' → Ext (FX env) ρ s.heap ρ h' → Q () { s with heap := h', toks := tk' }) : wpAny G.M A (storeName env x val) Q noE s := by
  have go : ∀ (I : Addr) (m' cm' : Str → Option Value) (h' : Heap), FX env I → Heap.SameBut I s.heap h' → FS G env ρ m' cm' h' → (∃ o, h'.get? I = some o) →
      ((env.kindOf x = some .local ∧ m' x = some val ∧ cm' = cm ∧ ∀ y, y ≠ x → m' y = m y) ∨ ((∃ c, env.kindOf x = some .cell ∧ env.cells.lookup x = some c) ∧ (x == ("__classdict__" : Str)) = false ∧ cm' x = some val ∧ m' = m ∧ ∀ y, y ≠ x → cm' y = cm y)) →
      St G env (upd ls x v) S ρ m' cm' h' ∧ Ext (FX env) ρ s.heap ρ h' := by
    intro I m' cm' h' hI hs F' hlive hk
    have ht := X.F.notTup I
    have hIρ : I ∉ ρ := by
      rcases hI with rfl | ⟨y, hky, hy⟩
      · exact X.F.off
      · exact (X.F.cells y I hy).2.1
    have h0 : G.h₀.get? I = none := by
      rcases hI with rfl | ⟨y, hky, hy⟩
      · exact X.F.above
      · exact (X.F.cells y I hy).2.2.2.1 hky
    have hb := hs.extBut
    have up : ∀ {v x}, VR ρ s.heap v x → VR ρ h' v x := fun r => r.mono (fun _ _ e => e) (tup_touch hb (ht · hI))
    refine ⟨⟨X.H.touch hb (ht · hI) hIρ h0, F', fun y u e => ?_⟩, ⟨⟨[], by simp, by simp⟩, fun b o e n k => hb b o (fun q => k (q ▸ hI)) e, fun b o e => ?_⟩⟩
    · rw [lookup_upd] at e
      by_cases q : y = x
      · subst q
        rw [if_pos rfl] at e
        cases e
        refine ⟨val, up r, ?_⟩
        rcases hk with ⟨k1, k2, _⟩ | ⟨⟨cc, k1, k2⟩, _, k4, _⟩
        · exact .inl ⟨k1, k2⟩
        · exact .inr ⟨cc, .inl k1, k2, k4⟩
      · rw [if_neg q] at e
        obtain ⟨val', r', k'⟩ := X.L y u e
        refine ⟨val', up r', ?_⟩
        rcases hk with ⟨_, _, rfl, k3⟩ | ⟨_, _, _, rfl, k3⟩
        · exact k'.imp (fun ⟨a, b⟩ => ⟨a, (k3 y q).trans b⟩) id
        · exact k'.imp id fun ⟨c, a, b, d⟩ => ⟨c, a, b, (k3 y q).trans d⟩
    · by_cases q : b = I
      · rw [q]; exact hlive
      · exact ⟨o, hb b o q e⟩
  rcases hx with hx | ⟨hx, hc, hn⟩
  · refine wpAny_storeName_local hx X.F.ns (fun h' hn hs => ?_) (by rw [ok.kind]; rfl)
    obtain ⟨a, b⟩ := go env.locals _ cm h' (.inl rfl) hs ⟨hn, X.F.above, X.F.off, fun y c hc => by
      obtain ⟨⟨o', ho', d'⟩, r'⟩ := X.F.cells y c hc
      exact ⟨⟨o', (hs.2 c r'.2.1).trans ho', d'⟩, r'⟩, X.F.inj⟩ (let ⟨o, _, _, ho, _⟩ := hn; ⟨o, ho⟩) (.inl ⟨hx, by simp, rfl, fun y q => by simp [q]⟩)
    exact c _ _ _ _ a b
  · obtain ⟨cc, hcc⟩ := Option.isSome_iff_exists.mp hc
    obtain ⟨hcell, hcρ, hcL, hc0⟩ := X.F.cells x cc hcc
    refine wpAny_storeName_cell ok.kind hx hcc hcell fun h' hv hs => ?_
    obtain ⟨a, b⟩ := go cc m (fun y => if y = x then some val else cm y) h' (.inr ⟨x, hx, hcc⟩) hs ⟨X.F.ns.sameBut hs (Ne.symm hcL), X.F.above, X.F.off, fun y c hc1 => by
      by_cases q : y = x
      · subst q
        have hcc' := hcc
        rw [hc1] at hcc'; cases hcc'
        simpa using ⟨hv, hcρ, hcL, hc0⟩
      · obtain ⟨⟨o', ho', d'⟩, r'⟩ := X.F.cells y c hc1
        have : c ≠ cc := fun e => q (X.F.inj y x cc (e ▸ hc1) hcc)
        simp only [q, if_false]
        exact ⟨⟨o', (hs.2 c this).trans ho', d'⟩, r'⟩, X.F.inj⟩ (let ⟨o, ho, _⟩ := hv; ⟨o, ho⟩) (.inr ⟨⟨cc, hx, hcc⟩, hn, by simp, rfl, fun y q => by simp [q]⟩)
    exact c _ _ _ _ a b

theorem x_nil {P : AFlow → List (Str × V) → List O → Prop} (h : P .next ls S) : AExecs G A env [] ls S P := fun ρ m cm s Q X c => wpAny_execs_nil (c _ ls S _ ρ m cm s.heap s.toks h .next X .refl)
theorem x_cons {st : Stmt} {sts : List Stmt} {P : AFlow → List (Str × V) → List O → Prop} (h : AExec G A env st ls S fun f ls₁ S₁ => match f with | .next => AExecs G A env sts ls₁ S₁ P | f => P f ls₁ S₁) : AExecs G A env (st :: sts) ls S P := by
  intro ρ m cm s Q X c
  refine wpAny_execs_cons (h ρ m cm s _ X fun f ls₁ S₁ a ρ₁ m₁ cm₁ h₁ t₁ p r X₁ e₁ => ?_)
  cases r with
  | next => exact p ρ₁ m₁ cm₁ _ Q X₁ fun b l S' a ρ' m' cm' h' tk' hp hr X' e' => c b l S' a ρ' m' cm' h' tk' hp hr X' (e₁.trans e')
  | brk => exact c _ _ _ _ _ _ _ _ _ p .brk X₁ e₁
  | cont => exact c _ _ _ _ _ _ _ _ _ p .cont X₁ e₁
  | ret r => exact c _ _ _ _ _ _ _ _ _ p (.ret r) X₁ e₁
theorem x_sub {sts : List Stmt} {ls' : List (Str × V)} {P : AFlow → List (Str × V) → List O → Prop} (k : SubL ls' ls) (h : AExecs G A env sts ls' S P) : AExecs G A env sts ls S P := fun ρ m cm s Q X c => h ρ m cm s Q (X.sub k) c

theorem s_return {e : Expr} {pos : Pos} {P : AFlow → List (Str × V) → List O → Prop} (h : AEval G A env e ls S fun v S₁ => P (.ret v) ls S₁) : AExec G A env (.Return (some e) pos) ls S P :=
  fun ρ m cm s Q X c => wpAny_Return_some (h ρ m cm s _ X fun v S₁ a ρ₁ h₁ t₁ p r H₁ e₁ => c _ ls S₁ _ ρ₁ m cm h₁ t₁ p (.ret r) (X.next H₁ e₁) (e₁.weak fun _ => False.elim))
theorem s_if {test : Expr} {body orelse : List Stmt} {pos : Pos} {P : AFlow → List (Str × V) → List O → Prop} (h : ATest G A env test ls S fun b S₁ => if b then AExecs G A env body ls S₁ P else AExecs G A env orelse ls S₁ P) : AExec G A env (.If test body orelse pos) ls S P := by
  intro ρ m cm s Q X c
  refine wpAny_If (h ρ m cm s _ X fun b S₁ a ρ₁ h₁ t₁ p r H₁ e₁ => ?_)
  have : a = b := r
  subst this
  cases a with
  | true => exact p ρ₁ m cm _ Q (X.next H₁ e₁) fun b l S' a ρ' m' cm' h' tk' hp hr X' e' => c b l S' a ρ' m' cm' h' tk' hp hr X' ((e₁.weak fun _ => False.elim).trans e')
  | false => exact p ρ₁ m cm _ Q (X.next H₁ e₁) fun b l S' a ρ' m' cm' h' tk' hp hr X' e' => c b l S' a ρ' m' cm' h' tk' hp hr X' ((e₁.weak fun _ => False.elim).trans e')
theorem s_continue {pos : Pos} {P : AFlow → List (Str × V) → List O → Prop} (h : P .cont ls S) : AExec G A env (.Continue pos) ls S P := fun ρ m cm s Q X c => wpAny_Continue (c _ ls S _ ρ m cm s.heap s.toks h .cont X .refl)
theorem s_assign {x : Str} {px pos : Pos} {value : Expr} {P : AFlow → List (Str × V) → List O → Prop} (ok : EnvOk env) (hx : Stored env x) (h : AEval G A env value ls S fun v S₁ => P .next (upd ls x v) S₁)
    (hs : swapsWith value (some (.Name x px)) pos.line env = pure false := by rfl) : AExec G A env (.Assign [.Name x px] value pos) ls S P :=
  fun ρ m cm s Q X c => wpAny_Assign_Name (h ρ m cm s _ X fun v S₁ a ρ₁ h₁ t₁ p r H₁ e₁ =>
    store_ ok hx (X.next H₁ e₁) r fun m' cm' h' tk' X' e' => c _ _ S₁ _ ρ₁ m' cm' h' tk' p .next X' ((e₁.weak fun _ => False.elim).trans e')) hs
theorem s_expr {e : Expr} {pos : Pos} {P : AFlow → List (Str × V) → List O → Prop} (h : AEval G A env e ls S fun v S₁ => v = .none ∧ P .next ls S₁) (hi : interactive env = false) (hs : swapsWith e none pos.line env = pure false := by rfl) :
    AExec G A env (.Expr e pos) ls S P :=
  fun ρ m cm s Q X c => wpAny_Expr (h ρ m cm s _ X fun v S₁ a ρ₁ h₁ t₁ p r H₁ e₁ => by
    obtain ⟨rfl, p⟩ := p
    (first | (replace r := VR.invInt r; obtain ⟨_, rfl⟩ := r) | (replace r := VR.invTop r; subst r) | cases r)
    exact c _ ls S₁ _ ρ₁ m cm h₁ t₁ p .next (X.next H₁ e₁) (e₁.weak fun _ => False.elim)) hi hs
theorem s_assignSub {o i value : Expr} {pos' pos : Pos} {P : AFlow → List (Str × V) → List O → Prop}
    (h : AEval G A env value ls S fun v S₁ => AEval G A env o ls S₁ fun ov S₂ => AEval G A env i ls S₂ fun iv S₃ => ASet G A ov iv v S₃ fun _ S₄ => P .next ls S₄)
    (hs : swapsWith value (some (.Subscript o i pos')) pos.line env = pure false := by rfl) : AExec G A env (.Assign [.Subscript o i pos'] value pos) ls S P := by
  intro ρ m cm s Q X c
  refine wpAny_Assign_Subscript (h ρ m cm s _ X fun v S₁ a ρ₁ h₁ t₁ p r₁ H₁ e₁ => ?_) hs
  refine p ρ₁ m cm _ _ (X.next H₁ e₁) fun ov S₂ oa ρ₂ h₂ t₂ p r₂ H₂ e₂ => ?_
  refine p ρ₂ m cm _ _ (X.next H₂ (e₁.trans e₂)) fun iv S₃ ia ρ₃ h₃ t₃ p r₃ H₃ e₃ => ?_
  refine p ρ₃ _ [oa, ia, a] _ H₃ (.cons (e₃.vr H₂ noX_tup r₂) (.cons r₃ (.cons ((e₂.trans e₃).vr H₁ noX_tup r₁) .nil))) fun _ S₄ _ ρ₄ h₄ t₄ p _ H₄ e₄ => ?_
  exact c _ ls S₄ _ ρ₄ m cm h₄ t₄ p .next (X.next H₄ (((e₁.trans e₂).trans e₃).trans e₄)) ((((e₁.trans e₂).trans e₃).trans e₄).weak fun _ => False.elim)

end
end
-- AW5
section
noncomputable def loopPost (P : AFlow → List (Str × V) → List O → Prop) (I : List (Str × V) → List O → Prop) : AFlow → List (Str × V) → List O → Prop
  | .next, ls, S => ∃ ls₃, SubL ls₃ ls ∧ I ls₃ S
  | .cont, ls, S => ∃ ls₃, SubL ls₃ ls ∧ I ls₃ S
  | .brk, ls, S => P .next ls S
  | .ret v, ls, S => P (.ret v) ls S

section
variable {G : Gx} {A : Around} {env : Env} {ls : List (Str × V)} {S : List O}

theorem s_while {test : Expr} {body : List Stmt} {pos : Pos} {P : AFlow → List (Str × V) → List O → Prop} (Inv : Nat → List (Str × V) → List O → Prop) {n : Nat} (h0 : ∃ ls₁, SubL ls₁ ls ∧ Inv n ls₁ S)
    (turn : ∀ Inv9 : Nat → List (Str × V) → List O → Prop, (∀ i l S', Inv i l S' → Inv9 i l S') → ∀ n ls S, Inv n ls S → ATest G A env test ls S fun b S₁ => if b then AExecs G A env body ls S₁ (loopPost P fun l s => ∃ m, m < n ∧ Inv9 m l s) else P .next ls S₁) :
    AExec G A env (.While test body [] pos) ls S P := by
  intro ρ m cm s Q X c
  replace turn := turn Inv fun _ _ _ x => x
  obtain ⟨ls₁, hsub, hI⟩ := h0
  refine wpAny_While (codeAny_whileLoop
    (fun n s' => ∃ l S' ρ' m' cm' h' tk', s' = { s with heap := h', toks := tk' } ∧ St G env l S' ρ' m' cm' h' ∧ Ext (FX env) ρ s.heap ρ' h' ∧ Inv n l S') ?_ n
    ⟨ls₁, S, ρ, m, cm, s.heap, s.toks, rfl, X.sub hsub, .refl, hI⟩)
  rintro n s' ⟨l, S', ρ', m', cm', h', tk', rfl, X', e', hI'⟩
  refine up (turn n l S' hI' ρ' m' cm' _ _ X' fun b S₁ a ρ₁ h₁ t₁ p r H₁ e₁ => ?_)
  have : a = b := r
  subst this
  have X₁ := X'.next H₁ e₁
  have E₁ : Ext (FX env) ρ s.heap ρ₁ h₁ := e'.trans (e₁.weak fun _ => False.elim)
  cases a with
  | true =>
    refine up (p ρ₁ m' cm' _ _ X₁ fun f l₂ S₂ fv ρ₂ m₂ cm₂ h₂ t₂ p₂ r₂ X₂ e₂ => ?_)
    cases r₂ with
    | next => obtain ⟨l₃, k₃, mm, hm, hi⟩ := p₂; exact ⟨mm, hm, l₃, S₂, ρ₂, m₂, cm₂, h₂, t₂, rfl, X₂.sub k₃, E₁.trans e₂, hi⟩
    | cont => obtain ⟨l₃, k₃, mm, hm, hi⟩ := p₂; exact ⟨mm, hm, l₃, S₂, ρ₂, m₂, cm₂, h₂, t₂, rfl, X₂.sub k₃, E₁.trans e₂, hi⟩
    | brk => exact c _ l₂ S₂ _ ρ₂ m₂ cm₂ h₂ t₂ p₂ .next X₂ (E₁.trans e₂)
    | ret r => exact c _ l₂ S₂ _ ρ₂ m₂ cm₂ h₂ t₂ p₂ (.ret r) X₂ (E₁.trans e₂)
  | false => exact wpAny_execs_nil (c _ l S₁ _ ρ₁ m' cm' h₁ t₁ p .next X₁ E₁)

-- what an iterator's source must give
structure Src (G : Gx) (A : Around) (env : Env) (vs : List V) (I : Addr) (Held : List O → Prop) (At : Nat → List Addr → List O → Heap → Prop) : Prop where
  item : ∀ (i : Nat) v ρ S (s : Shared) (Q : Option Value → Shared → Prop), vs[i]? = some v → At i ρ S s.heap → HS G ρ S s.heap → I ∉ ρ → G.h₀.get? I = none →
    (∀ x h' tk, VR ρ h' v x → At (i + 1) ρ S h' → Heap.ExtBut I s.heap h' → (∃ o, h'.get? I = some o) → Q (some x) { s with heap := h', toks := tk }) → wpAny G.M A (pyNext (.ref I)) Q noE s
  done : ∀ ρ S (s : Shared) (Q : Option Value → Shared → Prop), At vs.length ρ S s.heap → HS G ρ S s.heap → (∀ h' tk, Heap.ExtBut I s.heap h' → Q none { s with heap := h', toks := tk }) → wpAny G.M A (pyNext (.ref I)) Q noE s
  keep : ∀ i ρ S h ρ' S' h', At i ρ S h → HS G ρ S h → HS G ρ' S' h' → Ext (FX env) ρ h ρ' h' → (∀ b items, FX env b → ¬ IsTup h b items) → I ∉ ρ → ¬ FX env I → Held S' → At i ρ' S' h'
  notTup : ∀ i ρ S h, At i ρ S h → ∀ items, ¬ IsTup h I items
  live : ∀ i ρ S h, At i ρ S h → ∃ o, h.get? I = some o

theorem letOwned_name {x : Str} {px : Pos} {it v : Value} : letOwnedTupleGo (.Name x px) it v = pure () := rfl

theorem for_core {x : Str} {px : Pos} {body : List Stmt} {P : AFlow → List (Str × V) → List O → Prop} {vs : List V} {I : Addr} {Held : List O → Prop} {At : Nat → List Addr → List O → Heap → Prop}
    (W : Src G A env vs I Held At) (Inv : Nat → List (Str × V) → List O → Prop) (ok : EnvOk env) (hx : Stored env x) {ρ₀ : List Addr} {h₀ : Heap} {ρ m cm} {s : Shared} {Q : Flow → Shared → Prop}
    (X : St G env ls S ρ m cm s.heap) (E : Ext (FX env) ρ₀ h₀ ρ s.heap) (hn : h₀.get? I = none) (hI : I ∉ ρ) (h0 : G.h₀.get? I = none) (hX : ¬ FX env I) (hat : At 0 ρ S s.heap)
    (start : ∃ ls₁, SubL ls₁ ls ∧ Inv 0 ls₁ S) (held : ∀ i l S', Inv i l S' → Held S')
    (turn : ∀ (i : Nat) l S' v, Inv i l S' → vs[i]? = some v → AExecs G A env body (upd l x v) S' (loopPost P (Inv (i + 1))))
    (done : ∀ l S', Inv vs.length l S' → P .next l S')
    (c : ∀ b ls' S' a ρ' m' cm' h' tk', P b ls' S' → FlowR ρ' h' b a → St G env ls' S' ρ' m' cm' h' → Ext (FX env) ρ₀ h₀ ρ' h' → Q a { s with heap := h', toks := tk' }) :
    codeAny G.M A (.forLoop (.Name x px) (.ref I) body [] env) (fun r s' => match r with | .ok f => Q f s' | .error e => cameBackBy G.M A env noE e s') s := by
  obtain ⟨ls₁, hsub, hI0⟩ := start
  refine codeAny_forLoop_any
    (fun n s' => ∃ i l S' ρ' m' cm' h' tk', s' = { s with heap := h', toks := tk' } ∧ St G env l S' ρ' m' cm' h' ∧ Ext (FX env) ρ₀ h₀ ρ' h' ∧ Inv i l S' ∧ i ≤ vs.length ∧ n = vs.length + 1 - i ∧ I ∉ ρ' ∧ At i ρ' S' h') ?_ (vs.length + 1)
    ⟨0, ls₁, S, ρ, m, cm, s.heap, s.toks, rfl, X.sub hsub, E, hI0, Nat.zero_le _, rfl, hI, hat⟩
  rintro n s' ⟨i, l, S', ρ', m', cm', h', tk', rfl, X', e', hi, hle, rfl, hIρ, hat'⟩
  have nt := W.notTup i ρ' S' h' hat'
  by_cases hlt : i < vs.length
  · have hv : vs[i]? = some vs[i] := List.getElem?_eq_getElem hlt
    refine up (W.item i _ ρ' S' _ _ hv hat' X'.H hIρ h0 fun xv h₁ tk₁ r₁ hat₁ eb hlv => ?_)
    have X₁ := X'.touch eb nt hIρ h0 hX
    have E₁ := e'.touch eb hn
    refine wpAny_of_eq letOwned_name ?_
    refine up (wpAny_assign_Name (store_ ok hx X₁ r₁ fun m₂ cm₂ h₂ t₂ X₂ e₂ => ?_))
    have hat₂ := W.keep _ _ _ _ _ _ _ hat₁ X₁.H X₂.H e₂ X₁.F.notTup hIρ hX (held _ _ _ hi)
    refine up (turn i l S' _ hi hv ρ' m₂ cm₂ _ _ X₂ fun f l₃ S₃ fv ρ₃ m₃ cm₃ h₃ t₃ p₃ r₃ X₃ e₃ => ?_)
    have E₃ := (E₁.trans e₂).trans e₃
    have hI₃ : I ∉ ρ₃ := fun hm => by
      obtain ⟨y, rfl, hy⟩ := e₃.pre
      rcases List.mem_append.mp hm with hm | hm
      · exact hIρ hm
      · obtain ⟨o, ho⟩ := W.live _ _ _ _ hat₂; rw [hy I hm] at ho; cases ho
    cases r₃ with
    | next =>
      obtain ⟨l₄, k₄, hi₄⟩ := p₃
      exact ⟨vs.length + 1 - (i + 1), by omega, i + 1, l₄, S₃, ρ₃, m₃, cm₃, h₃, t₃, rfl, X₃.sub k₄, E₃, hi₄, hlt, rfl, hI₃, W.keep _ _ _ _ _ _ _ hat₂ X₂.H X₃.H e₃ X₂.F.notTup hIρ hX (held _ _ _ hi₄)⟩
    | cont =>
      obtain ⟨l₄, k₄, hi₄⟩ := p₃
      exact ⟨vs.length + 1 - (i + 1), by omega, i + 1, l₄, S₃, ρ₃, m₃, cm₃, h₃, t₃, rfl, X₃.sub k₄, E₃, hi₄, hlt, rfl, hI₃, W.keep _ _ _ _ _ _ _ hat₂ X₂.H X₃.H e₃ X₂.F.notTup hIρ hX (held _ _ _ hi₄)⟩
    | brk => exact c _ l₃ S₃ _ ρ₃ m₃ cm₃ h₃ t₃ p₃ .next X₃ E₃
    | ret r => exact c _ l₃ S₃ _ ρ₃ m₃ cm₃ h₃ t₃ p₃ (.ret r) X₃ E₃
  · have hin : i = vs.length := by omega
    subst hin
    refine up (W.done ρ' S' _ _ hat' X'.H fun h₁ tk₁ eb => ?_)
    exact wpAny_execs_nil (c _ l S' _ ρ' m' cm' h₁ tk₁ (done l S' hi) .next (X'.touch eb nt hIρ h0 hX) (e'.touch eb hn))

-- the three sources
noncomputable def AtTup (t I : Addr) (items : Array Value) (vs : List V) (i : Nat) (ρ : List Addr) (_ : List O) (h : Heap) : Prop := IsTupIter h I t i ∧ IsTup h t items ∧ VRs ρ h vs items.toList
noncomputable def AtList (n : Nat) (l I : Addr) (vs : List V) (i : Nat) (ρ : List Addr) (S : List O) (h : Heap) : Prop := h.IsListIter I l i ∧ ρ[n]? = some l ∧ S[n]? = some (.list vs)
noncomputable def AtRange (I : Addr) (a : Int) (n : Nat) (i : Nat) (_ : List Addr) (_ : List O) (h : Heap) : Prop := IsRangeIter h I (a + i) ((n : Int) - i) 1

theorem fields_notTup {h : Heap} {I : Addr} {o : Obj} (ho : h.get? I = some o) {vs} (hd : o.data = .fields vs) : ∀ items, ¬ IsTup h I items := by
  rintro items ⟨o', ho', _, n, hd'⟩
  rw [ho] at ho'; cases ho'; rw [hd] at hd'; cases hd'

theorem src_tup (hh : A.handled = none) {t I : Addr} {items : Array Value} {vs : List V} : Src G A env vs I (fun _ => True) (AtTup t I items vs) where
  item := fun i v ρ S s Q hv ⟨a1, a2, a3⟩ H hI h0 c => by
    obtain ⟨x, hx, r⟩ := a3.get hv
    have nt : ∀ its, ¬ IsTup s.heap I its := by obtain ⟨o, ho, _, hd⟩ := id a1; exact fields_notTup ho hd
    refine next_tuple_item a1 a2 (x := x) (by simpa using hx) fun h' b1 b2 => ?_
    have tu := fun c its => tup_touch (h := s.heap) b2.extBut nt c its
    exact c x h' s.toks (r.mono (fun _ _ e => e) tu) ⟨b1, tu _ _ a2, a3.mono (fun _ _ e => e) tu⟩ b2.extBut (let ⟨o, ho, _⟩ := b1; ⟨o, ho⟩)
  done := fun ρ S s Q ⟨a1, a2, a3⟩ H c => next_tuple_end hh a1 a2 (by have := a3.length; simp at this; simp [← this]) fun h' b => c h' s.toks b
  keep := fun i ρ S h ρ' S' h' ⟨a1, a2, a3⟩ H H' e k hI hX _ => by
    obtain ⟨o, ho, r⟩ := a1
    exact ⟨⟨o, e.pres I o ho hI hX, r⟩, e.tup H k _ _ a2, e.vrs H k a3⟩
  notTup := fun i ρ S h ⟨a1, _⟩ => let ⟨o, ho, _, hd⟩ := a1; fields_notTup ho hd
  live := fun i ρ S h ⟨a1, _⟩ => let ⟨o, ho, _⟩ := a1; ⟨o, ho⟩

theorem src_list (hh : A.handled = none) {n : Nat} {l I : Addr} {vs : List V} : Src G A env vs I (fun S => S[n]? = some (.list vs)) (AtList n l I vs) where
  item := fun i v ρ S s Q hv ⟨a1, a2, a3⟩ H hI h0 c => by
    obtain ⟨items, il, vr⟩ := H.objs n l _ a2 a3
    obtain ⟨x, hx, r⟩ := vr.get hv
    have nt : ∀ its, ¬ IsTup s.heap I its := by obtain ⟨o, ho, _, hd⟩ := id a1; exact fields_notTup ho hd
    refine wpAny_pyNext_list_item a1 il.isList (x := x) (by simpa using hx) fun h' b1 b2 => ?_
    exact c x h' s.toks (r.mono (fun _ _ e => e) fun c its => tup_touch b2.extBut nt c its) ⟨b1, a2, a3⟩ b2.extBut (let ⟨o, ho, _⟩ := b1; ⟨o, ho⟩)
  done := fun ρ S s Q ⟨a1, a2, a3⟩ H c => by
    obtain ⟨items, il, vr⟩ := H.objs n l _ a2 a3
    exact wpAny_pyNext_list_end hh a1 il.isList (by have := vr.length; simp at this; simp [← this]) fun h' b => c h' s.toks b
  keep := fun i ρ S h ρ' S' h' ⟨a1, a2, a3⟩ H H' e k hI hX hs => by
    obtain ⟨o, ho, r⟩ := a1
    exact ⟨⟨o, e.pres I o ho hI hX, r⟩, e.idx _ _ a2, hs⟩
  notTup := fun i ρ S h ⟨a1, _⟩ => let ⟨o, ho, _, hd⟩ := a1; fields_notTup ho hd
  live := fun i ρ S h ⟨a1, _⟩ => let ⟨o, ho, _⟩ := a1; ⟨o, ho⟩

theorem src_range (hh : A.handled = none) {I : Addr} {a : Int} {n : Nat} : Src G A env ((List.range n).map fun (i : Nat) => V.int (a + (i : Int))) I (fun _ => True) (AtRange I a n) where
  item := fun i v ρ S s Q hv a1 H hI h0 c => by
    have hi : i < n := by
      have := (List.getElem?_eq_some_iff.mp hv).1
      simpa using this
    have hv' : v = .int (a + i) := by
      rw [List.getElem?_map, List.getElem?_range hi] at hv
      simpa using hv.symm
    subst hv'
    refine wpAny_pyNext_range_item a1 (by omega) fun h' b1 b2 => ?_
    refine c _ h' _ .int ?_ b2.extBut ⟨_, b1⟩
    show IsRangeIter h' I (a + ((i + 1 : Nat) : Int)) ((n : Int) - ((i + 1 : Nat) : Int)) 1
    rw [show a + ((i + 1 : Nat) : Int) = a + i + 1 by omega, show (n : Int) - ((i + 1 : Nat) : Int) = n - i - 1 by omega]
    exact b1
  done := fun ρ S s Q a1 H c => wpAny_pyNext_range_end hh a1 (by simp) fun h' b => c h' s.toks b
  keep := fun i ρ S h ρ' S' h' a1 H H' e k hI hX _ => e.pres I _ a1 hI hX
  notTup := fun i ρ S h a1 => fields_notTup a1 rfl
  live := fun i ρ S h a1 => ⟨_, a1⟩

end
end
-- AW6
section
noncomputable def app : List Value → Sem Value
  | f :: r => call f r
  | [] => unsupported ""
noncomputable abbrev AApp (G : Gx) (A : Around) (f : V) (vs : List V) (S : List O) (P : V → List O → Prop) : Prop := AOp G A app VR (f :: vs) S P
noncomputable def Keep (G : Gx) (f : V) (S : List O) : Prop := ∀ ρ h val, HS G ρ S h → VR ρ h f val → ∃ k, (k = Keeper.frame ∨ k = Keeper.machine ∨ k = Keeper.boundFrame) ∧ Looks G.M h (keeperOf val) k
theorem keep_plain {G S} {v : Value} (h : ∀ a, v ≠ .ref a) : Keep G (.top v) S := by
  intro ρ h' val H r
  (first | (replace r := VR.invInt r; obtain ⟨_, rfl⟩ := r) | (replace r := VR.invTop r; subst r) | cases r)
  refine ⟨.machine, .inr (.inl rfl), ?_⟩
  cases v <;> first | exact absurd rfl (h _) | exact Looks.of_pure rfl
theorem keep_K {G : Gx} {S} {v : Value} (hk : keepIn G.K v = true) : Keep G (.top v) S := by
  intro ρ h' val H r
  (first | (replace r := VR.invInt r; obtain ⟨_, rfl⟩ := r) | (replace r := VR.invTop r; subst r) | cases r)
  exact keeps_K hk h' fun a o e => H.base a o (G.X a o e)

theorem evalArgs_any {M : Model} {A : Around} {E : Value → Shared → Prop} {s : Shared} {f : Value} {args : List (Bool × Sem Value)} {Q : Args → Shared → Prop} (hp : args.any (·.1) = false)
    (h : wpAny M A (spliced args) (fun vs s' => Q { pos := vs } s') E s) : wpAny M A (evalArgs f true args []) Q E s := by
  cases args with
  | nil =>
    unfold evalArgs
    show wpAny M A (spliced [] >>= _) Q E s
    refine wpAny_bind (wpAny_mono h (fun vs s' h' => ?_) fun _ _ x => x)
    refine wpAny_bind (wpAny_pure ?_)
    refine wpAny_holding ?_
    exact wpAny_bind (wpAny_pure (wpAny_bind (wpAny_pure (wpAny_pure h'))))
  | cons x r =>
    obtain ⟨b, t⟩ := x
    have : b = false := by cases b <;> simp_all
    subst this
    exact evalArgs_plain h

section
variable {G : Gx} {A : Around} {env : Env} {ls : List (Str × V)} {S : List O}

theorem aCall {f : Expr} {args : List Expr} {pos : Pos} {P : V → List O → Prop}
    (h : AEval G A env f ls S fun fv S₁ => AArgs G A env pos args ls S₁ fun vs S₂ => Keep G fv S₂ ∧ AApp G A fv vs S₂ P)
    (he : eval (.Call f args [] pos) env = (do callWith pos (← eval f env) [] (backTo pos (starEach args env)) []) := by rfl)
    (hp : (backTo pos (starEach args env)).any (·.1) = false := by rfl) : AEval G A env (.Call f args [] pos) ls S P := by
  intro ρ m cm s Q X c
  rw [he]
  refine wpAny_bind (h ρ m cm s _ X fun fv S₁ fa ρ₁ h₁ t₁ p₁ r₁ H₁ e₁ => ?_)
  refine callWith_of (P := fun hh => ∃ k, (k = Keeper.frame ∨ k = Keeper.machine ∨ k = Keeper.boundFrame) ∧ Looks G.M hh (keeperOf fa) k) (by rw [hp]; rfl) (fun _ p => p) (evalArgs_any hp ?_)
  refine p₁ ρ₁ m cm _ _ (X.next H₁ e₁) fun vs S₂ as ρ₂ h₂ t₂ p₂ r₂ H₂ e₂ => ?_
  have rf := e₂.vr H₁ noX_tup r₁
  exact ⟨p₂.1 ρ₂ h₂ fa H₂ rf, p₂.2 ρ₂ _ (fa :: as) Q H₂ (.cons rf r₂) fun b S' a ρ' h' tk' hp hr H' e' => c b S' a ρ' h' tk' hp hr H' ((e₁.trans e₂).trans e')⟩

-- a value's items where it is a sequence
noncomputable def SeqV (v : V) (S : List O) (vs : List V) : Prop := v = .tup vs ∨ ∃ n, v = .ref n ∧ S[n]? = some (.list vs)

theorem s_for {x : Str} {px pos : Pos} {iter : Expr} {body : List Stmt} {P : AFlow → List (Str × V) → List O → Prop} (ok : EnvOk env) (hx : Stored env x) (hh : A.handled = none)
    (h : AEval G A env iter ls S fun v S₁ => ∃ (vs : List V) (Inv : Nat → List (Str × V) → List O → Prop), SeqV v S₁ vs ∧ (∃ ls₁, SubL ls₁ ls ∧ Inv 0 ls₁ S₁) ∧ (∀ i l S', Inv i l S' → SeqV v S' vs) ∧
      (∀ Inv9 : Nat → List (Str × V) → List O → Prop, (∀ i l S', Inv i l S' → Inv9 i l S') → ∀ (i : Nat) l S' v, Inv i l S' → vs[i]? = some v → AExecs G A env body (upd l x v) S' (loopPost P (Inv9 (i + 1)))) ∧ (∀ l S', Inv vs.length l S' → P .next l S'))
    (hs : ∀ x, foldedSetIterable iter env x = pure x := by intro _; rfl) : AExec G A env (.For (.Name x px) iter body [] pos) ls S P := by
  intro ρ m cm s Q X c
  refine wpAny_For (h ρ m cm s _ X fun v S₁ a ρ₁ h₁ t₁ p₁ r₁ H₁ e₁ => ?_) hs
  obtain ⟨vs, Inv, hv, start, held, turn, done⟩ := p₁
  replace turn := turn Inv fun _ _ _ x => x
  have X₁ := X.next H₁ e₁
  have E₁ : Ext (FX env) ρ s.heap ρ₁ h₁ := e₁.weak fun _ => False.elim
  obtain ⟨f1, f2, f3⟩ := X₁.fresh
  have hn : s.heap.get? h₁.objs.size = none := by
    cases e : s.heap.get? h₁.objs.size with
    | none => rfl
    | some o => obtain ⟨o', ho'⟩ := e₁.live _ _ e; rw [get_push_none] at ho'; cases ho'
  have push : ∀ o : Obj, (∀ items, ¬ IsTup (h₁.push o) h₁.objs.size items) → St G env ls S₁ ρ₁ m cm (h₁.push o) ∧ Ext (FX env) ρ s.heap ρ₁ (h₁.push o) := fun o _ => by
    have eb : Heap.ExtBut h₁.objs.size h₁ (h₁.push o) := fun b ob _ e => Heap.get?_push_of_some _ e
    have nt : ∀ items, ¬ IsTup h₁ h₁.objs.size items := fun items ⟨o', ho', _⟩ => by rw [get_push_none] at ho'; cases ho'
    exact ⟨X₁.touch eb nt f1 f2 f3, E₁.touch eb hn⟩
  rcases hv with rfl | ⟨n, rfl, hS⟩
  · cases r₁ with
    | @tup _ t items it vr =>
      refine up (iter_tuple it ?_)
      obtain ⟨X₂, E₂⟩ := push { cls := .type "tuple_iterator", data := .fields #[.ref t, .int 0 0] } (fields_notTup (Heap.get?_push_size _ rfl) rfl)
      have tu : ∀ c its, IsTup h₁ c its → IsTup (h₁.push { cls := .type "tuple_iterator", data := .fields #[.ref t, .int 0 0] }) c its := fun c its ⟨o, ho, r⟩ => ⟨o, Heap.get?_push_of_some _ ho, r⟩
      exact for_core (src_tup hh) Inv ok hx (s := { s with heap := _, toks := t₁ }) X₂ E₂ hn f1 f2 f3 ⟨⟨_, Heap.get?_push_size _ rfl, rfl, rfl⟩, tu _ _ it, vr.mono (fun _ _ e => e) tu⟩ start (fun _ _ _ _ => trivial) turn done c
  · cases r₁ with
    | @ref _ l hl =>
      obtain ⟨items, il, vr⟩ := H₁.objs n l _ hl hS
      refine up (wpAny_pyIter_list il.isList ?_)
      obtain ⟨X₂, E₂⟩ := push { cls := .type "list_iterator", data := .fields #[.ref l, .int 0 0] } (fields_notTup (Heap.get?_push_size _ rfl) rfl)
      exact for_core (src_list hh (n := n) (l := l)) Inv ok hx (s := { s with heap := _, toks := t₁ }) X₂ E₂ hn f1 f2 f3 ⟨⟨_, Heap.get?_push_size _ rfl, rfl, rfl⟩, hl, hS⟩ start
        (fun i l S' hi => by
          rcases held i l S' hi with h | ⟨n', h, k⟩
          · cases h
          · cases h; exact k) turn done c

theorem range_size {a : Int} {n : Nat} : Builtin.Range.rangeSize a (a + n) 1 = n := by
  rw [rangeSize_one]
  split <;> omega
-- for over range(n) or range(a, b)
theorem s_forRange {x : Str} {px pos pr pc : Pos} {args : List Expr} {body : List Stmt} {P : AFlow → List (Str × V) → List O → Prop} (ok : EnvOk env) (hx : Stored env x) (hh : A.handled = none)
    (hg : env.kindOf "range" = some .globalImplicit) (hk : nsIn G.K mainGlobals "range" = some none)
    (h : AArgs G A env pc args ls S fun vs S₁ => ∃ (a : Int) (n : Nat) (Inv : Nat → List (Str × V) → List O → Prop), (vs = [.int n] ∧ a = 0 ∨ vs = [.int a, .int (a + n)]) ∧ -(2 ^ 60) ≤ a ∧ a + n < 2 ^ 60 ∧ (∃ ls₁, SubL ls₁ ls ∧ Inv 0 ls₁ S₁) ∧
      (∀ Inv9 : Nat → List (Str × V) → List O → Prop, (∀ i l S', Inv i l S' → Inv9 i l S') → ∀ (i : Nat) l S', Inv i l S' → i < n → AExecs G A env body (upd l x (.int (a + i))) S' (loopPost P (Inv9 (i + 1)))) ∧ (∀ l S', Inv n l S' → P .next l S'))
    (hs : ∀ x, foldedSetIterable (.Call (.Name "range" pr) args [] pc) env x = pure x := by intro _; rfl)
    (he : eval (.Call (.Name "range" pr) args [] pc) env = (do callWith pc (← eval (.Name "range" pr) env) [] (backTo pc (starEach args env)) []) := by rfl)
    (hp : (backTo pc (starEach args env)).any (·.1) = false := by rfl) : AExec G A env (.For (.Name x px) (.Call (.Name "range" pr) args [] pc) body [] pos) ls S P := by
  intro ρ m cm s Q X c
  refine wpAny_For ?_ hs
  rw [he]
  refine wpAny_bind (aBuiltin (P := fun v S₁ => v = .top (.type "range") ∧ S₁ = S) ok hg hk (by boot_fast) (by decide) ⟨rfl, rfl⟩ (by decide) ρ m cm s _ X fun fv S₁ fa ρ₁ h₁ t₁ p₁ r₁ H₁ e₁ => ?_)
  obtain ⟨rfl, rfl⟩ := p₁
  (first | (replace r₁ := VR.invInt r₁; obtain ⟨_, rfl⟩ := r₁) | (replace r₁ := VR.invTop r₁; subst r₁) | cases r₁)
  refine callWith_of (P := fun _ => True) (by rw [hp]; rfl) (fun _ p => ⟨.machine, .inr (.inl rfl), Looks.of_pure rfl⟩) (evalArgs_any hp ?_)
  refine h ρ₁ m cm _ _ (X.next H₁ e₁) fun vs S₂ as ρ₂ h₂ t₂ p₂ r₂ H₂ e₂ => ⟨trivial, ?_⟩
  obtain ⟨a, n, Inv, hvs, hlo, hhi, start, turn, done⟩ := p₂
  replace turn := turn Inv fun _ _ _ x => x
  have X₂ := X.next H₂ (e₁.trans e₂)
  have E₂ : Ext (FX env) ρ s.heap ρ₂ h₂ := (e₁.trans e₂).weak fun _ => False.elim
  have fin : ∀ (t u v : Tok) (tk : Nat), wpAny G.M A (pyIter (.ref h₂.objs.size)) (fun it s₃ => codeAny G.M A (.forLoop (.Name x px) it body [] env) (fun r s' => match r with | .ok f => Q f s' | .error e => cameBackBy G.M A env noE e s') s₃) noE
      { s with heap := h₂.push { cls := .type "range", data := .fields #[.int a t, .int (a + n) u, .int 1 v] }, toks := tk } := by
    intro t u v tk
    have hsm : Builtin.Range.small a (a + n) 1 = true := small_one (by omega) (by omega) (by omega) (by omega)
    refine wpAny_pyIter_range (IsRange.new h₂ a (a + n) 1 t u v) hsm ?_
    rw [range_size]
    generalize hob : ({ cls := .type "range", data := .fields #[.int a t, .int (a + n) u, .int 1 v] } : Obj) = ob
    have sz : (h₂.push ob).objs.size = h₂.objs.size + 1 := Heap.size_push ..
    have step : ∀ (hh : Heap) (o : Obj), St G env ls S₂ ρ₂ m cm hh → Ext (FX env) ρ s.heap ρ₂ hh → St G env ls S₂ ρ₂ m cm (hh.push o) ∧ Ext (FX env) ρ s.heap ρ₂ (hh.push o) := fun hh o Y Z => by
      obtain ⟨f1, f2, f3⟩ := Y.fresh
      have eb : Heap.ExtBut hh.objs.size hh (hh.push o) := fun b ob _ e => Heap.get?_push_of_some _ e
      have nt : ∀ items, ¬ IsTup hh hh.objs.size items := fun items ⟨o', ho', _⟩ => by rw [get_push_none] at ho'; cases ho'
      refine ⟨Y.touch eb nt f1 f2 f3, Z.touch eb ?_⟩
      cases e : s.heap.get? hh.objs.size with
      | none => rfl
      | some o => obtain ⟨o', ho'⟩ := Z.live _ _ e; rw [get_push_none] at ho'; cases ho'
    obtain ⟨X₃, E₃⟩ := step h₂ ob X₂ E₂
    obtain ⟨f1, f2, f3⟩ := X₃.fresh
    have hn : s.heap.get? (h₂.push ob).objs.size = none := by
      cases e : s.heap.get? (h₂.push ob).objs.size with
      | none => rfl
      | some o => obtain ⟨o', ho'⟩ := E₃.live _ _ e; rw [get_push_none] at ho'; cases ho'
    obtain ⟨X₄, E₄⟩ := step _ { cls := .type "range_iterator", data := .fields #[.int a 0, .int n 0, .int 1 0] } X₃ E₃
    refine for_core (src_range hh (a := a) (n := n)) Inv ok hx (s := { s with heap := _, toks := tk }) X₄ E₄ hn f1 f2 f3 ?_ start (fun _ _ _ _ => trivial) (fun i l S' v hi hv => ?_) (by simpa using done) c
    · show IsRangeIter _ _ (a + ((0 : Nat) : Int)) ((n : Int) - ((0 : Nat) : Int)) 1
      rw [show a + ((0 : Nat) : Int) = a by omega, show (n : Int) - ((0 : Nat) : Int) = n by omega]
      exact Heap.get?_push_size _ rfl
    · have hin : i < n := by
        have := (List.getElem?_eq_some_iff.mp hv).1
        simpa using this
      rw [List.getElem?_map, List.getElem?_range hin] at hv
      have : v = .int (a + i) := by simpa using hv.symm
      subst this
      exact turn i l S' hi hin
  rcases hvs with ⟨rfl, rfl⟩ | rfl
  · cases r₂ with
    | cons r z =>
      (first | (replace z := VRs.invNil z; subst z) | cases z); (first | (replace r := VR.invInt r; obtain ⟨_, rfl⟩ := r) | (replace r := VR.invTop r; subst r) | cases r)
      refine call_range_1 ?_
      have := fin
      simp only [Int.zero_add] at this
      exact this _ _ _ _
  · cases r₂ with
    | cons r z =>
      (first | (replace r := VR.invInt r; obtain ⟨_, rfl⟩ := r) | (replace r := VR.invTop r; subst r) | cases r)
      replace z := VRs.invCons z; obtain ⟨_, _, rfl, r, z⟩ := z
      (first | (replace z := VRs.invNil z; subst z) | cases z); (first | (replace r := VR.invInt r; obtain ⟨_, rfl⟩ := r) | (replace r := VR.invTop r; subst r) | cases r)
      exact call_range_2 (fin _ _ _ _)

end
end
-- AW7
section
noncomputable def Room (A : Around) (n : Nat) : Prop := A.handled = none ∧ A.depth + n < recursionLimit ∧ A.units + 8 * n < cLine
theorem Room.deeper {A : Around} {n : Nat} (r : Room A (n + 1)) (env : Env) : Room (A.deeper env) n := by
  obtain ⟨a, b, c⟩ := r
  refine ⟨a, ?_, ?_⟩
  · show A.depth + 1 + n < _; omega
  · show A.units + 3 + 8 * n < _; omega
theorem Room.le {A : Around} {n k : Nat} (r : Room A n) (h : k ≤ n) : Room A k := ⟨r.1, by have := r.2.1; omega, by have := r.2.2; omega⟩
theorem Room.hh {A : Around} {n : Nat} (r : Room A n) : A.handled = none := r.1
theorem Room.depth {A : Around} {n : Nat} (r : Room A n) : A.depth < recursionLimit := by have := r.2.1; omega
theorem Room.units {A : Around} {n : Nat} (r : Room A n) : A.units < cLine := by have := r.2.2; omega

noncomputable def retPost (P : V → List O → Prop) (fl : AFlow) (_ : List (Str × V)) (S : List O) : Prop := P (match fl with | .ret v => v | _ => .none) S

theorem lookup_zip_reverse {α : Type} : ∀ (ps : List Str) (vs : List α), ps.Nodup → ∀ x, (ps.zip vs).reverse.lookup x = (ps.zip vs).lookup x
  | [], _, _, _ => rfl
  | _ :: _, [], _, _ => rfl
  | p :: ps, v :: vs, nd, x => by
    obtain ⟨h1, h2⟩ := List.nodup_cons.mp nd
    have ih := lookup_zip_reverse ps vs h2 x
    have app : ∀ (l m : List (Str × α)), (l ++ m).lookup x = (l.lookup x).or (m.lookup x) := by
      intro l m
      induction l with
      | nil => simp
      | cons q r ih =>
        obtain ⟨k, u⟩ := q
        simp only [List.cons_append, List.lookup]
        cases x == k <;> simp [ih]
    rw [List.zip_cons_cons, List.reverse_cons, app, ih]
    simp only [List.lookup]
    cases e : x == p with
    | false => simp
    | true =>
      have : x = p := by simpa using e
      subst this
      have : (ps.zip vs).lookup x = none := by
        cases q : (ps.zip vs).lookup x with
        | none => rfl
        | some u =>
          exfalso
          have mem : ∀ (ps : List Str) (vs : List α), (ps.zip vs).lookup x = some u → x ∈ ps := by
            intro ps
            induction ps with
            | nil => intro vs h; simp at h
            | cons p ps ih =>
              intro vs h
              cases vs with
              | nil => simp at h
              | cons v vs =>
                simp only [List.zip_cons_cons, List.lookup] at h
                cases e : x == p with
                | true => simp at e; simp [e]
                | false => rw [e] at h; exact List.mem_cons_of_mem _ (ih vs h)
          exact h1 (mem ps vs q)
      rw [this]; rfl
theorem lookup_zip_vr {ρ h} : ∀ (ps : List Str) {vs : List V} {xs : List Value}, VRs ρ h vs xs → ∀ {x v}, (ps.zip vs).lookup x = some v → ∃ val, (ps.zip xs).lookup x = some val ∧ VR ρ h v val
  | [], _, _, _, _, _, e => by simp at e
  | _ :: _, _, _, .nil, _, _, e => by simp at e
  | p :: ps, _, _, .cons a b, x, v, e => by
    simp only [List.zip_cons_cons, List.lookup] at e ⊢
    cases q : x == p with
    | true => rw [q] at e; cases e; exact ⟨_, rfl, a⟩
    | false => rw [q] at e; exact lookup_zip_vr ps b e
theorem mem_of_lookup_zip {α : Type} : ∀ (ps : List Str) (vs : List α) {x u}, (ps.zip vs).lookup x = some u → x ∈ ps
  | [], _, _, _, h => by simp at h
  | _ :: _, [], _, _, h => by simp at h
  | p :: ps, v :: vs, x, u, h => by
    simp only [List.zip_cons_cons, List.lookup] at h
    cases e : x == p with
    | true => simp at e; simp [e]
    | false => rw [e] at h; exact List.mem_cons_of_mem _ (mem_of_lookup_zip ps vs h)

-- what a function object in the heap must be
theorem aFunF {G : Gx} {A : Around} {fv : V} {args : List V} {S : List O} {P : V → List O → Prop} {ps : List Str} {fd : List Addr → FuncData} {ids : List Nat} {body : List Stmt} (Pa : Addr → Prop) (cl : List (Str × Addr)) (frees : List (Str × V))
    (hfree : ∀ as x c, cl.lookup x = some c → (fd as).scope.names.lookup x = some .free ∧ (x == ("__classdict__" : Str)) = false ∧ ∃ o v, G.h₀.get? c = some o ∧ o.data = .cell (some v)) (hinj : ∀ x y c, cl.lookup x = some c → cl.lookup y = some c → x = y)
    (hfr : ∀ ρ h, HS G ρ S h → ∀ x v, frees.lookup x = some v → ∃ c val o, cl.lookup x = some c ∧ G.h₀.get? c = some o ∧ o.data = .cell (some val) ∧ VR ρ h v val)
    (hfn : ∀ ρ h val, HS G ρ S h → VR ρ h fv val → ∃ a o as, val = .ref a ∧ Pa a ∧ h.get? a = some o ∧ ids.map (fun n => ρ[n]?) = as.map some ∧ o.data = .func (fd as) ∧ h.CodeRec (fd as).code (fd as).qualname)
    (hbody : ∀ as, (fd as).body = .stmts body) (hg : ∀ as, (fd as).globals = mainGlobals ∧ (fd as).builtins = builtinsNs) (hroom : A.depth < recursionLimit) (hlen : ps.length = args.length)
    (hbind : ∀ as (vals : List Value), vals.length = ps.length → bindArgs (fd as) ⟨vals, []⟩ = pure (ps.zip vals)) (hloc : ∀ as, ∀ x ∈ ps, (fd as).scope.names.lookup x = some .local) (hnd : ps.Nodup)
    (hcell : ∀ as, ∀ x ∈ (fd as).scope.names, x.2 ≠ .cell) (hco : ∀ as, (fd as).scope.isCoroutine = false) (hgen : ∀ as, (fd as).scope.isGenerator = false) (hk : ∀ as, (fd as).scope.kind = .function)
    (hcl : ∀ as, (fd as).closure = cl)
    (hb : ∀ as a L, Pa a → AExecs G (A.deeper (callEnv (fd as) L a)) (callEnv (fd as) L a) body (ps.zip args ++ frees) S (retPost P)) : AApp G A fv args S P := by
  intro ρ s vals Q H hv c
  replace hv := VRs.invCons hv; obtain ⟨fval, xs, rfl, rf, rs⟩ := hv
  obtain ⟨a, o, as, rfl, hpa, ho, hids, hd, hcd⟩ := hfn ρ s.heap fval H rf
  have hxs : xs.length = ps.length := by rw [← rs.length, hlen]
  show wpAny G.M A (call (.ref a) xs) Q noE s
  refine wpAny_call (codeAny_call_def (fd := fd as) (body := body) (binds := ps.zip xs) hroom ho hd (G.T.nolimit.keeps H.base) hcd (hbody as) (.of_eq (hbind as xs hxs)) (hcell as) (fun y hy => hloc as y.1 (List.of_mem_zip hy).1)
    (fun h₁ hns hk₁ => ?_) (hco as) (hgen as) (hk as))
  have eb : Heap.ExtBut s.heap.objs.size s.heap h₁ := fun b o _ e => hk₁ b o e
  have nt : ∀ items, ¬ IsTup s.heap s.heap.objs.size items := fun items ⟨o', ho', _⟩ => by rw [get_push_none] at ho'; cases ho'
  obtain ⟨hLρ, hL0⟩ := H.fresh
  have H₁ : HS G ρ S h₁ := H.touch eb nt hLρ hL0
  have rs₁ : VRs ρ h₁ args xs := rs.mono (fun _ _ e => e) (tup_touch eb nt)
  have cellOf : ∀ x c, cl.lookup x = some c → h₁.IsCell c (match G.h₀.get? c with | some o => (match o.data with | .cell v => v | _ => none) | none => none) := fun x c e => by
    obtain ⟨_, _, o, v, ho', hd'⟩ := hfree as x c e
    refine ⟨o, H₁.base c o ho', ?_⟩
    simp only [ho', hd']
  have X₁ : St G (callEnv (fd as) s.heap.objs.size a) (ps.zip args ++ frees) S ρ (fun x => (ps.zip xs).reverse.lookup x) (fun x => match cl.lookup x with | some c => (match G.h₀.get? c with | some o => (match o.data with | .cell v => v | _ => none) | none => none) | none => none) h₁ := by
    refine ⟨H₁, ⟨hns, hL0, hLρ, fun x c e => ?_, fun x y c e e' => hinj x y c (hcl as ▸ e) (hcl as ▸ e')⟩, fun x v e => ?_⟩
    · have e' : cl.lookup x = some c := hcl as ▸ e
      obtain ⟨hkf, _, o, v, ho', hd'⟩ := hfree as x c e'
      refine ⟨?_, fun hm => ?_, fun q => ?_, fun q => ?_, fun _ => ⟨o, ho'⟩⟩
      · simpa only [e'] using cellOf x c e'
      · rw [H₁.off c hm] at ho'; cases ho'
      · rw [q, show G.h₀.get? (callEnv (fd as) s.heap.objs.size a).locals = none from hL0] at ho'; cases ho'
      · rw [show (callEnv (fd as) s.heap.objs.size a).kindOf x = some .free from hkf] at q; cases q
    · have appl : ∀ (l m : List (Str × V)), (l ++ m).lookup x = (l.lookup x).or (m.lookup x) := by
        intro l m
        induction l with
        | nil => simp
        | cons q r ih =>
          obtain ⟨k, u⟩ := q
          simp only [List.cons_append, List.lookup]
          cases x == k <;> simp [ih]
      rw [appl] at e
      cases q : (ps.zip args).lookup x with
      | some u =>
        rw [q] at e
        simp at e
        subst e
        obtain ⟨val, e', r⟩ := lookup_zip_vr ps rs₁ q
        exact ⟨val, r, .inl ⟨hloc as x (mem_of_lookup_zip ps _ q), by rw [lookup_zip_reverse ps xs hnd]; exact e'⟩⟩
      | none =>
        rw [q] at e
        simp at e
        obtain ⟨c, val, o, e', ho', hd', r⟩ := hfr ρ h₁ H₁ x v e
        obtain ⟨hkf, hcd, _⟩ := hfree as x c e'
        exact ⟨val, r, .inr ⟨c, .inr ⟨hkf, hcd⟩, by rw [show (callEnv (fd as) s.heap.objs.size a).cells = cl from hcl as]; exact e', by simp only [e', ho', hd']⟩⟩
  refine up (hb as a s.heap.objs.size hpa ρ _ _ _ _ X₁ fun fl ls' S' fv ρ' m' cm' h' tk' p r X' e => ?_)
  have e₀ : Ext noX ρ s.heap ρ' h' := by
    refine ⟨?_, fun b o k n x => ?_, fun b o k => e.live b o (hk₁ b o k)⟩
    · obtain ⟨y, hy, hf⟩ := e.pre
      refine ⟨y, hy, fun b hb => ?_⟩
      cases q : s.heap.get? b with
      | none => rfl
      | some o => have := hf b hb; dsimp only at this; rw [hk₁ b o q] at this; cases this
    · refine e.pres b o (hk₁ b o k) n fun q => ?_
      rcases q with rfl | ⟨y, hky, q⟩
      · rw [show (callEnv (fd as) s.heap.objs.size a).locals = s.heap.objs.size from rfl, get_push_none] at k; cases k
      · have := (hfree as y b (hcl as ▸ q)).1
        rw [show (callEnv (fd as) s.heap.objs.size a).kindOf y = some .free from this] at hky; cases hky
  cases r with
  | ret r => exact c _ S' _ ρ' h' tk' p r X'.H e₀
  | next => exact c _ S' _ ρ' h' tk' p .none X'.H e₀
  | brk => exact c _ S' _ ρ' h' tk' p .none X'.H e₀
  | cont => exact c _ S' _ ρ' h' tk' p .none X'.H e₀

-- a function without a closure
theorem aFun {G : Gx} {A : Around} {fv : V} {args : List V} {S : List O} {P : V → List O → Prop} {ps : List Str} {fd : List Addr → FuncData} {ids : List Nat} {body : List Stmt} (Pa : Addr → Prop)
    (hfn : ∀ ρ h val, HS G ρ S h → VR ρ h fv val → ∃ a o as, val = .ref a ∧ Pa a ∧ h.get? a = some o ∧ ids.map (fun n => ρ[n]?) = as.map some ∧ o.data = .func (fd as) ∧ h.CodeRec (fd as).code (fd as).qualname)
    (hbody : ∀ as, (fd as).body = .stmts body) (hg : ∀ as, (fd as).globals = mainGlobals ∧ (fd as).builtins = builtinsNs) (hroom : A.depth < recursionLimit) (hlen : ps.length = args.length)
    (hbind : ∀ as (vals : List Value), vals.length = ps.length → bindArgs (fd as) ⟨vals, []⟩ = pure (ps.zip vals)) (hloc : ∀ as, ∀ x ∈ ps, (fd as).scope.names.lookup x = some .local) (hnd : ps.Nodup)
    (hcell : ∀ as, ∀ x ∈ (fd as).scope.names, x.2 ≠ .cell) (hco : ∀ as, (fd as).scope.isCoroutine = false) (hgen : ∀ as, (fd as).scope.isGenerator = false) (hk : ∀ as, (fd as).scope.kind = .function)
    (hcl : ∀ as, (fd as).closure = [])
    (hb : ∀ as a L, Pa a → AExecs G (A.deeper (callEnv (fd as) L a)) (callEnv (fd as) L a) body (ps.zip args) S (retPost P)) : AApp G A fv args S P :=
  aFunF Pa [] [] (fun _ _ _ e => by simp at e) (fun _ _ _ e => by simp at e) (fun _ _ _ _ _ e => by simp at e) hfn hbody hg hroom hlen hbind hloc hnd hcell hco hgen hk hcl (fun as a L h => by rw [List.append_nil]; exact hb as a L h)

-- a def of the top
theorem aDef {G : Gx} {A : Around} {f : Addr} {args : List V} {S : List O} {P : V → List O → Prop} {ps : List Str} {name qual : Str} {params : Arguments} {body : List Stmt} {scope : Scope} {dV kV doc pm cdv ct oc : Value} {an od : Option Addr}
    {osl : Array (Option Value)} (ho : G.K.lookup f = some ⟨oc, od, .func (fnOf name qual params body scope dV kV doc pm an cdv ct), osl⟩) (hcd : codeIn G.K cdv qual = true) (hroom : A.depth < recursionLimit) (hlen : ps.length = args.length)
    (hbind : ∀ (vals : List Value), vals.length = ps.length → bindArgs (fnOf name qual params body scope dV kV doc pm an cdv ct) ⟨vals, []⟩ = pure (ps.zip vals)) (hloc : ∀ x ∈ ps, scope.names.lookup x = some .local) (hnd : ps.Nodup)
    (hcell : ∀ x ∈ scope.names, x.2 ≠ .cell) (hco : scope.isCoroutine = false) (hgen : scope.isGenerator = false) (hk : scope.kind = .function)
    (hb : ∀ L, AExecs G (A.deeper (envX qual scope L f cdv [])) (envX qual scope L f cdv []) body (ps.zip args) S (retPost P)) : AApp G A (.top (.ref f)) args S P := by
  refine aFun (ids := []) (fd := fun _ => fnOf name qual params body scope dV kV doc pm an cdv ct) (body := body) (fun a => a = f) (fun ρ h val H r => ?_) (fun _ => rfl) (fun _ => ⟨rfl, rfl⟩) hroom hlen (fun _ => hbind) (fun _ => hloc) hnd (fun _ => hcell) (fun _ => hco) (fun _ => hgen) (fun _ => hk) (fun _ => rfl)
    (fun _ a L e => by subst e; exact hb L)
  (first | (replace r := VR.invInt r; obtain ⟨_, rfl⟩ := r) | (replace r := VR.invTop r; subst r) | cases r)
  exact ⟨f, _, [], rfl, rfl, H.base _ _ (G.X _ _ ho), rfl, rfl, codeRec_of (fun a o e => H.base a o (G.X a o e)) hcd⟩
end
-- AW8
section
section
variable {G : Gx} {ρ : List Addr} {S : List O} {h h' : Heap}

theorem HS.setE {n : Nat} {a : Addr} {o : O} (H : HS G ρ S h) (hn : ρ[n]? = some a) (hs : Heap.ExtBut a h h') (ho : OR G ρ h' a o) : HS G ρ (S.set n o) h' ∧ Ext noX ρ h ρ h' := by
  have hm : a ∈ ρ := List.mem_of_getElem? hn
  have nt := H.notTup hm
  obtain ⟨hlt, he⟩ := List.getElem?_eq_some_iff.mp hn
  refine ⟨⟨fun b o e => ?_, H.off, H.nodup, by simpa using H.len, fun k b ob e1 e2 => ?_⟩, ⟨⟨[], by simp, by simp⟩, fun b o e n _ => hs b o (fun q => n (q ▸ hm)) e, fun b o e => ?_⟩⟩
  · exact hs b o (fun q => by rw [q, H.off a hm] at e; cases e) (H.base b o e)
  · by_cases q : k = n
    · subst q
      rw [hn] at e1; cases e1
      have hk : k < S.length := H.len ▸ hlt
      rw [List.getElem?_set_self (by simpa using hk)] at e2
      cases e2
      exact ho
    · rw [List.getElem?_set_ne (Ne.symm q)] at e2
      have hb : b ≠ a := fun w => by
        subst w
        obtain ⟨hk, hke⟩ := List.getElem?_eq_some_iff.mp e1
        have pw := List.pairwise_iff_getElem.mp H.nodup.1
        rcases Nat.lt_or_gt_of_ne q with q | q
        · exact pw k n hk hlt q (hke.trans he.symm)
        · exact pw n k hlt hk q (he.trans hke.symm)
      exact (H.objs k b ob e1 e2).touch hs nt hb
  · by_cases q : b = a
    · subst q; exact ho.live
    · exact ⟨o, hs b o q e⟩

theorem HS.set {n : Nat} {a : Addr} {o : O} (H : HS G ρ S h) (hn : ρ[n]? = some a) (hs : Heap.SameBut a h h') (ho : OR G ρ h' a o) : HS G ρ (S.set n o) h' ∧ Ext noX ρ h ρ h' := H.setE hn hs.extBut ho

theorem push_ext {o : Obj} : Ext noX ρ h ρ (h.push o) := ⟨⟨[], by simp, by simp⟩, fun b ob e _ _ => Heap.get?_push_of_some _ e, fun b ob e => ⟨_, Heap.get?_push_of_some _ e⟩⟩
theorem push_but {o : Obj} : Heap.ExtBut h.objs.size h (h.push o) := fun b ob _ e => Heap.get?_push_of_some _ e
theorem none_notTup {a : Addr} (e : h.get? a = none) (items : Array Value) : ¬ IsTup h a items := fun ⟨o', ho', _⟩ => by rw [e] at ho'; cases ho'
theorem HS.push (H : HS G ρ S h) (o : Obj) : HS G ρ S (h.push o) := H.touch push_but (none_notTup get_push_none) H.fresh.1 H.fresh.2
theorem HS.alloc {o : Obj} {ob : O} (H : HS G ρ S h) (ho : OR G (ρ ++ [h.objs.size]) (h.push o) h.objs.size ob) : HS G (ρ ++ [h.objs.size]) (S ++ [ob]) (h.push o) ∧ Ext noX ρ h (ρ ++ [h.objs.size]) (h.push o) := by
  obtain ⟨f1, f2⟩ := H.fresh
  have H' := H.push o
  refine ⟨⟨H'.base, fun a ha => ?_, ?_, by simp [H.len], fun n a b e1 e2 => ?_⟩, ⟨⟨[h.objs.size], rfl, by simp [get_push_none]⟩, fun b ob e _ _ => Heap.get?_push_of_some _ e, fun b ob e => ⟨_, Heap.get?_push_of_some _ e⟩⟩⟩
  · rcases List.mem_append.mp ha with ha | ha
    · exact H.off a ha
    · rw [List.mem_singleton.mp ha]; exact f2
  · refine ⟨List.nodup_append.mpr ⟨H.nodup.1, by simp, fun x hx y hy e => ?_⟩, fun p hp => by
      have := H.nodup.2 p hp
      rw [List.getElem?_append_left (List.getElem?_eq_some_iff.mp this).1]; exact this⟩
    rw [List.mem_singleton.mp hy] at e
    exact f1 (e ▸ hx)
  · by_cases q : n < ρ.length
    · rw [List.getElem?_append_left q] at e1
      rw [List.getElem?_append_left (H.len ▸ q)] at e2
      exact (H'.objs n a b e1 e2).keep (fun k c hc => by rw [List.getElem?_append_left (List.getElem?_eq_some_iff.mp hc).1]; exact hc) (fun _ _ t => t) fun _ e => e
    · have hn : n = ρ.length := by
        have := (List.getElem?_eq_some_iff.mp e1).1
        simp at this; omega
      subst hn
      simp at e1
      rw [H.len] at e2
      simp at e2
      subst e1; subst e2
      exact ho
end

section
variable {G : Gx} {A : Around} {env : Env} {ls : List (Str × V)} {S : List O}

theorem aTuple {es : List Expr} {k : Nat} {pos : Pos} {P : V → List O → Prop} (h : AArgs G A env pos es ls S fun vs S₁ => vs.length ≤ 1000 ∧ P (.tup vs) S₁) : AEval G A env (.Tuple es k pos) ls S P := by
  intro ρ m cm s Q X c
  refine wpAny_Tuple (h ρ m cm s _ X fun vs S₁ as ρ₁ h₁ t₁ p r H₁ e₁ => ?_)
  have hl : as.length ≤ sizeLine := by rw [← r.length]; exact Nat.le_trans p.1 (by decide)
  refine ⟨hl, c _ S₁ _ ρ₁ _ t₁ p.2 (.tup (items := as.toArray) ⟨_, Heap.get?_push_size _ rfl, rfl, _, rfl⟩ ?_) (H₁.push _) (e₁.trans push_ext)⟩
  simpa using (push_ext (o := { cls := .type "tuple", data := .seq as.toArray })).vrs H₁ noX_tup r
theorem aList {es : List Expr} {pos : Pos} {P : V → List O → Prop} (h : AArgs G A env pos es ls S fun vs S₁ => vs.length ≤ 1000 ∧ P (.ref S₁.length) (S₁ ++ [.list vs])) : AEval G A env (.List es pos) ls S P := by
  intro ρ m cm s Q X c
  refine wpAny_List (h ρ m cm s _ X fun vs S₁ as ρ₁ h₁ t₁ p r H₁ e₁ => ?_)
  have hl : as.length ≤ sizeLine := by rw [← r.length]; exact Nat.le_trans p.1 (by decide)
  obtain ⟨H₂, e₂⟩ := H₁.alloc (o := { cls := .type "list", data := .seq as.toArray }) (ob := .list vs) ⟨as.toArray, ⟨0, Heap.get?_push_size _ rfl⟩, by
    simpa using r.mono (fun n a e => by rw [List.getElem?_append_left (List.getElem?_eq_some_iff.mp e).1]; exact e) fun c its t => tup_touch push_but (none_notTup get_push_none) c its t⟩
  refine ⟨hl, c _ _ _ _ _ t₁ p.2 (.ref ?_) H₂ (e₁.trans e₂)⟩
  rw [← H₁.len]; simp
-- x[i], i an int
theorem aSub {value slice : Expr} {pos : Pos} {P : V → List O → Prop}
    (h : AEval G A env value ls S fun v S₁ => AEval G A env slice ls S₁ fun i S₂ => ∃ (vs : List V) (k : Int) (j : Nat) (x : V), SeqV v S₂ vs ∧ i = .int k ∧ vs[j]? = some x ∧ (k = j ∨ (k < 0 ∧ k + vs.length = j)) ∧ vs.length < 2 ^ 60 ∧ P x S₂)
    (hs : ∀ o i, subscripted slice false o i = operate [o, i] (getItem o i) := by intro _ _; rfl) : AEval G A env (.Subscript value slice pos) ls S P := by
  intro ρ m cm s Q X c
  refine Subscript_ (h ρ m cm s _ X fun v S₁ a ρ₁ h₁ t₁ p r₁ H₁ e₁ => ?_)
  refine p ρ₁ m cm _ _ (X.next H₁ e₁) fun i S₂ ia ρ₂ h₂ t₂ p r₂ H₂ e₂ => ?_
  obtain ⟨vs, k, j, x, hv, rfl, hx, hk, hb, hp⟩ := p
  replace r₂ := VR.invInt r₂; obtain ⟨t, rfl⟩ := r₂
  have rv := e₂.vr H₁ noX_tup r₁
  rcases hv with rfl | ⟨n, rfl, hS⟩
  · cases rv with
    | @tup _ ta items it vr =>
      obtain ⟨xv, hxv, rx⟩ := vr.get hx
      have hl : vs.length = items.size := by simpa using vr.length
      have hj : j < items.size := by rw [← hl]; exact (List.getElem?_eq_some_iff.mp hx).1
      refine tail_any it.typeIs slot_tuple_getitem.lookup (getItem_tuple it (j := j) (x := xv) (by omega) (by omega) ?_ (by simpa using hxv) (c x S₂ xv ρ₂ h₂ t₂ hp rx H₂ (e₁.trans e₂))) (hs _ _)
      rcases hk with rfl | ⟨k0, k1⟩
      · rw [seqIndex_of (by omega) (by omega)]; simp
      · rw [seqIndex_neg k0 (by omega)]; congr 1; omega
  · cases rv with
    | @ref _ l hl =>
      obtain ⟨items, il, vr⟩ := H₂.objs n l _ hl hS
      obtain ⟨xv, hxv, rx⟩ := vr.get hx
      have hl : vs.length = items.size := by simpa using vr.length
      have hj : j < items.size := by rw [← hl]; exact (List.getElem?_eq_some_iff.mp hx).1
      have fin := c x S₂ xv ρ₂ h₂ t₂ hp rx H₂ (e₁.trans e₂)
      refine tail_any il.isList.typeIs slot_list_getitem.lookup ?_ (hs _ _)
      rcases hk with rfl | ⟨k0, k1⟩
      · exact wpAny_getItem_list il.isList (by omega) (by omega) (by simpa using hxv) fin
      · exact wpAny_getItem_list_neg il.isList k0 (by omega) (by omega) (by rw [show (k + (items.size : Int)).toNat = j by omega]; simpa using hxv) fin
end
end
-- AW9
section
open PySem.SeqAt
section
variable {G : Gx} {A : Around} {env : Env} {ls : List (Str × V)} {S : List O}

-- ints
theorem op_int2 {f : Value → Value → Sem Value} {a b : Int} {r : V} {P : V → List O → Prop} (h : P r S)
    (k : ∀ (t u : Tok) (s : Shared) (Q : Value → Shared → Prop), (∀ x tk, (∀ ρ h, VR ρ h r x) → Q x { s with toks := tk }) → wpAny G.M A (f (.int a t) (.int b u)) Q noE s) : AOp G A (op2 f) VR [.int a, .int b] S P := by
  intro ρ s vals Q H hv c
  replace hv := VRs.invCons hv; obtain ⟨_, _, rfl, r1, z⟩ := hv
  (first | (replace r1 := VR.invInt r1; obtain ⟨_, rfl⟩ := r1) | (replace r1 := VR.invTop r1; subst r1) | cases r1)
  replace z := VRs.invCons z; obtain ⟨_, _, rfl, r2, z⟩ := z
  (first | (replace r2 := VR.invInt r2; obtain ⟨_, rfl⟩ := r2) | (replace r2 := VR.invTop r2; subst r2) | cases r2); (first | (replace z := VRs.invNil z; subst z) | cases z)
  exact k _ _ s Q fun x tk hr => c r S x ρ s.heap tk h (hr ρ s.heap) H .refl
theorem b_add {a b : Int} {P : V → List O → Prop} (h : P (.int (a + b)) S) : ABin G A .Add (.int a) (.int b) S P := op_int2 h fun t u s Q k => add_int (k _ _ fun _ _ => .int)
theorem b_sub {a b : Int} {P : V → List O → Prop} (h : P (.int (a - b)) S) : ABin G A .Sub (.int a) (.int b) S P := op_int2 h fun t u s Q k => sub_int (k _ _ fun _ _ => .int)
theorem b_mul {a b : Int} {P : V → List O → Prop} (h : P (.int (a * b)) S) (hm : IntMulOk a b) : ABin G A .Mult (.int a) (.int b) S P := op_int2 h fun t u s Q k => mul_int (k _ _ fun _ _ => .int) hm
theorem b_mod {a b : Int} {P : V → List O → Prop} (hb : b ≠ 0) (h : P (.int (a.fmod b)) S) : ABin G A .Mod (.int a) (.int b) S P := op_int2 h fun t u s Q k => mod_int' hb (k _ _ fun _ _ => .int)
theorem b_xor {a b : Int} {P : V → List O → Prop} (h : P (.int (Builtin.bitXor a b)) S) : ABin G A .BitXor (.int a) (.int b) S P := op_int2 h fun t u s Q k => xor_int (k _ _ fun _ _ => .int)
theorem b_shr {a : Int} {n : Nat} (hh : A.handled = none) {P : V → List O → Prop} (h : P (.int (a.fdiv (2 ^ n))) S) : ABin G A .RShift (.int a) (.int n) S P :=
  op_int2 h fun t u s Q k => rshift_int_or hh (fun hn => absurd hn (by omega)) fun _ => by simpa using k _ _ fun _ _ => .int
theorem c_lt {a b : Int} {P : V → List O → Prop} (h : P (.bool (decide (a < b))) S) : ACmp G A .Lt (.int a) (.int b) S P := op_int2 h fun t u s Q k => lt_int (k _ s.toks fun _ _ => .bool)
theorem c_gt {a b : Int} {P : V → List O → Prop} (h : P (.bool (decide (b < a))) S) : ACmp G A .Gt (.int a) (.int b) S P := op_int2 h fun t u s Q k => gt_int (k _ s.toks fun _ _ => .bool)
theorem c_ge {a b : Int} {P : V → List O → Prop} (h : P (.bool (decide (b ≤ a))) S) : ACmp G A .GtE (.int a) (.int b) S P := op_int2 h fun t u s Q k => ge_int (k _ s.toks fun _ _ => .bool)
theorem c_eq {a b : Int} {P : V → List O → Prop} (h : P (.bool (a == b)) S) : ACmp G A .Eq (.int a) (.int b) S P := op_int2 h fun t u s Q k => eq_int (k _ s.toks fun _ _ => .bool)
theorem c_ne {a b : Int} {P : V → List O → Prop} (h : P (.bool (a != b)) S) : ACmp G A .NotEq (.int a) (.int b) S P := op_int2 h fun t u s Q k => ne_int (k _ s.toks fun _ _ => .bool)

theorem aUnary {op : UnaryOp} {x : Expr} {pos : Pos} {P : V → List O → Prop} (h : AEval G A env x ls S fun v S₁ => AOp G A (op1 (unaryOp op)) VR [v] S₁ P) : AEval G A env (.UnaryOp op x pos) ls S P := by
  intro ρ m cm s Q X c
  refine wpAny_UnaryOp (h ρ m cm s _ X fun v S₁ a ρ₁ h₁ t₁ p r H₁ e₁ => ?_)
  exact p ρ₁ _ [a] Q H₁ (.cons r .nil) fun b S' a ρ' h' tk' hp hr H' e' => c b S' a ρ' h' tk' hp hr H' (e₁.trans e')
theorem u_neg {a : Int} {P : V → List O → Prop} (h : P (.int (-a)) S) : AOp G A (op1 (unaryOp .USub)) VR [.int a] S P := by
  intro ρ s vals Q H hv c
  cases hv with
  | cons r z => cases r; cases z; exact neg_int (c _ S _ ρ s.heap _ h .int H .refl)
-- is None
theorem none_beq {ρ h v x} (r : VR ρ h v x) : (x == Value.none) = (match v with | .none => true | .top u => u == Value.none | _ => false) := by
  cases r with
  | none => rfl
  | bool => rfl
  | int => exact beq_eq_false_iff_ne.mpr (by intro e; cases e)
  | tup => exact beq_eq_false_iff_ne.mpr (by intro e; cases e)
  | ref => exact beq_eq_false_iff_ne.mpr (by intro e; cases e)
  | top => rfl
noncomputable def isNone : V → Bool
  | .none => true
  | .top u => u == Value.none
  | _ => false
theorem c_isNone {v : V} {P : V → List O → Prop} (h : P (.bool (isNone v)) S) : ACmp G A .Is v .none S P := by
  intro ρ s vals Q H hv c
  replace hv := VRs.invCons hv; obtain ⟨_, _, rfl, r, z⟩ := hv
  replace z := VRs.invCons z; obtain ⟨_, _, rfl, r2, z⟩ := z
  (first | (replace r2 := VR.invInt r2; obtain ⟨_, rfl⟩ := r2) | (replace r2 := VR.invTop r2; subst r2) | cases r2); (first | (replace z := VRs.invNil z; subst z) | cases z)
  refine is_none (c _ S _ ρ s.heap s.toks h ?_ H .refl)
  rw [none_beq r]
  cases v <;> exact .bool
theorem c_isNotNone {v : V} {P : V → List O → Prop} (h : P (.bool (!isNone v)) S) : ACmp G A .IsNot v .none S P := by
  intro ρ s vals Q H hv c
  replace hv := VRs.invCons hv; obtain ⟨_, _, rfl, r, z⟩ := hv
  replace z := VRs.invCons z; obtain ⟨_, _, rfl, r2, z⟩ := z
  (first | (replace r2 := VR.invInt r2; obtain ⟨_, rfl⟩ := r2) | (replace r2 := VR.invTop r2; subst r2) | cases r2); (first | (replace z := VRs.invNil z; subst z) | cases z)
  refine isNot_none (c _ S _ ρ s.heap s.toks h ?_ H .refl)
  rw [none_beq r]
  cases v <;> exact .bool

-- len
theorem f_len {v : V} {vs : List V} {P : V → List O → Prop} (hv : SeqV v S vs) (hn : vs.length < 2 ^ 60) (h : P (.int vs.length) S) : AApp G A (.top (.builtin "len")) [v] S P := by
  intro ρ s vals Q H hvs c
  replace hvs := VRs.invCons hvs; obtain ⟨_, _, rfl, r, z⟩ := hvs
  (first | (replace r := VR.invInt r; obtain ⟨_, rfl⟩ := r) | (replace r := VR.invTop r; subst r) | cases r)
  replace z := VRs.invCons z; obtain ⟨_, _, rfl, r, z⟩ := z
  (first | (replace z := VRs.invNil z; subst z) | cases z)
  rcases hv with rfl | ⟨n, rfl, hS⟩
  · cases r with
    | @tup _ t items it vr =>
      have hl : vs.length = items.size := by simpa using vr.length
      exact len_tuple it (by omega) (c _ S _ ρ s.heap _ h (by rw [hl]; exact .int) H .refl)
  · cases r with
    | @ref _ l hl =>
      obtain ⟨items, il, vr⟩ := H.objs n l _ hl hS
      have hl : vs.length = items.size := by simpa using vr.length
      exact call_len_list il.isList (by omega) (c _ S _ ρ s.heap _ h (by rw [hl]; exact .int) H .refl)

-- the heap grows: nothing is changed
theorem grow {ρ : List Addr} {h h' : Heap} (H : HS G ρ S h) (k : ∀ b o, h.get? b = some o → h'.get? b = some o) : HS G ρ S h' ∧ Ext noX ρ h ρ h' := by
  refine ⟨⟨fun b o e => k b o (H.base b o e), H.off, H.nodup, H.len, fun n a o e1 e2 => (H.objs n a o e1 e2).keep (fun _ _ e => e) (fun a its ⟨o, ho, r⟩ => ⟨o, k a o ho, r⟩) fun ob ho => k a ob ho⟩, ⟨⟨[], by simp, by simp⟩, fun b o e _ _ => k b o e, fun b o e => ⟨o, k b o e⟩⟩⟩
theorem vrs_grow {ρ : List Addr} {h h' : Heap} (k : ∀ b o, h.get? b = some o → h'.get? b = some o) {vs xs} (r : VRs ρ h vs xs) : VRs ρ h' vs xs := r.mono (fun _ _ e => e) fun a its ⟨o, ho, q⟩ => ⟨o, k a o ho, q⟩

theorem f_tuple {n : Nat} {vs : List V} {P : V → List O → Prop} (hS : S[n]? = some (.list vs)) (hn : vs.length ≤ 2 ^ 20) (h : P (.tup vs) S) : AApp G A (.top (.type "tuple")) [.ref n] S P := by
  intro ρ s vals Q H hvs c
  replace hvs := VRs.invCons hvs; obtain ⟨_, _, rfl, r, z⟩ := hvs
  (first | (replace r := VR.invInt r; obtain ⟨_, rfl⟩ := r) | (replace r := VR.invTop r; subst r) | cases r)
  replace z := VRs.invCons z; obtain ⟨_, _, rfl, r, z⟩ := z
  (first | (replace z := VRs.invNil z; subst z) | cases z)
  replace r := VR.invRef r; obtain ⟨l, rfl, hl⟩ := r
  obtain ⟨items, il, vr⟩ := H.objs n l _ hl hS
  have hsz : vs.length = items.size := by simpa using vr.length
  refine call_tuple_list il.isList (fun h' k => ?_) (by rw [← hsz]; exact Nat.le_trans hn (by decide))
  have k' : ∀ b o, s.heap.get? b = some o → (h'.push { cls := .type "tuple", data := .seq items }).get? b = some o := fun b o e => Heap.get?_push_of_some _ (k b o e)
  obtain ⟨H', e'⟩ := grow H k'
  exact c _ S _ ρ _ s.toks h (.tup ⟨_, Heap.get?_push_size _ rfl, rfl, _, rfl⟩ (vrs_grow k' vr)) H' e'

-- list(x) of a list or a tuple
theorem f_list {v : V} {vs : List V} {P : V → List O → Prop} (hv : SeqV v S vs) (hn : vs.length ≤ 2 ^ 20) (h : P (.ref S.length) (S ++ [.list vs])) : AApp G A (.top (.type "list")) [v] S P := by
  intro ρ s vals Q H hvs c
  have fin : ∀ (items : Array Value), VRs ρ s.heap vs items.toList → ∀ (h' : Heap) (c' : Nat), (∀ b o', s.heap.get? b = some o' → h'.get? b = some o') → h'.get? s.heap.objs.size = some { cls := .type "list", data := .seq items c' } →
      Q (.ref s.heap.objs.size) { s with heap := h' } := by
    intro items vr h' c' k ho
    obtain ⟨H', e'⟩ := grow H k
    obtain ⟨f1, f2⟩ := H.fresh
    have vr' := vrs_grow k vr
    have idx : ∀ (n a : Nat), ρ[n]? = some a → (ρ ++ [s.heap.objs.size])[n]? = some a := fun n a e => by rw [List.getElem?_append_left (List.getElem?_eq_some_iff.mp e).1]; exact e
    refine c _ _ _ (ρ ++ [s.heap.objs.size]) h' s.toks h (.ref (by rw [← H.len]; simp)) ⟨H'.base, fun a ha => ?_, ?_, by simp [H.len], fun n a b e1 e2 => ?_⟩ ⟨⟨[s.heap.objs.size], rfl, by simp [get_push_none]⟩, fun b o e _ _ => k b o e, fun b o e => ⟨o, k b o e⟩⟩
    · rcases List.mem_append.mp ha with ha | ha
      · exact H.off a ha
      · rw [List.mem_singleton.mp ha]; exact f2
    · refine ⟨List.nodup_append.mpr ⟨H.nodup.1, by simp, fun x hx y hy e => ?_⟩, fun p hp => idx _ _ (H.nodup.2 p hp)⟩
      rw [List.mem_singleton.mp hy] at e
      exact f1 (e ▸ hx)
    · by_cases q : n < ρ.length
      · rw [List.getElem?_append_left q] at e1
        rw [List.getElem?_append_left (H.len ▸ q)] at e2
        exact (H'.objs n a b e1 e2).keep idx (fun _ _ t => t) fun _ e => e
      · have hn : n = ρ.length := by
          have := (List.getElem?_eq_some_iff.mp e1).1
          simp at this; omega
        subst hn
        simp at e1
        rw [H.len] at e2
        simp at e2
        subst e1; subst e2
        exact ⟨items, ⟨c', ho⟩, vr'.mono idx fun _ _ t => t⟩
  replace hvs := VRs.invCons hvs; obtain ⟨_, _, rfl, r, z⟩ := hvs
  (first | (replace r := VR.invInt r; obtain ⟨_, rfl⟩ := r) | (replace r := VR.invTop r; subst r) | cases r)
  replace z := VRs.invCons z; obtain ⟨_, _, rfl, r, z⟩ := z
  (first | (replace z := VRs.invNil z; subst z) | cases z)
  rcases hv with rfl | ⟨n, rfl, hS⟩
  · cases r with
    | @tup _ t items it vr =>
      have hsz : vs.length = items.size := by simpa using vr.length
      obtain ⟨o, ho, hc, m, hd⟩ := it
      exact call_list_seq t (.inr rfl) ho hc hd (fin items vr) (by rw [← hsz]; exact Nat.le_trans hn (by decide))
  · cases r with
    | @ref _ l hl =>
      obtain ⟨items, ⟨m, ho⟩, vr⟩ := H.objs n l _ hl hS
      have hsz : vs.length = items.size := by simpa using vr.length
      exact call_list_seq l (.inl rfl) ho rfl rfl (fin items vr) (by rw [← hsz]; exact Nat.le_trans hn (by decide))

-- x.append(y)
theorem aAppend {o elt : Expr} {apos pos : Pos} {P : V → List O → Prop}
    (h : AEval G A env o ls S fun v S₁ => ∃ n, v = .ref n ∧ (∃ vs, S₁[n]? = some (.list vs)) ∧ AEval G A env elt ls S₁ fun x S₂ => ∃ vs, S₂[n]? = some (.list vs) ∧ vs.length ≤ 2 ^ 20 ∧ P .none (S₂.set n (.list (vs ++ [x]))))
    (hbase : attributeBase o "append" env (eval o env) = eval o env := by rfl)
    (hfew : ((backTo pos (starEach [elt] env)).all (fun x => !x.1) && (backToKw pos (keywordEach [] env)).all (fun x => x.1.isSome)
      && decide (([elt] : List Expr).length + ([] : List Keyword).length + (if ([] : List Keyword).isEmpty then 0 else 1) < 30)) = true := by rfl)
    (hline : (apos.endLine == pos.line) = true := by rfl)
    (htrees : backTo pos (starEach [elt] env) = [(false, eval elt env)] := by rfl) : AEval G A env (.Call (.Attribute o "append" apos) [elt] [] pos) ls S P := by
  intro ρ m cm s Q X c
  refine wpAny_Call_append hbase hfew hline htrees (h ρ m cm s _ X fun v S₁ a ρ₁ h₁ t₁ p r₁ H₁ e₁ => ?_)
  obtain ⟨n, rfl, ⟨vs₁, hS₁⟩, p⟩ := p
  replace r₁ := VR.invRef r₁; obtain ⟨l, rfl, hl⟩ := r₁
  obtain ⟨items₁, ⟨k₁, ho₁⟩, _⟩ := H₁.objs n l _ hl hS₁
  refine ⟨l, items₁, rfl, ⟨_, k₁, ho₁, rfl, rfl, rfl⟩, ?_⟩
  refine p ρ₁ m cm _ _ (X.next H₁ e₁) fun x S₂ xa ρ₂ h₂ t₂ p r₂ H₂ e₂ => ?_
  obtain ⟨vs, hS, hn, hp⟩ := p
  have hl₂ := e₂.idx _ _ hl
  obtain ⟨items, il, vr⟩ := H₂.objs n l _ hl₂ hS
  have hsz : vs.length = items.size := by simpa using vr.length
  refine wpAny_list_append_plain il (fun h' pl hs => ?_) (by rw [← hsz]; exact Nat.le_trans hn (by decide))
  have nt := H₂.notTup (List.mem_of_getElem? hl₂)
  have up : ∀ {vs xs}, VRs ρ₂ h₂ vs xs → VRs ρ₂ h' vs xs := fun r => r.mono (fun _ _ e => e) (tup_touch hs.extBut nt)
  obtain ⟨H₃, e₃⟩ := H₂.set (o := .list (vs ++ [x])) hl₂ hs ⟨_, pl, by simpa using up (vr.snoc r₂)⟩
  exact c _ _ _ ρ₂ h' t₂ hp .none H₃ ((e₁.trans e₂).trans e₃)

-- x[i] = v, i an int in bounds, 0 or more
theorem set_list {n : Nat} {vs : List V} {k : Nat} {x : V} {P : Unit → List O → Prop} (hS : S[n]? = some (.list vs)) (hk : k < vs.length) (hb : vs.length < 2 ^ 60) (h : P () (S.set n (.list (vs.set k x)))) : ASet G A (.ref n) (.int k) x S P := by
  intro ρ s vals Q H hvs c
  replace hvs := VRs.invCons hvs; obtain ⟨_, _, rfl, r, z⟩ := hvs
  replace z := VRs.invCons z; obtain ⟨_, _, rfl, r2, z⟩ := z
  replace z := VRs.invCons z; obtain ⟨xv, _, rfl, r3, z⟩ := z
  (first | (replace z := VRs.invNil z; subst z) | cases z); (first | (replace r2 := VR.invInt r2; obtain ⟨_, rfl⟩ := r2) | (replace r2 := VR.invTop r2; subst r2) | cases r2)
  replace r := VR.invRef r; obtain ⟨l, rfl, hl⟩ := r
  obtain ⟨items, ⟨e, ho⟩, vr⟩ := H.objs n l _ hl hS
  have hsz : vs.length = items.size := by simpa using vr.length
  refine ki_setAt (n := e) ho (by omega) (by omega) (by omega) ?_
  have nt := H.notTup (List.mem_of_getElem? hl)
  have hs : Heap.SameBut l s.heap (s.heap.update l (Obj.mapSeq (·.setIfInBounds ((k : Int).toNat) xv))) := Heap.SameBut.update ..
  have hq : (s.heap.update l (Obj.mapSeq (·.setIfInBounds ((k : Int).toNat) xv))).PlainList l (items.setIfInBounds k xv) := by
    refine ⟨e, ?_⟩
    have := PySem.IsL.update ho (·.setIfInBounds ((k : Int).toNat) xv)
    simpa using this
  obtain ⟨H', e'⟩ := H.set (o := .list (vs.set k x)) hl hs ⟨_, hq, by
    have up : ∀ {vs xs}, VRs ρ s.heap vs xs → VRs ρ _ vs xs := fun r => r.mono (fun _ _ e => e) (tup_touch hs.extBut nt)
    simpa using up (vr.set r3)⟩
  exact c () _ () ρ _ s.toks h trivial H' e'
end
end
-- AW10
section
section
variable {G : Gx} {A : Around} {env : Env} {ls : List (Str × V)} {S : List O}

theorem i_add {a b : Int} {P : V → List O → Prop} (h : P (.int (a + b)) S) : AOp G A (op2 (inplaceOp .Add)) VR [.int a, .int b] S P := op_int2 h fun t u s Q k => AutoIntOps.iadd_0 (k _ _ fun _ _ => .int)

theorem s_aug {x : Str} {px pos : Pos} {op : Operator} {value : Expr} {v : V} {P : AFlow → List (Str × V) → List O → Prop} (ok : EnvOk env) (hx : Stored env x) (hv : ls.lookup x = some v)
    (h : AEval G A env value ls S fun u S₁ => AOp G A (op2 (inplaceOp op)) VR [v, u] S₁ fun r S₂ => P .next (upd ls x r) S₂) : AExec G A env (.AugAssign (.Name x px) op value pos) ls S P := by
  intro ρ m cm s Q X c
  obtain ⟨val, r, k⟩ := X.L x v hv
  have load : ∀ Q' : Value → Shared → Prop, Q' val s → wpAny G.M A (loadName env x) Q' noE s := by
    intro Q' hq
    rcases k with ⟨k1, k2⟩ | ⟨cc, k1, k2, k3⟩
    · exact wpAny_loadName_local ok.kind k1 X.F.ns k2 hq
    · have hc := (X.F.cells x cc k2).1
      rw [k3] at hc
      rcases k1 with k1 | ⟨k1, k4⟩
      · exact wpAny_loadName_cell ok.kind k1 k2 hc hq
      · exact wpAny_loadName_free ok.kind k1 k2 hc hq k4
  refine wpAny_AugAssign_Name (load _ ?_)
  refine h ρ m cm s _ X fun u S₁ ua ρ₁ h₁ t₁ p r₁ H₁ e₁ => ?_
  refine p ρ₁ _ [val, ua] _ H₁ (.cons (e₁.vr X.H noX_tup r) (.cons r₁ .nil)) fun w S₂ wa ρ₂ h₂ t₂ p r₂ H₂ e₂ => ?_
  exact store_ ok hx (X.next H₂ (e₁.trans e₂)) r₂ fun m' cm' h' tk' X' e' => c _ _ S₂ _ ρ₂ m' cm' h' tk' p .next X' (((e₁.trans e₂).weak fun _ => False.elim).trans e')

-- x[i] op= e
theorem s_augSub {o i value : Expr} {tpos pos : Pos} {op : Operator} {P : AFlow → List (Str × V) → List O → Prop}
    (h : AEval G A env o ls S fun ov S₁ => AEval G A env i ls S₁ fun iv S₂ => AGet G A ov iv S₂ fun old S₃ => AEval G A env value ls S₃ fun u S₄ => AOp G A (op2 (inplaceOp op)) VR [old, u] S₄ fun r S₅ => ASet G A ov iv r S₅ fun _ S₆ => P .next ls S₆)
    (hs : ∀ (ov iv new : Value), augStore i ov iv new = (do holding [new, ov, iv] (setItem ov iv new); release [new, ov, iv] []; pure .next) := by intros; rfl) :
    AExec G A env (.AugAssign (.Subscript o i tpos) op value pos) ls S P := by
  intro ρ m cm s Q X c
  refine wpAny_AugAssign_SubscriptAny ?_ hs
  refine h ρ m cm s _ X fun ov S₁ oa ρ₁ h₁ t₁ p r₁ H₁ e₁ => ?_
  have X₁ := X.next H₁ e₁
  refine p ρ₁ m cm _ _ X₁ fun iv S₂ ia ρ₂ h₂ t₂ p r₂ H₂ e₂ => ?_
  have X₂ := X₁.next H₂ e₂
  refine p ρ₂ _ [oa, ia] _ H₂ (.cons (e₂.vr H₁ noX_tup r₁) (.cons r₂ .nil)) fun old S₃ da ρ₃ h₃ t₃ p r₃ H₃ e₃ => ?_
  have X₃ := X₂.next H₃ e₃
  refine p ρ₃ m cm _ _ X₃ fun u S₄ ua ρ₄ h₄ t₄ p r₄ H₄ e₄ => ?_
  have X₄ := X₃.next H₄ e₄
  refine p ρ₄ _ [da, ua] _ H₄ (.cons (e₄.vr H₃ noX_tup r₃) (.cons r₄ .nil)) fun r S₅ ra ρ₅ h₅ t₅ p r₅ H₅ e₅ => ?_
  have X₅ := X₄.next H₅ e₅
  refine p ρ₅ _ [oa, ia, ra] _ H₅ (.cons ((((e₂.trans e₃).trans e₄).trans e₅).vr H₁ noX_tup r₁) (.cons (((e₃.trans e₄).trans e₅).vr H₂ noX_tup r₂) (.cons r₅ .nil))) fun _ S₆ _ ρ₆ h₆ t₆ p _ H₆ e₆ => ?_
  have X₆ := X₅.next H₆ e₆
  exact c _ ls S₆ _ ρ₆ m cm h₆ t₆ p .next X₆ ((((((e₁.trans e₂).trans e₃).trans e₄).trans e₅).trans e₆).weak fun _ => False.elim)

theorem get_seq {v : V} {vs : List V} {k : Nat} {x : V} {P : V → List O → Prop} (hv : SeqV v S vs) (hx : vs[k]? = some x) (hb : vs.length < 2 ^ 60) (h : P x S) : AGet G A v (.int k) S P := by
  intro ρ s vals Q H hvs c
  have hlt := (List.getElem?_eq_some_iff.mp hx).1
  replace hvs := VRs.invCons hvs; obtain ⟨_, _, rfl, r, z⟩ := hvs
  replace z := VRs.invCons z; obtain ⟨_, _, rfl, r2, z⟩ := z
  (first | (replace z := VRs.invNil z; subst z) | cases z); (first | (replace r2 := VR.invInt r2; obtain ⟨_, rfl⟩ := r2) | (replace r2 := VR.invTop r2; subst r2) | cases r2)
  rcases hv with rfl | ⟨n, rfl, hS⟩
  · cases r with
    | @tup _ t items it vr =>
      obtain ⟨xv, hxv, rx⟩ := vr.get hx
      have hl : vs.length = items.size := by simpa using vr.length
      refine getItem_tuple it (j := k) (x := xv) (by omega) (by omega) ?_ (by simpa using hxv) (c x S xv ρ s.heap s.toks h rx H .refl)
      rw [seqIndex_of (by omega) (by omega)]; simp
  · cases r with
    | @ref _ l hl =>
      obtain ⟨items, il, vr⟩ := H.objs n l _ hl hS
      obtain ⟨xv, hxv, rx⟩ := vr.get hx
      have hl : vs.length = items.size := by simpa using vr.length
      exact wpAny_getItem_list il.isList (by omega) (by omega) (by simpa using hxv) (c x S xv ρ s.heap s.toks h rx H .refl)

noncomputable def updAll (ls : List (Str × V)) : List Str → List V → List (Str × V)
  | x :: xs, v :: vs => updAll (upd ls x v) xs vs
  | _, _ => ls
theorem order_ (ok : EnvOk env) : ∀ (names : List (Str × Pos)) (vs : List V) (vals : List Value) {ls : List (Str × V)} {S : List O} {ρ m cm} {s : Shared} {Q : Unit → Shared → Prop}, (∀ p ∈ names, Stored env p.1) → names.length = vs.length → St G env ls S ρ m cm s.heap → VRs ρ s.heap vs vals →
    (∀ m' cm' h' tk', St G env (updAll ls (names.map (·.1)) vs) S ρ m' cm' h' → Ext (FX env) ρ s.heap ρ h' → Q () { s with heap := h', toks := tk' }) →
    wpAny G.M A (assignInOrder (names.map fun p => assign (.Name p.1 p.2) env) vals) Q noE s := by
  intro names
  induction names with
  | nil =>
    intro vs vals ls S ρ m cm s Q hx hn X r c
    cases vs with
    | nil => cases r; exact assignInOrder_nil (c m cm s.heap s.toks X .refl)
    | cons v vs => simp at hn
  | cons p names ih =>
    intro vs vals ls S ρ m cm s Q hx hn X r c
    obtain ⟨x, px⟩ := p
    cases vs with
    | nil => simp at hn
    | cons v vs =>
      replace r := VRs.invCons r; obtain ⟨_, _, rfl, r, rs⟩ := r
      refine assignInOrder_cons (wpAny_assign_Name (store_ ok (hx _ (.head _)) X r fun m₁ cm₁ h₁ t₁ X₁ e₁ => ?_))
      exact ih vs _ (fun p hp => hx p (.tail _ hp)) (by simpa using hn) X₁ (e₁.vrs X.H X.F.notTup rs) fun m' cm' h' tk' X' e' => c m' cm' h' tk' X' (e₁.trans e')
theorem assignEach_names (env : Env) : ∀ names : List (Str × Pos), (assignEach (names.map fun p => Expr.Name p.1 p.2) env).map (·.2) = names.map fun p => assign (.Name p.1 p.2) env
  | [] => rfl
  | p :: r => by
    show assign (.Name p.1 p.2) env :: (assignEach (r.map fun p => Expr.Name p.1 p.2) env).map (·.2) = _
    rw [assignEach_names env r]; rfl
theorem assignEach_plain (env : Env) : ∀ names : List (Str × Pos), (assignEach (names.map fun p => Expr.Name p.1 p.2) env).findIdx? (fun x => x.1) = none ∧ (assignEach (names.map fun p => Expr.Name p.1 p.2) env).length = names.length
  | [] => ⟨rfl, rfl⟩
  | p :: r => by
    obtain ⟨a, b⟩ := assignEach_plain env r
    have e : assignEach ((p :: r).map fun p => Expr.Name p.1 p.2) env = (false, assign (.Name p.1 p.2) env) :: assignEach (r.map fun p => Expr.Name p.1 p.2) env := rfl
    rw [e]
    exact ⟨by simp [List.findIdx?_cons, a], by simp [b]⟩

-- a, b = value of a tuple
theorem s_unpack (names : List (Str × Pos)) {elts : List Expr} {k : Nat} {tpos pos : Pos} {value : Expr} {P : AFlow → List (Str × V) → List O → Prop} (he : elts = names.map fun p => Expr.Name p.1 p.2) (ok : EnvOk env) (hh : A.handled = none) (hx : ∀ p ∈ names, Stored env p.1)
    (h : AEval G A env value ls S fun v S₁ => ∃ vs, v = .tup vs ∧ names.length = vs.length ∧ P .next (updAll ls (names.map (·.1)) vs) S₁)
    (hs : swapsWithSole [.Tuple elts k tpos] value pos.line env = pure false := by rfl) (hw : swappedStores [.Tuple elts k tpos] value env = pure none := by rfl) : AExec G A env (.Assign [.Tuple elts k tpos] value pos) ls S P := by
  intro ρ m cm s Q X c
  refine Assign_Tuple (h ρ m cm s _ X fun v S₁ a ρ₁ h₁ t₁ p r₁ H₁ e₁ => ?_) hs hw
  obtain ⟨vs, rfl, hn, hp⟩ := p
  replace r₁ := VR.invTup r₁; obtain ⟨t, items, rfl, it, vr⟩ := r₁
  subst he
  have hl : vs.length = items.size := by simpa using vr.length
  refine assign_Tuple_tuple hh it (by rw [(assignEach_plain env names).2, hn, hl]) (assignEach_plain env names).1 fun h₂ eb => ?_
  have X₁ := X.next H₁ e₁
  obtain ⟨f1, f2, f3⟩ := X₁.fresh
  have nt := none_notTup (h := h₁) get_push_none
  have X₂ := X₁.touch eb nt f1 f2 f3
  have vr₂ := vr.mono (fun _ _ e => e) (tup_touch eb nt)
  rw [assignEach_names]
  refine order_ ok names vs items.toList hx hn X₂ vr₂ fun m' cm' h' tk' X' e' => ?_
  refine c _ _ S₁ _ ρ₁ m' cm' h' tk' hp .next X' ((Ext.touch (e₁.weak fun _ => False.elim) eb ?_).trans e')
  cases e : s.heap.get? h₁.objs.size with
  | none => rfl
  | some o => obtain ⟨o', ho'⟩ := e₁.live _ _ e; rw [get_push_none] at ho'; cases ho'

-- a, b = (b, a) of two names on one row: the stores go from behind
theorem s_swap {x y : Str} {px py : Pos} {k : Nat} {tpos pos : Pos} {value : Expr} {P : AFlow → List (Str × V) → List O → Prop} (ok : EnvOk env) (hh : A.handled = none) (hx : Stored env x) (hy : Stored env y)
    (h : AEval G A env value ls S fun v S₁ => ∃ a b, v = .tup [a, b] ∧ P .next (upd (upd ls y b) x a) S₁)
    (hs : swapsWithSole [.Tuple [.Name x px, .Name y py] k tpos] value pos.line env = pure false := by rfl) (hw : swappedStores [.Tuple [.Name x px, .Name y py] k tpos] value env = pure (some [x, y])) :
    AExec G A env (.Assign [.Tuple [.Name x px, .Name y py] k tpos] value pos) ls S P := by
  intro ρ m cm s Q X c
  refine Assign_Tuple_swapped (h ρ m cm s _ X fun v S₁ a ρ₁ h₁ t₁ p r₁ H₁ e₁ => ?_) hs hw
  obtain ⟨va, vb, rfl, hp⟩ := p
  replace r₁ := VR.invTup r₁; obtain ⟨t, items, rfl, it, vr⟩ := r₁
  have hl : 2 = items.size := by simpa using vr.length
  have key : ∀ (Q' : List Value → Shared → Prop), (∀ h', Heap.ExtBut h₁.objs.size h₁ h' → Q' items.toList { s with heap := h', toks := t₁ }) → wpAny G.M A (unpackItems (.ref t) 2 none) Q' noE { s with heap := h₁, toks := t₁ } := by
    rw [hl]
    exact fun Q' hq => unpackItems_tuple (s := { s with heap := h₁, toks := t₁ }) hh it hq
  refine key _ fun h₂ eb => ?_
  have X₁ := X.next H₁ e₁
  obtain ⟨f1, f2, f3⟩ := X₁.fresh
  have nt := none_notTup (h := h₁) get_push_none
  have X₂ := X₁.touch eb nt f1 f2 f3
  have vr₂ := vr.mono (fun _ _ e => e) (tup_touch eb nt)
  have hn : s.heap.get? h₁.objs.size = none := by
    cases e : s.heap.get? h₁.objs.size with
    | none => rfl
    | some o => obtain ⟨o', ho'⟩ := e₁.live _ _ e; rw [get_push_none] at ho'; cases ho'
  have E₂ := Ext.touch (X := FX env) (e₁.weak fun _ => False.elim) eb hn
  generalize items.toList = it at vr₂
  replace vr₂ := VRs.invCons vr₂; obtain ⟨_, _, rfl, ra, z⟩ := vr₂
  replace z := VRs.invCons z; obtain ⟨_, _, rfl, rb, z⟩ := z
  (first | (replace z := VRs.invNil z; subst z) | cases z)
  refine assignInOrder_cons ?_
  refine wpAny_bindName (store_ ok hy X₂ rb fun m₁ cm₁ h₃ t₃ X₃ e₃ => ?_)
  refine assignInOrder_cons ?_
  refine wpAny_bindName (store_ ok hx X₃ (e₃.vr X₂.H X₂.F.notTup ra) fun m₄ cm₄ h₄ t₄ X₄ e₄ => ?_)
  exact assignInOrder_nil (c _ _ S₁ _ ρ₁ m₄ cm₄ h₄ t₄ hp .next X₄ ((E₂.trans e₃).trans e₄))
end
end
-- AW11
section
open PySem.SeqAt
-- flat: none, a bool is no part, an int, a tuple of ints
inductive Flat : V → Prop
  | none : Flat .none
  | int {i} : Flat (.int i)
  | tup {xs : List Int} : Flat (.tup (xs.map V.int))
noncomputable def eqI : V → V → Bool
  | .int x, .int y => x == y
  | _, _ => false
noncomputable def eqF : V → V → Bool
  | .none, .none => true
  | .int a, .int b => a == b
  | .tup a, .tup b => a.length == b.length && (a.zip b).all fun p => eqI p.1 p.2
  | _, _ => false
theorem eqF_ints (xs ys : List Int) : eqF (.tup (xs.map V.int)) (.tup (ys.map V.int)) = decide (xs = ys) := by
  simp only [eqF, List.length_map]
  induction xs generalizing ys with
  | nil => cases ys <;> simp
  | cons x xs ih =>
    cases ys with
    | nil => simp
    | cons y ys =>
      have := ih ys
      simp only [List.map_cons, List.zip_cons_cons, List.all_cons, List.length_cons, List.cons.injEq, Bool.decide_and]
      rw [← this]
      by_cases h : x = y
      · subst h; simp [eqI]
      · simp [h, eqI]

section
variable {G : Gx} {A : Around} {env : Env} {ls : List (Str × V)} {S : List O} {ρ : List Addr} {s : Shared}

theorem tup_eqAt {a b : Addr} {its its2 : Array Value} {xs ys : List V} (ta : IsTup s.heap a its) (tb : IsTup s.heap b its2) (ra : VRs ρ s.heap xs its.toList) (rb : VRs ρ s.heap ys its2.toList) (hu : A.units < cLine)
    (e : V → V → Bool) (he : ∀ (j : Nat) x y xv yv, xs[j]? = some x → ys[j]? = some y → its.toList[j]? = some xv → its2.toList[j]? = some yv → VR ρ s.heap x xv → VR ρ s.heap y yv → EqAt A.in1 s xv yv (e x y)) :
    RcAt A s (.ref a) (.ref b) (xs.length == ys.length && (xs.zip ys).all fun p => e p.1 p.2) := by
  have la : xs.length = its.size := by simpa using ra.length
  have lb : ys.length = its2.size := by simpa using rb.length
  have key := RcAt.tuples (A := A) (s := s) (l := a) (b := b) (e := fun j => e (xs.getD j .none) (ys.getD j .none)) ta tb hu (fun j h1 h2 => by
    have hx : xs[j]? = some (xs[j]'(by omega)) := List.getElem?_eq_getElem _
    have hy : ys[j]? = some (ys[j]'(by omega)) := List.getElem?_eq_getElem _
    obtain ⟨xv, hxv, rx⟩ := ra.get hx
    obtain ⟨yv, hyv, ry⟩ := rb.get hy
    have e1 : its[j] = xv := by simpa [h1] using hxv
    have e2 : its2[j] = yv := by simpa [h2] using hyv
    rw [e1, e2]
    simpa [List.getD_eq_getElem?_getD, hx, hy] using he j _ _ xv yv hx hy hxv hyv rx ry)
  have eq : ((List.range (min its.size its2.size)).all (fun j => e (xs.getD j .none) (ys.getD j .none)) && its.size == its2.size) = (xs.length == ys.length && (xs.zip ys).all fun p => e p.1 p.2) := by
    rw [← la, ← lb, Bool.and_comm]
    congr 1
    have hz : ∀ (xs ys : List V), (List.range (min xs.length ys.length)).all (fun j => e (xs.getD j .none) (ys.getD j .none)) = (xs.zip ys).all fun p => e p.1 p.2 := by
      intro xs
      induction xs with
      | nil => intro ys; simp
      | cons x xs ih =>
        intro ys
        cases ys with
        | nil => simp
        | cons y ys =>
          have := ih ys
          rw [List.length_cons, List.length_cons, show min (xs.length + 1) (ys.length + 1) = min xs.length ys.length + 1 by omega, List.range_succ_eq_map, List.all_cons, List.all_map]
          simp only [List.zip_cons_cons, List.all_cons]
          rw [← this]
          rfl
    exact hz xs ys
  rw [← eq]
  exact key
theorem eqF_at {x y : V} {xv yv : Value} (hx : Flat x) (hy : Flat y) (rx : VR ρ s.heap x xv) (ry : VR ρ s.heap y yv) (hu : A.units < cLine) : EqAt A s xv yv (eqF x y) := by
  cases hx with
  | none =>
    (first | (replace rx := VR.invInt rx; obtain ⟨_, rfl⟩ := rx) | (replace rx := VR.invTop rx; subst rx) | cases rx)
    cases hy with
    | none => cases ry; exact .same _
    | int => cases ry; exact .none_int _ _
    | tup => cases ry with | tup t _ => exact .none_tuple t hu
  | int =>
    (first | (replace rx := VR.invInt rx; obtain ⟨_, rfl⟩ := rx) | (replace rx := VR.invTop rx; subst rx) | cases rx)
    cases hy with
    | none => cases ry; exact .int_none _ _
    | int => cases ry; exact .int_int _ _ _ _
    | tup => cases ry with | tup t _ => exact .int_tuple _ _ t hu
  | @tup xs =>
    replace rx := VR.invTup rx; obtain ⟨a, its, rfl, t, ra⟩ := rx
    cases hy with
    | none => cases ry; exact .tuple_none t hu
    | int => cases ry; exact .tuple_int _ _ t hu
    | @tup ys =>
      replace ry := VR.invTup ry; obtain ⟨b, its2, rfl, t2, rb⟩ := ry
      by_cases hab : a = b
      · subst hab
        obtain ⟨o, ho, hc, n, hd⟩ := t
        obtain ⟨o', ho', hc', n', hd'⟩ := t2
        rw [ho] at ho'; cases ho'; rw [hd] at hd'; cases hd'
        have inj : ∀ (xs ys : List Int) (vs : List Value), VRs ρ s.heap (xs.map V.int) vs → VRs ρ s.heap (ys.map V.int) vs → xs = ys := by
          intro xs
          induction xs with
          | nil => intro ys vs h1 h2; cases h1; cases ys with | nil => rfl | cons => cases h2
          | cons x xs ih =>
            intro ys vs h1 h2
            replace h1 := VRs.invCons h1; obtain ⟨_, _, rfl, r1, h1⟩ := h1
            cases ys with
            | nil => cases h2
            | cons y ys =>
              cases h2 with
              | cons r2 h2 => cases r1; cases r2; rw [ih ys _ h1 h2]
        rw [inj xs ys _ ra rb]
        rw [eqF_ints, decide_eq_true rfl]
        exact .same _
      · exact .of_refs hab (tup_eqAt t t2 ra rb hu eqI fun j u v uv vv hu1 hv1 _ _ ru rv => by
          have : ∃ i, u = .int i := by
            have := List.mem_of_getElem? hu1
            obtain ⟨i, _, e⟩ := List.mem_map.mp this
            exact ⟨i, e.symm⟩
          obtain ⟨i, rfl⟩ := this
          have : ∃ i, v = .int i := by
            have := List.mem_of_getElem? hv1
            obtain ⟨i, _, e⟩ := List.mem_map.mp this
            exact ⟨i, e.symm⟩
          obtain ⟨k, rfl⟩ := this
          (first | (replace ru := VR.invInt ru; obtain ⟨_, rfl⟩ := ru) | (replace ru := VR.invTop ru; subst ru) | cases ru); (first | (replace rv := VR.invInt rv; obtain ⟨_, rfl⟩ := rv) | (replace rv := VR.invTop rv; subst rv) | cases rv)
          exact .int_int _ _ _ _)

-- == of tuples of ints
theorem c_eqT {xs ys : List Int} {P : V → List O → Prop} (hu : A.units < cLine) (h : P (.bool (decide (xs = ys))) S) : ACmp G A .Eq (.tup (xs.map V.int)) (.tup (ys.map V.int)) S P := by
  intro ρ s vals Q H hv c
  replace hv := VRs.invCons hv; obtain ⟨_, _, rfl, r1, z⟩ := hv
  replace z := VRs.invCons z; obtain ⟨_, _, rfl, r2, z⟩ := z
  (first | (replace z := VRs.invNil z; subst z) | cases z)
  replace r1 := VR.invTup r1; obtain ⟨a, its, rfl, t, ra⟩ := r1
  replace r2 := VR.invTup r2; obtain ⟨b, its2, rfl, t2, rb⟩ := r2
  have k := tup_eqAt (A := A) (s := s) t t2 ra rb hu eqI fun j u v uv vv hu1 hv1 _ _ ru rv => by
    obtain ⟨i, _, rfl⟩ := List.mem_map.mp (List.mem_of_getElem? hu1)
    obtain ⟨k, _, rfl⟩ := List.mem_map.mp (List.mem_of_getElem? hv1)
    (first | (replace ru := VR.invInt ru; obtain ⟨_, rfl⟩ := ru) | (replace ru := VR.invTop ru; subst ru) | cases ru); (first | (replace rv := VR.invInt rv; obtain ⟨_, rfl⟩ := rv) | (replace rv := VR.invTop rv; subst rv) | cases rv)
    exact .int_int _ _ _ _
  have e := eqF_ints xs ys
  simp only [eqF] at e
  refine k _ _ _ _ (c _ S _ ρ s.heap s.toks h ?_ H .refl)
  rw [e]
  exact .bool

-- == and != of lists of flat values
theorem list_eqAt' {l b : Addr} {its its2 : Array Value} {xs ys : List V} (hl : s.heap.IsList l its) (hb : s.heap.IsList b its2) (ra : VRs ρ s.heap xs its.toList) (rb : VRs ρ s.heap ys its2.toList) (hu : A.units + 1 < cLine)
    (hx : ∀ x ∈ xs, Flat x) (hy : ∀ y ∈ ys, Flat y) : RcAt A s (.ref l) (.ref b) (xs.length == ys.length && (xs.zip ys).all fun p => eqF p.1 p.2) := by
  have la : xs.length = its.size := by simpa using ra.length
  have lb : ys.length = its2.size := by simpa using rb.length
  by_cases hsz : its.size = its2.size
  · have key := RcAt.lists (A := A) (s := s) (l := l) (b := b) (e := fun j => eqF (xs.getD j .none) (ys.getD j .none)) hl hb hsz (by omega) (fun j h1 h2 => by
      have hx1 : xs[j]? = some (xs[j]'(by omega)) := List.getElem?_eq_getElem _
      have hy1 : ys[j]? = some (ys[j]'(by omega)) := List.getElem?_eq_getElem _
      obtain ⟨xv, hxv, rx⟩ := ra.get hx1
      obtain ⟨yv, hyv, ry⟩ := rb.get hy1
      have e1 : its[j] = xv := by simpa [h1] using hxv
      have e2 : its2[j] = yv := by simpa [h2] using hyv
      rw [e1, e2]
      simpa [List.getD_eq_getElem?_getD, hx1, hy1] using eqF_at (A := A.in1) (hx _ (List.mem_of_getElem? hx1)) (hy _ (List.mem_of_getElem? hy1)) rx ry hu)
    have hz : ∀ (xs ys : List V), xs.length = ys.length → (List.range xs.length).all (fun j => eqF (xs.getD j .none) (ys.getD j .none)) = (xs.zip ys).all fun p => eqF p.1 p.2 := by
      intro xs
      induction xs with
      | nil => intro ys _; simp
      | cons x xs ih =>
        intro ys e
        cases ys with
        | nil => simp at e
        | cons y ys =>
          have := ih ys (by simpa using e)
          rw [List.length_cons, List.range_succ_eq_map, List.all_cons, List.all_map]
          simp only [List.zip_cons_cons, List.all_cons]
          rw [← this]
          rfl
    have e : (xs.length == ys.length && (xs.zip ys).all fun p => eqF p.1 p.2) = (List.range its.size).all fun j => eqF (xs.getD j .none) (ys.getD j .none) := by
      rw [← la, hz xs ys (by omega)]
      simp [la, lb, hsz]
    rw [e]
    exact key
  · have : (xs.length == ys.length) = false := by simpa [la, lb] using hsz
    rw [this, Bool.false_and]
    exact .lists_lengths hl hb (by simpa using hsz) (by omega)
noncomputable def eqL (xs ys : List V) : Bool := xs.length == ys.length && (xs.zip ys).all fun p => eqF p.1 p.2
theorem c_eqL {n k : Nat} {xs ys : List V} {P : V → List O → Prop} (hu : A.units + 1 < cLine) (hn : S[n]? = some (.list xs)) (hk : S[k]? = some (.list ys)) (hx : ∀ x ∈ xs, Flat x) (hy : ∀ y ∈ ys, Flat y) (h : P (.bool (eqL xs ys)) S) : ACmp G A .Eq (.ref n) (.ref k) S P := by
  intro ρ s vals Q H hv c
  replace hv := VRs.invCons hv; obtain ⟨_, _, rfl, r1, z⟩ := hv
  replace z := VRs.invCons z; obtain ⟨_, _, rfl, r2, z⟩ := z
  (first | (replace z := VRs.invNil z; subst z) | cases z)
  replace r1 := VR.invRef r1; obtain ⟨l, rfl, hl⟩ := r1
  replace r2 := VR.invRef r2; obtain ⟨b, rfl, hb⟩ := r2
  obtain ⟨its, il, ra⟩ := H.objs n l _ hl hn
  obtain ⟨its2, il2, rb⟩ := H.objs k b _ hb hk
  exact list_eqAt' il.isList il2.isList ra rb hu hx hy _ _ _ _ (c _ S _ ρ s.heap s.toks h .bool H .refl)

theorem seq_in {v : V} {vs : List Int} (hv : SeqV v S (vs.map V.int)) {ρ : List Addr} {s : Shared} {x : Value} (H : HS G ρ S s.heap) (r : VR ρ s.heap v x) :
    ∃ (l : Addr) (items : Array Value), x = .ref l ∧ (IsTup s.heap l items ∨ s.heap.IsList l items) ∧ VRs ρ s.heap (vs.map V.int) items.toList := by
  rcases hv with rfl | ⟨n, rfl, hS⟩
  · cases r with | @tup _ a its t ra => exact ⟨a, its, rfl, .inl t, ra⟩
  · cases r with
    | @ref _ l hl =>
      obtain ⟨its, il, ra⟩ := H.objs n l _ hl hS
      exact ⟨l, its, rfl, .inr il.isList, ra⟩
noncomputable def isI (a : Int) (y : Value) : Bool := match y with | .int b _ => b == a | _ => false
theorem any_isI {ρ h} {a : Int} : ∀ {vs : List Int} {items : List Value}, VRs ρ h (vs.map V.int) items → items.any (isI a) = vs.contains a
  | [], _, .nil => rfl
  | v :: vs, _, .cons r z => by
    (first | (replace r := VR.invInt r; obtain ⟨_, rfl⟩ := r) | (replace r := VR.invTop r; subst r) | cases r)
    rw [List.any_cons, any_isI z, List.contains_cons]
    congr 1
    show (v == a) = (a == v)
    by_cases h : v = a
    · subst h; rfl
    · rw [beq_eq_false_iff_ne.mpr h, beq_eq_false_iff_ne.mpr (Ne.symm h)]
theorem c_notIn {a : Int} {v : V} {vs : List Int} {P : V → List O → Prop} (hv : SeqV v S (vs.map V.int)) (h : P (.bool (!vs.contains a)) S) : ACmp G A .NotIn (.int a) v S P := by
  intro ρ s vals Q H hvs c
  replace hvs := VRs.invCons hvs; obtain ⟨_, _, rfl, r1, z⟩ := hvs
  replace z := VRs.invCons z; obtain ⟨_, _, rfl, r2, z⟩ := z
  (first | (replace z := VRs.invNil z; subst z) | cases z)
  obtain ⟨l, items, rfl, hl, ra⟩ := seq_in hv H r2
  replace r1 := VR.invInt r1; obtain ⟨t, rfl⟩ := r1
  have hitem : ∀ y, y ∈ items → EqAt A.in1 s y (.int a t) (isI a y) := fun y hy => by
    have hy' : y ∈ items.toList := by simpa using hy
    obtain ⟨j, hj, e⟩ := List.getElem_of_mem hy'
    have hlen := ra.length
    have hj' : j < vs.length := by simp at hlen hj; omega
    obtain ⟨xv, hxv, rx⟩ := ra.get (i := j) (v := .int vs[j]) (by simp [hj'])
    rw [List.getElem?_eq_getElem hj, e] at hxv
    cases hxv
    (first | (replace rx := VR.invInt rx; obtain ⟨_, rfl⟩ := rx) | (replace rx := VR.invTop rx; subst rx) | cases rx)
    exact .int_int _ _ _ _
  have hany : items.any (isI a) = vs.contains a := by rw [← any_isI ra]; simp
  rcases hl with hl | hl
  · exact notIn_tupleAt (isI a) hl hitem (c _ S _ ρ s.heap s.toks h (by rw [hany]; exact .bool) H .refl)
  · exact notIn_listAt (isI a) hl hitem (c _ S _ ρ s.heap s.toks h (by rw [hany]; exact .bool) H .refl)

-- [x] * n, a + b
theorem alloc_list {ρ : List Addr} {h : Heap} {vs : List V} {items : Array Value} (H : HS G ρ S h) (vr : VRs ρ h vs items.toList) :
    HS G (ρ ++ [h.objs.size]) (S ++ [.list vs]) (h.push { cls := .type "list", data := .seq items }) ∧ Ext noX ρ h (ρ ++ [h.objs.size]) (h.push { cls := .type "list", data := .seq items }) ∧
      VR (ρ ++ [h.objs.size]) (h.push { cls := .type "list", data := .seq items }) (.ref S.length) (.ref h.objs.size) := by
  obtain ⟨H₂, e₂⟩ := H.alloc (o := { cls := .type "list", data := .seq items }) (ob := .list vs) ⟨items, ⟨0, Heap.get?_push_size _ rfl⟩,
    vr.mono (fun n a e => by rw [List.getElem?_append_left (List.getElem?_eq_some_iff.mp e).1]; exact e) fun c its t => tup_touch push_but (none_notTup get_push_none) c its t⟩
  exact ⟨H₂, e₂, .ref (by rw [← H.len]; simp)⟩
theorem vrs_replicate {ρ h} {v : V} {x : Value} (r : VR ρ h v x) : ∀ n : Nat, VRs ρ h (List.replicate n v) (List.replicate n x)
  | 0 => .nil
  | n + 1 => .cons r (vrs_replicate r n)
theorem fold_replicate (x : Value) : ∀ (n : Nat) (acc : Array Value), ((List.replicate n (#[x] : Array Value)).foldl (fun a b => a ++ b) acc).toList = acc.toList ++ List.replicate n x
  | 0, acc => by simp
  | n + 1, acc => by rw [List.replicate_succ, List.foldl_cons, fold_replicate x n]; simp [List.replicate_succ]
theorem mulRaw {Q : Value → Shared → Prop} {l : Addr} {items : Array Value} {e : Nat} {x : Int} {u : Tok}
    (hl : s.heap.get? l = some { cls := .type "list", dict := none, data := .seq items e, slots := #[] }) (hlo : -(2 ^ 63 : Int) ≤ x) (hhi : x < 2 ^ 63) (hsz : items.size * x.toNat ≤ 2 ^ 24)
    (h : Q (.ref s.heap.objs.size) { s with heap := s.heap.push { cls := .type "list", data := .seq (List.foldl (fun x1 x2 => x1 ++ x2) #[] (List.replicate (if items.isEmpty = true then 0 else x.toNat) items)) } }) : wpAny G.M A (binaryOp .Mult (.ref l) (.int x u)) Q noE s :=
  wpAny_binaryOp_repeat_ref (T := "list") (U := "int") (by decide) ⟨_, hl, rfl⟩ (fun s' => typeIs_int s' x u) noFill_list_mul F.fills_int_mul F.slot_int_rmul repeat_list F.slot_int_index.lookup
    (call_meets F.slot_int_rmul (typeIs_int s x u) F.entry_int_rmul (F.args_int_rmul_2 _ _) (int___rmul___int_list x u l items e)
      ⟨hl, rfl, ⟨_, hl, rfl⟩, call_meets F.slot_list_mul ⟨_, hl, rfl⟩ F.entry_list_mul (F.args_list_mul_2 _ _)
        (AutoListH.list___mul___list_int_3 l items e x u (by simp [Builtin.List.listFitsIndex]; omega) (by omega) (by simp [Builtin.List.listTooLong, sizeLine]; omega)) ⟨hl, h⟩⟩)
theorem b_mulL {n k : Nat} {v : V} {P : V → List O → Prop} (hS : S[n]? = some (.list [v])) (hk : k ≤ 100000) (h : P (.ref S.length) (S ++ [.list (List.replicate k v)])) : ABin G A .Mult (.ref n) (.int k) S P := by
  intro ρ s vals Q H hvs c
  replace hvs := VRs.invCons hvs; obtain ⟨_, _, rfl, r1, z⟩ := hvs
  replace z := VRs.invCons z; obtain ⟨_, _, rfl, r2, z⟩ := z
  (first | (replace z := VRs.invNil z; subst z) | cases z)
  replace r2 := VR.invInt r2; obtain ⟨u, rfl⟩ := r2
  replace r1 := VR.invRef r1; obtain ⟨l, rfl, hl⟩ := r1
  obtain ⟨items, ⟨e, ho⟩, vr⟩ := H.objs n l _ hl hS
  have hsz : items.size = 1 := by have := vr.length; simpa using this.symm
  refine mulRaw ho (by omega) (by omega) (by rw [hsz, Int.toNat_natCast]; omega) ?_
  obtain ⟨x, hx⟩ : ∃ x, items = #[x] := by
    obtain ⟨L⟩ := items
    obtain ⟨x, rfl⟩ := vals1 (show L.length = 1 from hsz)
    exact ⟨x, rfl⟩
  have rx : VR ρ s.heap v x := by subst hx; cases vr with | cons r _ => exact r
  obtain ⟨H₂, e₂, r₂⟩ := alloc_list (items := List.foldl (fun x1 x2 => x1 ++ x2) #[] (List.replicate (if items.isEmpty = true then 0 else (k : Int).toNat) items)) H (vs := List.replicate k v) (by
    rw [if_neg (by rw [Array.isEmpty]; simp [hsz]), Int.toNat_natCast, hx, fold_replicate]; exact vrs_replicate rx k)
  exact c _ _ _ _ _ s.toks h r₂ H₂ e₂
end
end
-- AW12
section
open PySem.SeqAt
section
variable {G : Gx} {A : Around} {env : Env} {ls : List (Str × V)} {S : List O} {ρ : List Addr} {s : Shared}

-- a + b of lists
theorem b_addL {n k : Nat} {vs ws : List V} {P : V → List O → Prop} (hn : S[n]? = some (.list vs)) (hk : S[k]? = some (.list ws)) (hb : vs.length + ws.length ≤ 100000) (h : P (.ref S.length) (S ++ [.list (vs ++ ws)])) : ABin G A .Add (.ref n) (.ref k) S P := by
  intro ρ s vals Q H hvs c
  replace hvs := VRs.invCons hvs; obtain ⟨_, _, rfl, r1, z⟩ := hvs
  replace z := VRs.invCons z; obtain ⟨_, _, rfl, r2, z⟩ := z
  (first | (replace z := VRs.invNil z; subst z) | cases z)
  replace r1 := VR.invRef r1; obtain ⟨l, rfl, hl⟩ := r1
  cases r2 with
  | @ref _ b hb' =>
    obtain ⟨items, ⟨e, ho⟩, vr⟩ := H.objs n l _ hl hn
    obtain ⟨items2, ⟨e2, ho2⟩, vr2⟩ := H.objs k b _ hb' hk
    have l1 : vs.length = items.size := by simpa using vr.length
    have l2 : ws.length = items2.size := by simpa using vr2.length
    obtain ⟨H₂, x₂, r₂⟩ := alloc_list (items := items ++ items2) H (vs := vs ++ ws) (by simpa using vr.append vr2)
    exact concat_meets ⟨_, ho, rfl⟩ ⟨_, ho2, rfl⟩ noFill_list_add seq_list_add PySem.F.slot_list_add PySem.F.entry_list_add (PySem.F.args_list_add_2 _ _) (list_addW l b items items2 e e2 none none #[] #[] (by rw [sizeLine_eq]; omega))
      ⟨ho, ho2, c _ _ _ _ _ s.toks h r₂ H₂ x₂⟩

theorem aIf {test body orelse : Expr} {pos : Pos} {P : V → List O → Prop} (h : ATest G A env test ls S fun b S₁ => if b then AEval G A env body ls S₁ P else AEval G A env orelse ls S₁ P) : AEval G A env (.IfExp test body orelse pos) ls S P := by
  intro ρ m cm s Q X c
  refine wpAny_IfExp (h ρ m cm s _ X fun b S₁ a ρ₁ h₁ t₁ p r H₁ e₁ => ?_)
  have : a = b := r
  subst this
  cases a with
  | true => exact p ρ₁ m cm _ Q (X.next H₁ e₁) fun b S' a ρ' h' tk' hp hr H' e' => c b S' a ρ' h' tk' hp hr H' (e₁.trans e')
  | false => exact p ρ₁ m cm _ Q (X.next H₁ e₁) fun b S' a ρ' h' tk' hp hr H' e' => c b S' a ρ' h' tk' hp hr H' (e₁.trans e')

-- x[:k]
theorem aSliceTo {value e : Expr} {p pos : Pos} {P : V → List O → Prop}
    (h : AEval G A env value ls S fun v S₁ => AEval G A env e ls S₁ fun i S₂ => ∃ (n : Nat) (vs : List V) (k : Nat), v = .ref n ∧ i = .int k ∧ S₂[n]? = some (.list vs) ∧ vs.length ≤ 100000 ∧ P (.ref S₂.length) (S₂ ++ [.list (vs.take k)]))
    (hs : ∀ o i, subscripted (.Slice none (some e) none p) false o i = operate [i, o] (getItem o i) := by intro _ _; rfl) : AEval G A env (.Subscript value (.Slice none (some e) none p) pos) ls S P := by
  intro ρ m cm s Q X c
  refine Subscript_ (h ρ m cm s _ X fun v S₁ a ρ₁ h₁ t₁ p₁ r₁ H₁ e₁ => ?_)
  refine wpAny_Slice ?_
  rw [evalPart_none, evalPart_some]
  refine wpAny_pure (p₁ ρ₁ m cm _ _ (X.next H₁ e₁) fun i S₂ ia ρ₂ h₂ t₂ p₂ r₂ H₂ e₂ => wpAny_pure ?_)
  obtain ⟨n, vs, k, rfl, rfl, hS, hb, hp⟩ := p₂
  replace r₂ := VR.invInt r₂; obtain ⟨t, rfl⟩ := r₂
  have rv := e₂.vr H₁ noX_tup r₁
  replace rv := VR.invRef rv; obtain ⟨l, rfl, hl⟩ := rv
  have H₃ := H₂.push { cls := .type "slice", data := .fields #[.none, .int (k : Int) t, .none] }
  have e₃ : Ext noX ρ₂ h₂ ρ₂ (h₂.push { cls := .type "slice", data := .fields #[.none, .int (k : Int) t, .none] }) := push_ext
  obtain ⟨items, il, vr⟩ := H₃.objs n l _ hl hS
  have hsz : vs.length = items.size := by simpa using vr.length
  obtain ⟨H₄, e₄, r₄⟩ := alloc_list (items := slicePick items none (some (k : Int)) none) H₃ (vs := vs.take k) (by
    rw [slicePick_upto']
    have take : ∀ {vs : List V} {xs : List Value} (k : Nat), VRs ρ₂ (h₂.push { cls := .type "slice", data := .fields #[.none, .int (k : Int) t, .none] }) vs xs → True := fun _ _ => trivial
    clear take
    have take : ∀ {h : Heap} (k : Nat) {vs : List V} {xs : List Value}, VRs ρ₂ h vs xs → VRs ρ₂ h (vs.take k) (xs.take k) := by
      intro h k
      induction k with
      | zero => intro vs xs _; simpa using VRs.nil
      | succ k ih =>
        intro vs xs r
        cases r with
        | nil => simpa using VRs.nil
        | cons a b => exact .cons a (ih b)
    simpa using take k vr)
  refine tail_any il.isList.typeIs slot_list_getitem.lookup (wpAny_getItem_list_slice il.isList (Heap.IsSliceOf.new ..) .none (.int _ _) .none (by simp) ?_ (by rw [sizeLine_eq]; omega)) (hs _ _)
  exact c _ _ _ _ _ t₂ hp r₄ H₄ (((e₁.trans e₂).trans e₃).trans e₄)

-- instances
noncomputable def instF (C : Addr) : List Addr → Obj := fun as => { cls := .ref C, dict := as.head?, data := .plain }
structure IsInst (C : Addr) (S : List O) (x d : Nat) (fs : List (Str × V)) : Prop where
  x : S[x]? = some (.raw (instF C) [d])
  d : S[d]? = some (.fields fs)
theorem IsInst.at {C x d fs a} {h : Heap} (I : IsInst C S x d fs) (H : HS G ρ S h) (hx : ρ[x]? = some a) : ∃ dx es n, h.get? a = some (instObj C dx) ∧ h.get? dx = some (dictOf es n) ∧ FieldsR ρ h fs es ∧ ρ[d]? = some dx := by
  obtain ⟨as, e, ho, _⟩ := H.objs x a _ hx I.x
  have hd : ∃ dx, ρ[d]? = some dx := by
    have hlt : d < ρ.length := by rw [H.len]; exact (List.getElem?_eq_some_iff.mp I.d).1
    exact ⟨_, List.getElem?_eq_getElem hlt⟩
  obtain ⟨dx, hd⟩ := hd
  obtain ⟨es, n, ho', fr⟩ := H.objs d dx _ hd I.d
  have : as = [dx] := by
    rw [List.map_cons, List.map_nil, hd] at e
    cases as with
    | nil => simp at e
    | cons b r => cases r with | nil => simp at e; rw [e] | cons => simp at e
  subst this
  exact ⟨dx, es, n, ho, ho', fr, hd⟩
theorem IsInst.inst {C x d fs a} {h : Heap} (I : IsInst C S x d fs) (H : HS G ρ S h) (hx : ρ[x]? = some a) : ∃ dx es n, InstAt h a (instObj C dx) C (some (dictOf es n)) ∧ FieldsR ρ h fs es ∧ ρ[d]? = some dx := by
  obtain ⟨dx, es, n, a1, a2, a3, a4⟩ := I.at H hx
  exact ⟨dx, es, n, ⟨a1, rfl, rfl, a2⟩, a3, a4⟩
theorem isStr_str (x y : Str) (t : Tok) : (Value.str x t).isStr y = (x == y) := rfl
theorem FieldsR.find {h : Heap} : ∀ {fs : List (Str × V)} {es : List DictEntry}, FieldsR ρ h fs es → ∀ x, match fs.lookup x with
    | some v => ∃ val, getL x es = some (some val) ∧ VR ρ h v val
    | none => getL x es = some none
  | _, _, .nil, x => rfl
  | _, _, .cons (x := y) (v := v) (hs := hs) (t := t) (val := val) (fs := fs) (es := es) r k, x => by
    have ih := k.find x
    simp only [List.lookup]
    by_cases q : x = y
    · subst q
      simp only [beq_self_eq_true]
      exact ⟨val, by unfold getL; rw [List.find?_cons]; simp [isStr_str], r⟩
    · rw [beq_eq_false_iff_ne.mpr q]
      have e : getL x (⟨hs, .str y t, val⟩ :: es) = getL x es := by
        unfold getL
        rw [List.find?_cons]
        simp only [isStr_str, beq_eq_false_iff_ne.mpr (Ne.symm q), List.any_cons, DictEntry.refKey, Bool.false_or]
        rfl
      rw [e]
      exact ih
theorem FieldsR.put {h : Heap} {x : Str} {hs : Int} {t : Tok} {v : V} {val : Value} (r : VR ρ h v val) : ∀ {fs : List (Str × V)} {es : List DictEntry}, FieldsR ρ h fs es → FieldsR ρ h (upd fs x v) (putL x hs (.str x t) val es)
  | _, _, .nil => .cons r .nil
  | _, _, .cons (x := y) (v := u) (hs := hs') (t := t') (val := val') (fs := fs) (es := es) r' k => by
    unfold upd putL
    show FieldsR ρ h (bif x == y then _ else _) (if (y == x) = true then _ else _)
    by_cases q : x = y
    · subst q; simpa using .cons r k
    · rw [beq_eq_false_iff_ne.mpr q, beq_eq_false_iff_ne.mpr (Ne.symm q)]
      exact .cons r' (k.put r)
theorem FieldsR.len {h : Heap} : ∀ {fs : List (Str × V)} {es : List DictEntry}, FieldsR ρ h fs es → fs.length = es.length
  | _, _, .nil => rfl
  | _, _, .cons _ k => by simp [k.len]
theorem FieldsR.noRef {h : Heap} : ∀ {fs : List (Str × V)} {es : List DictEntry}, FieldsR ρ h fs es → es.any (·.refKey) = false
  | _, _, .nil => rfl
  | _, _, .cons _ k => by rw [List.any_cons, k.noRef]; rfl

structure ClsOk (K : Frag) (C : Addr) : Prop where
  ga : findIn K (.ref C) "__getattribute__" = some (some (.builtin "object.__getattribute__"))
  gt : findIn K (.ref C) "__getattr__" = some none
  sa : findIn K (.ref C) "__setattr__" = some (some (.builtin "object.__setattr__"))
  hd : hasDictIn K C = true
  po : plainOver K C = true

-- x.attr
theorem aAttr {C : Addr} {value : Expr} {attr : Str} {pos : Pos} {P : V → List O → Prop} (K : ClsOk G.K C) (ha : findIn G.K (.ref C) attr = some none)
    (h : AEval G A env value ls S fun v S₁ => ∃ x d fs u, v = .ref x ∧ IsInst C S₁ x d fs ∧ fs.lookup attr = some u ∧ (∀ w, u ≠ .top w) ∧ P u S₁)
    (he : eval (.Attribute value attr pos) env = (do
      let o ← eval value env
      standAt pos.atName
      let r ← holding [o] (getAttr o attr true)
      letTemporaryGo value o r
      pure r) := by rfl) : AEval G A env (.Attribute value attr pos) ls S P := by
  intro ρ m cm s Q X c
  refine Attribute_any_ (h ρ m cm s _ X fun v S₁ a ρ₁ h₁ t₁ p₁ r₁ H₁ e₁ => ?_) he
  obtain ⟨x, d, fs, u, rfl, I, hu, hnt, hp⟩ := p₁
  replace r₁ := VR.invRef r₁; obtain ⟨l, rfl, hl⟩ := r₁
  obtain ⟨dx, es, n, J, fr, hdx⟩ := I.inst H₁ hl
  have := fr.find attr
  rw [hu] at this
  obtain ⟨val, hg, rv⟩ := this
  have hh : handedIn val = true := by cases rv <;> first | rfl | exact absurd rfl (hnt _)
  exact get_value (s := { s with heap := h₁, toks := t₁ }) (fun a o e => H₁.base a o (G.X a o e)) J K.ga (findObj_own K.hd ha rfl hg) hh (c u S₁ val ρ₁ h₁ (t₁ + 1) hp rv H₁ e₁)

-- a call of a method of a class of the program
theorem aMethod {C f : Addr} {o : Expr} {name : Str} {apos pos : Pos} {args : List Expr} {pl : Sem Bool} {P : V → List O → Prop} (K : ClsOk G.K C) (hf : findIn G.K (.ref C) name = some (some (.ref f))) (ht : typeIn G.K (.ref f) = some (.type "function")) (hk : keepIn G.K (.ref f) = true)
    (h : AEval G A env o ls S fun v S₁ => ∃ x d fs, v = .ref x ∧ IsInst C S₁ x d fs ∧ fs.lookup name = none ∧ AArgs G A env pos args ls S₁ fun vs S₂ => AApp G A (.top (.ref f)) (.ref x :: vs) S₂ P)
    (he : eval (.Call (.Attribute o name apos) args [] pos) env = (do
      let ov ← eval o env
      standAt apos.atName
      let (f, first) ← holding [ov] (getMethod ov name pl)
      callWith pos f first (backTo pos (starEach args env)) []) := by rfl)
    (hp : (backTo pos (starEach args env)).any (·.1) = false := by rfl) : AEval G A env (.Call (.Attribute o name apos) args [] pos) ls S P := by
  intro ρ m cm s Q X c
  refine MethodCall_ (h ρ m cm s _ X fun v S₁ a ρ₁ h₁ t₁ p₁ r₁ H₁ e₁ => ?_) he
  obtain ⟨x, d, fs, rfl, I, hn, p⟩ := p₁
  replace r₁ := VR.invRef r₁; obtain ⟨l, rfl, hl⟩ := r₁
  obtain ⟨dx, es, n, J, fr, hdx⟩ := I.inst H₁ hl
  have hs : shadowIn (some (dictOf es n)) name = some false := by
    have := fr.find name
    rw [hn] at this
    show (getL name es).map _ = _
    rw [show getL name es = some none from this]; rfl
  refine method_fn (s := { s with heap := h₁, toks := t₁ }) (fun a o e => H₁.base a o (G.X a o e)) J K.ga K.gt hf ht hs ?_
  refine callWith_of (P := fun hh => ∃ k, (k = Keeper.frame ∨ k = Keeper.machine ∨ k = Keeper.boundFrame) ∧ Looks G.M hh (keeperOf (.ref f)) k) (by rw [hp]; rfl) (fun _ p => p) (evalArgs_any hp ?_)
  refine p ρ₁ m cm _ _ (X.next H₁ e₁) fun vs S₂ as ρ₂ h₂ t₂ p₂ r₂ H₂ e₂ => ?_
  exact ⟨keep_K hk ρ₂ h₂ (.ref f) H₂ .top, p₂ ρ₂ _ (.ref f :: .ref l :: as) Q H₂ (.cons .top (.cons (.ref (e₂.idx _ _ hl)) r₂)) fun b S' a ρ' h' tk' hp hr H' e' => c b S' a ρ' h' tk' hp hr H' ((e₁.trans e₂).trans e')⟩

-- x.attr = v
theorem s_setAttr {C : Addr} {o value : Expr} {attr : Str} {pos' pos : Pos} {P : AFlow → List (Str × V) → List O → Prop} (K : ClsOk G.K C) (ht : takerIn G.K C attr = some none)
    (h : AEval G A env value ls S fun v S₁ => AEval G A env o ls S₁ fun ov S₂ => ∃ x d fs, ov = .ref x ∧ IsInst C S₂ x d fs ∧ fs.length ≤ 100 ∧ P .next ls (S₂.set d (.fields (upd fs attr v))))
    (hs : swapsWith value (some (.Attribute o attr pos')) pos.line env = pure false := by rfl) : AExec G A env (.Assign [.Attribute o attr pos'] value pos) ls S P := by
  intro ρ m cm s Q X c
  refine plainObj_wpAny_Assign_Attribute (h ρ m cm s _ X fun v S₁ a ρ₁ h₁ t₁ p₁ r₁ H₁ e₁ => ?_) hs
  refine p₁ ρ₁ m cm _ _ (X.next H₁ e₁) fun ov S₂ oa ρ₂ h₂ t₂ p₂ r₂ H₂ e₂ => ?_
  obtain ⟨x, d, fs, rfl, I, hb, hp⟩ := p₂
  replace r₂ := VR.invRef r₂; obtain ⟨l, rfl, hl⟩ := r₂
  obtain ⟨dx, es, n, J, fr, hdx⟩ := I.inst H₂ hl
  have XK : G.K.In h₂ := fun a o e => H₂.base a o (G.X a o e)
  refine set_plain (s := { s with heap := h₂, toks := t₂ }) XK J K.sa (osa_open XK J K.po ht fun b => ?_)
  have rv := e₂.vr H₁ noX_tup r₁
  obtain ⟨cd, hc, hd'⟩ := any_some K.hd
  have hdo : h₂.get? dx = some (dictOf es n) := J.dict
  refine wpAny_bind (wpAny_pure (wpAny_bind (wpAny_bind (wpAny_loadPart J.at_ (wpAny_bind ((looks_clsIn XK hc).here ?_))))))
  rw [hd']
  refine wpAny_pure (a := some dx) (wpAny_bind (wpAny_pure (wpAny_bind ?_)))
  unfold nsSet
  refine wpAny_bind (wpAny_bind (wpAny_askSetting (wpAny_pure (wpAny_bind (wpAny_mkText (wpAny_bind (wpAny_loadPart hdo ?_)))))))
  have nr : (!es.toArray.any (·.key.isStr attr) && es.toArray.any (·.refKey)) = false := by
    have := fr.noRef
    rw [List.any_toArray, List.any_toArray, this, Bool.and_false]
  dsimp only [dictOf]
  rw [aRefKeyMayBeTheName_at, nr]
  have hle : (putL attr (PyData.keyHash G.w.params attr) (.str attr (t₂ + 1)) a es).length ≤ 101 := by
    have := (fr.put (x := attr) (hs := PyData.keyHash G.w.params attr) (t := t₂ + 1) rv).len
    have h2 : ∀ (fs : List (Str × V)), (upd fs attr v).length ≤ fs.length + 1 := by
      intro fs
      induction fs with
      | nil => simp [upd]
      | cons p r ih =>
        obtain ⟨y, u⟩ := p
        unfold upd
        cases attr == y <;> simp <;> omega
    have := h2 fs
    omega
  have hup : (h₂.update dx (Obj.putName attr (PyData.keyHash G.w.params attr) (.str attr (t₂ + 1)) a)).get? dx = some (dictOf (putL attr (PyData.keyHash G.w.params attr) (.str attr (t₂ + 1)) a es) (putN attr es n)) := by
    have := Heap.get?_update_self (f := Obj.putName attr (PyData.keyHash G.w.params attr) (.str attr (t₂ + 1)) a) hdo (by rw [putName_dict]; rfl)
    rw [this, putName_dict]
  refine wpAny_updatePart hdo ?_
  refine wpAny_bind (wpAny_lookBehind hup (pastItsLine_dict (by rw [List.size_toArray, sizeLine_eq]; omega)) ?_)
  have hs : Heap.SameBut dx h₂ (h₂.update dx (Obj.putName attr (PyData.keyHash G.w.params attr) (.str attr (t₂ + 1)) a)) := Heap.SameBut.update ..
  have nt := H₂.notTup (List.mem_of_getElem? hdx)
  obtain ⟨H₃, e₃⟩ := H₂.set (o := .fields (upd fs attr v)) hdx hs ⟨_, _, hup, (fr.put rv).mono (fun _ _ e => e) (tup_touch hs.extBut nt)⟩
  exact wpAny_pure (c _ ls _ _ ρ₂ m cm _ _ hp .next (X.next H₃ ((e₁.trans e₂).trans e₃)) (((e₁.trans e₂).trans e₃).weak fun _ => False.elim))
end
end
-- AW13
section
open PySem.SeqAt
-- an iterator of the values vs stands at I
structure Itr (G : Gx) (A : Around) (vs : List V) (I : Addr) (Held : List O → Prop) (At : Nat → List Addr → List O → Heap → Prop) : Prop where
  src : ∀ env, Src G A env vs I Held At
  self : ∀ i ρ S (s : Shared) (E : Value → Shared → Prop) (Q : Value → Shared → Prop), At i ρ S s.heap → Q (.ref I) s → wpAny G.M A (pyIter (.ref I)) Q E s

noncomputable def AIter (G : Gx) (A : Around) (env : Env) (iter : Expr) (ls : List (Str × V)) (S : List O) (P : List V → (List O → Prop) → List O → Prop) : Prop :=
  ∀ ρ m cm s (Q : Value → Shared → Prop), St G env ls S ρ m cm s.heap →
    (∀ vs I Held At S' ρ' h' tk', P vs Held S' → Itr G A vs I Held At → At 0 ρ' S' h' → HS G ρ' S' h' → Ext noX ρ s.heap ρ' h' → s.heap.get? I = none → I ∉ ρ' → G.h₀.get? I = none → ¬ FX env I → Q (.ref I) { s with heap := h', toks := tk' }) →
    wpAny G.M A (eval iter env) (fun x s₁ => wpAny G.M A (pyIter x) Q noE s₁) noE s

section
variable {G : Gx} {A : Around} {env : Env} {ls : List (Str × V)} {S : List O} {ρ : List Addr} {s : Shared}

theorem Ext.noneOf {X ρ h ρ' h'} (e : Ext X ρ h ρ' h') : h.get? h'.objs.size = none := by
  cases q : h.get? h'.objs.size with
  | none => rfl
  | some o => obtain ⟨o', ho'⟩ := e.live _ _ q; rw [get_push_none] at ho'; cases ho'
theorem St.push {m cm h} (X : St G env ls S ρ m cm h) (o : Obj) : St G env ls S ρ m cm (h.push o) := by
  obtain ⟨f1, f2, f3⟩ := X.fresh
  exact X.touch push_but (none_notTup get_push_none) f1 f2 f3
theorem itr_tup (hh : A.handled = none) {t I : Addr} {items : Array Value} {vs : List V} : Itr G A vs I (fun _ => True) (AtTup t I items vs) :=
  ⟨fun _ => src_tup hh, fun i ρ S s E Q hat h => wpAny_pyIter_tupleiter (t := t) (i := i) hat.1 h⟩
theorem itr_list (hh : A.handled = none) {n : Nat} {l I : Addr} {vs : List V} : Itr G A vs I (fun S => S[n]? = some (.list vs)) (AtList n l I vs) :=
  ⟨fun _ => src_list hh, fun i ρ S s E Q hat h => wpAny_pyIter_listiter hat.1 h⟩
theorem itr_range (hh : A.handled = none) {I : Addr} {a : Int} {n : Nat} : Itr G A ((List.range n).map fun (i : Nat) => V.int (a + (i : Int))) I (fun _ => True) (AtRange I a n) :=
  ⟨fun _ => src_range hh, fun i ρ S s E Q hat h => wpAny_pyIter_rangeiter hat h⟩

theorem iter_seq {iter : Expr} {P : List V → (List O → Prop) → List O → Prop} (hh : A.handled = none)
    (h : AEval G A env iter ls S fun v S₁ => ∃ vs, SeqV v S₁ vs ∧ ∀ Held, (∀ S', SeqV v S' vs → Held S') → P vs Held S₁) : AIter G A env iter ls S P := by
  intro ρ m cm s Q X c
  refine h ρ m cm s _ X fun v S₁ a ρ₁ h₁ t₁ p₁ r₁ H₁ e₁ => ?_
  obtain ⟨vs, hv, p⟩ := p₁
  have X₁ := X.next H₁ e₁
  obtain ⟨f1, f2, f3⟩ := X₁.fresh
  rcases hv with rfl | ⟨n, rfl, hS⟩
  · cases r₁ with
    | @tup _ t items it vr =>
      refine iter_tuple it ?_
      have k : ∀ b o, h₁.get? b = some o → (h₁.push { cls := .type "tuple_iterator", data := .fields #[.ref t, .int 0 0] }).get? b = some o := fun b o e => Heap.get?_push_of_some _ e
      obtain ⟨H₂, e₂⟩ := grow H₁ k
      exact c vs _ _ _ S₁ ρ₁ _ t₁ (p (fun _ => True) fun _ _ => trivial) (itr_tup hh (t := t) (items := items)) ⟨⟨_, Heap.get?_push_size _ rfl, rfl, rfl⟩, (let ⟨o, ho, r⟩ := it; ⟨o, k _ _ ho, r⟩), vrs_grow k vr⟩ H₂ (e₁.trans e₂) e₁.noneOf f1 f2 f3
  · cases r₁ with
    | @ref _ l hl =>
      obtain ⟨items, il, vr⟩ := H₁.objs n l _ hl hS
      refine wpAny_pyIter_list il.isList ?_
      have k : ∀ b o, h₁.get? b = some o → (h₁.push { cls := .type "list_iterator", data := .fields #[.ref l, .int 0 0] }).get? b = some o := fun b o e => Heap.get?_push_of_some _ e
      obtain ⟨H₂, e₂⟩ := grow H₁ k
      exact c vs _ _ _ S₁ ρ₁ _ t₁ (p (fun S => S[n]? = some (.list vs)) fun S' q => by
        rcases q with q | ⟨n', q, r⟩
        · cases q
        · cases q; exact r) (itr_list hh (n := n) (l := l)) ⟨⟨_, Heap.get?_push_size _ rfl, rfl, rfl⟩, hl, hS⟩ H₂ (e₁.trans e₂) e₁.noneOf f1 f2 f3

theorem iter_range {pr pc : Pos} {args : List Expr} {P : List V → (List O → Prop) → List O → Prop} (ok : EnvOk env) (hh : A.handled = none)
    (hg : env.kindOf "range" = some .globalImplicit) (hk : nsIn G.K mainGlobals "range" = some none)
    (h : AArgs G A env pc args ls S fun vs S₁ => ∃ (a : Int) (n : Nat), (vs = [.int n] ∧ a = 0 ∨ vs = [.int a, .int (a + n)]) ∧ -(2 ^ 60) ≤ a ∧ a + n < 2 ^ 60 ∧ P ((List.range n).map fun (i : Nat) => V.int (a + (i : Int))) (fun _ => True) S₁)
    (he : eval (.Call (.Name "range" pr) args [] pc) env = (do callWith pc (← eval (.Name "range" pr) env) [] (backTo pc (starEach args env)) []) := by rfl)
    (hp : (backTo pc (starEach args env)).any (·.1) = false := by rfl) : AIter G A env (.Call (.Name "range" pr) args [] pc) ls S P := by
  intro ρ m cm s Q X c
  rw [he]
  refine wpAny_bind (aBuiltin (P := fun v S₁ => v = .top (.type "range") ∧ S₁ = S) ok hg hk (by boot_fast) (by decide) ⟨rfl, rfl⟩ (by decide) ρ m cm s _ X fun fv S₁ fa ρ₁ h₁ t₁ p₁ r₁ H₁ e₁ => ?_)
  obtain ⟨rfl, rfl⟩ := p₁
  (first | (replace r₁ := VR.invInt r₁; obtain ⟨_, rfl⟩ := r₁) | (replace r₁ := VR.invTop r₁; subst r₁) | cases r₁)
  refine callWith_of (P := fun _ => True) (by rw [hp]; rfl) (fun _ p => ⟨.machine, .inr (.inl rfl), Looks.of_pure rfl⟩) (evalArgs_any hp ?_)
  refine h ρ₁ m cm _ _ (X.next H₁ e₁) fun vs S₂ as ρ₂ h₂ t₂ p₂ r₂ H₂ e₂ => ⟨trivial, ?_⟩
  obtain ⟨a, n, hvs, hlo, hhi, p⟩ := p₂
  have X₂ := X.next H₂ (e₁.trans e₂)
  have fin : ∀ (t u v : Tok) (tk : Nat), wpAny G.M A (pyIter (.ref h₂.objs.size)) Q noE { s with heap := h₂.push { cls := .type "range", data := .fields #[.int a t, .int (a + n) u, .int 1 v] }, toks := tk } := by
    intro t u v tk
    have hsm : Builtin.Range.small a (a + n) 1 = true := small_one (by omega) (by omega) (by omega) (by omega)
    refine wpAny_pyIter_range (IsRange.new h₂ a (a + n) 1 t u v) hsm ?_
    rw [range_size]
    generalize hob : ({ cls := .type "range", data := .fields #[.int a t, .int (a + n) u, .int 1 v] } : Obj) = ob
    have X₃ := X₂.push ob
    obtain ⟨f1, f2, f3⟩ := X₃.fresh
    have e₃ : Ext noX ρ s.heap ρ₂ (h₂.push ob) := (e₁.trans e₂).trans push_ext
    have X₄ := X₃.push { cls := .type "range_iterator", data := .fields #[.int a 0, .int n 0, .int 1 0] }
    refine c _ _ _ _ S₂ ρ₂ _ tk p (itr_range hh) ?_ X₄.H (e₃.trans push_ext) e₃.noneOf f1 f2 f3
    show IsRangeIter _ _ (a + ((0 : Nat) : Int)) ((n : Int) - ((0 : Nat) : Int)) 1
    rw [show a + ((0 : Nat) : Int) = a by omega, show (n : Int) - ((0 : Nat) : Int) = n by omega]
    exact Heap.get?_push_size _ rfl
  rcases hvs with ⟨rfl, rfl⟩ | rfl
  · cases r₂ with
    | cons r z =>
      (first | (replace z := VRs.invNil z; subst z) | cases z); (first | (replace r := VR.invInt r; obtain ⟨_, rfl⟩ := r) | (replace r := VR.invTop r; subst r) | cases r)
      refine call_range_1 ?_
      have := fin
      simp only [Int.zero_add] at this
      exact this _ _ _ _
  · cases r₂ with
    | cons r z =>
      (first | (replace r := VR.invInt r; obtain ⟨_, rfl⟩ := r) | (replace r := VR.invTop r; subst r) | cases r)
      replace z := VRs.invCons z; obtain ⟨_, _, rfl, r, z⟩ := z
      (first | (replace z := VRs.invNil z; subst z) | cases z); (first | (replace r := VR.invInt r; obtain ⟨_, rfl⟩ := r) | (replace r := VR.invTop r; subst r) | cases r)
      exact call_range_2 (fin _ _ _ _)

-- list comprehensions over a name, no tests
theorem comp_core {x : Str} {px : Pos} {elt iter : Expr} {scope : Scope} {cl : List (Str × Addr)} {pos : Pos} {vs : List V} {I D C : Addr} {Held : List O → Prop} {At : Nat → List Addr → List O → Heap → Prop} {lsC : List (Str × V)} (k : Nat) (Inv : Nat → List O → Prop)
    (hxl : lsC.lookup x = none) (W : Src G A (compEnvC scope cl C env) vs I Held At) (hx : scope.names.lookup x = some .local) (hkind : scope.kind = .function)
    {ρ₀ : List Addr} {h₀ : Heap} {m cm : Str → Option Value} {R : Result → Shared → Prop}
    (X : St G (compEnvC scope cl C env) lsC S ρ m cm s.heap) (E : Ext (· = C) ρ₀ h₀ ρ s.heap) (hn : h₀.get? I = none) (hI : I ∉ ρ) (h0 : G.h₀.get? I = none) (hX : ¬ FX (compEnvC scope cl C env) I)
    (hat : At 0 ρ S s.heap) (start : Inv 0 S) (held : ∀ i S', Inv i S' → Held S') (hD : ρ[k]? = some D) (lst : ∀ i S', Inv i S' → ∃ ys, S'[k]? = some (.list ys) ∧ ys.length ≤ i) (hlen : vs.length ≤ 100000)
    (turn : ∀ i S' v ys, Inv i S' → vs[i]? = some v → S'[k]? = some (.list ys) → AEval G A (compEnvC scope cl C env) elt (upd lsC x v) S' fun y S'' => S''[k]? = some (.list ys) ∧ Inv (i + 1) (S''.set k (.list (ys ++ [y]))))
    (done : ∀ S' ρ' m' h' tk', Inv vs.length S' → HS G ρ' S' h' → ρ'[k]? = some D → Ext (· = C) ρ₀ h₀ ρ' h' → C ∉ ρ' → h'.Ns C m' → R (.ok .next) { s with heap := h', toks := tk' }) :
    codeAny G.M A (.compLoop (.ListComp elt [⟨.Name x px, iter, [], 0⟩] scope pos) 0 (.ref I) (.ref D) (compEnvC scope cl C env)) R s := by
  refine codeAny_compLoop_tests
    (fun n s' => ∃ i S' ρ' m' h' tk', s' = { s with heap := h', toks := tk' } ∧ St G (compEnvC scope cl C env) lsC S' ρ' m' cm h' ∧ Ext (· = C) ρ₀ h₀ ρ' h' ∧ Inv i S' ∧ i ≤ vs.length ∧ n = vs.length + 1 - i ∧ I ∉ ρ' ∧ ρ'[k]? = some D ∧ At i ρ' S' h') ?_ (vs.length + 1)
    ⟨0, S, ρ, m, s.heap, s.toks, rfl, X, E, start, Nat.zero_le _, rfl, hI, hD, hat⟩
  rintro n s' ⟨i, S', ρ', m', h', tk', rfl, X', e', hi, hle, rfl, hIρ, hD', hat'⟩
  have nt := W.notTup i ρ' S' h' hat'
  have xloc : (compEnvC scope cl C env).kindOf x = some .local := lookup_relabel_local hx
  by_cases hlt : i < vs.length
  · have hv : vs[i]? = some vs[i] := List.getElem?_eq_getElem hlt
    refine up (W.item i _ ρ' S' _ _ hv hat' X'.H hIρ h0 fun xv h₁ tk₁ r₁ hat₁ eb hlv => ?_)
    have X₁ := X'.touch eb nt hIρ h0 hX
    have E₁ := e'.touch eb hn
    refine wpAny_assign_Name (wpAny_storeName_local xloc X₁.F.ns (fun h₂ hn₂ hs₂ => ?_) (by show (scope.kind == _ || (scope.kind == _ && _)) = false; rw [hkind]; rfl))
    have hb := hs₂.extBut
    have ntC := X₁.F.notTup C (h := h₁)
    have ntC' : ∀ items, ¬ IsTup h₁ C items := fun items => X₁.F.notTup C items (.inl rfl)
    have upv : ∀ {v y}, VR ρ' h₁ v y → VR ρ' h₂ v y := fun r => r.mono (fun _ _ e => e) (tup_touch hb ntC')
    have X₂ : St G (compEnvC scope cl C env) (upd lsC x vs[i]) S' ρ' (fun y => if y = x then some xv else m' y) cm h₂ := by
      refine ⟨X₁.H.touch hb ntC' X₁.F.off X₁.F.above, ⟨hn₂, X₁.F.above, X₁.F.off, fun y c hc => ?_, X₁.F.inj⟩, fun y u e => ?_⟩
      · obtain ⟨⟨o', ho', d'⟩, r'⟩ := X₁.F.cells y c hc
        exact ⟨⟨o', (hs₂.2 c r'.2.1).trans ho', d'⟩, r'⟩
      · rw [lookup_upd] at e
        by_cases q : y = x
        · subst q
          rw [if_pos rfl] at e
          cases e
          exact ⟨xv, upv r₁, .inl ⟨xloc, by simp⟩⟩
        · rw [if_neg q] at e
          obtain ⟨val', r', k'⟩ := X₁.L y u e
          exact ⟨val', upv r', k'.imp (fun ⟨a, b⟩ => ⟨a, by simpa [q] using b⟩) id⟩
    have E₂ : Ext (· = C) ρ' h₁ ρ' h₂ := ⟨⟨[], by simp, by simp⟩, fun b o e n kk => hb b o kk e, fun b o e => by
      by_cases q : b = C
      · subst q; obtain ⟨o', _, _, ho', _⟩ := hn₂; exact ⟨o', ho'⟩
      · exact ⟨o, hb b o q e⟩⟩
    have hat₂ := W.keep _ _ _ _ _ _ _ hat₁ X₁.H X₂.H (E₂.weak fun _ q => .inl q) X₁.F.notTup hIρ hX (held _ _ hi)
    refine wpAny_pure (a := true) ?_
    rw [if_pos rfl]
    obtain ⟨ys, hys, hysl⟩ := lst _ _ hi
    refine up (turn i S' _ ys hi hv hys ρ' _ cm _ _ X₂ fun y S₃ yv ρ₃ h₃ t₃ p₃ r₃ H₃ e₃ => ?_)
    obtain ⟨hys₃, hi₃⟩ := p₃
    have hD₃ := e₃.idx _ _ hD'
    obtain ⟨items, il, vr⟩ := H₃.objs k D _ hD₃ hys₃
    have hsz : ys.length = items.size := by simpa using vr.length
    refine wpAny_list_append_plain il (fun h₄ pl hs₄ => ?_) (by rw [sizeLine_eq]; omega)
    have nt₄ := H₃.notTup (List.mem_of_getElem? hD₃)
    have up₄ : ∀ {vs xs}, VRs ρ₃ h₃ vs xs → VRs ρ₃ h₄ vs xs := fun r => r.mono (fun _ _ e => e) (tup_touch hs₄.extBut nt₄)
    obtain ⟨H₄, e₄⟩ := H₃.set (o := .list (ys ++ [y])) hD₃ hs₄ ⟨_, pl, by simpa using up₄ (vr.snoc r₃)⟩
    have X₄ := X₂.next H₄ (e₃.trans e₄)
    have E₄ : Ext (· = C) ρ₀ h₀ ρ₃ h₄ := (E₁.trans E₂).trans ((e₃.trans e₄).weak fun _ => False.elim)
    have hI₄ : I ∉ ρ₃ := fun hm => by
      obtain ⟨z, rfl, hz⟩ := e₃.pre
      rcases List.mem_append.mp hm with hm | hm
      · exact hIρ hm
      · obtain ⟨o, ho⟩ := W.live _ _ _ _ hat₂
        have := hz I hm
        rw [show h₂.get? I = some o from ho] at this; cases this
    exact ⟨vs.length + 1 - (i + 1), by omega, i + 1, _, ρ₃, _, h₄, t₃, rfl, ⟨X₄.H, X₄.F, fun y u e => by
      by_cases q : y = x
      · subst q; rw [hxl] at e; cases e
      · exact X₄.L y u (by rw [lookup_upd, if_neg q]; exact e)⟩, E₄, hi₃, hlt, rfl, hI₄, hD₃, W.keep _ _ _ _ _ _ _ hat₂ X₂.H H₄ ((e₃.trans e₄).weak fun _ => False.elim) X₂.F.notTup hIρ hX (held _ _ hi₃)⟩
  · have hin : i = vs.length := by omega
    subst hin
    refine up (W.done ρ' S' _ _ hat' X'.H fun h₁ tk₁ eb => ?_)
    have X₁ := X'.touch eb nt hIρ h0 hX
    exact done S' ρ' m' h₁ tk₁ hi X₁.H hD' (e'.touch eb hn) X₁.F.off X₁.F.ns

-- the names of a comprehension's own frame: cells of the frame around
noncomputable def CompL (env : Env) (scope : Scope) (cl : List (Str × Addr)) (ls : List (Str × V)) : List (Str × V) → Prop
  | [] => True
  | (y, v) :: r => (ls.lookup y = some v ∧ env.kindOf y = some .cell ∧ (relabel scope env).names.lookup y = some .cell ∧ (cl.lookup y).isSome = true) ∧ CompL env scope cl ls r
theorem CompL.get {scope : Scope} {cl : List (Str × Addr)} {ls : List (Str × V)} : ∀ {lsC : List (Str × V)}, CompL env scope cl ls lsC → ∀ {y v}, lsC.lookup y = some v → ls.lookup y = some v ∧ env.kindOf y = some .cell ∧ (relabel scope env).names.lookup y = some .cell ∧ (cl.lookup y).isSome = true
  | [], _, _, _, e => by simp at e
  | (z, u) :: r, ⟨h, k⟩, y, v, e => by
    by_cases q : y = z
    · subst q; simp at e; subst e; exact h
    · simp only [List.lookup, beq_eq_false_iff_ne.mpr q] at e
      exact CompL.get k e

theorem comp_all {x : Str} {px : Pos} {elt iter : Expr} {scope : Scope} {cl : List (Str × Addr)} {pos pos' : Pos} {lsC : List (Str × V)} {use : Option (Value → Sem Unit)} {Q : Value → Shared → Prop} {ρ m cm} (ok : EnvOk env)
    (hclos : closureFor scope env = pure cl) (hcl : ∀ y c, cl.lookup y = some c → env.cells.lookup y = some c ∧ env.kindOf y = some .cell ∧ (relabel scope env).names.lookup y = some .cell) (hcell : ∀ y ∈ scope.names, y.2 ≠ .cell) (hkind : scope.kind = .function)
    (hnames : ∀ y ∈ scope.names, y.2 = .local → scope.names.lookup y.1 = some .local) (hx : scope.names.lookup x = some .local) (hC : CompL env scope cl ls lsC) (hxl : lsC.lookup x = none)
    {P : Nat → List O → Prop}
    (h : AIter G A env iter ls S fun vs Held S₁ => ∃ Inv : Nat → List O → Prop, Inv 0 (S₁ ++ [.list []]) ∧ (∀ i S', Inv i S' → Held S') ∧ (∀ i S', Inv i S' → ∃ ys, S'[S₁.length]? = some (.list ys) ∧ ys.length ≤ i) ∧ vs.length ≤ 100000 ∧
      (∀ C i S' v ys, Inv i S' → vs[i]? = some v → S'[S₁.length]? = some (.list ys) → AEval G A (compEnvC scope cl C env) elt (upd lsC x v) S' fun y S'' => S''[S₁.length]? = some (.list ys) ∧ Inv (i + 1) (S''.set S₁.length (.list (ys ++ [y])))) ∧
      (∀ S', Inv vs.length S' → P S₁.length S'))
    (X : St G env ls S ρ m cm s.heap) (hs : ∀ x, foldedSetIterable iter env x = pure x)
    (fin : ∀ k S' ρ' D C m' h' tk', P k S' → ρ'[k]? = some D → HS G ρ' S' h' → s.heap.get? C = none → C ∉ ρ' → G.h₀.get? C = none → Ext (· = C) ρ s.heap ρ' h' → h'.Ns C m' → compPost G.M A noE use Q (.ref D) C (.ok .next) { s with heap := h', toks := tk' }) :
    wpAny G.M A (comprehension (.ListComp elt [⟨.Name x px, iter, [], 0⟩] scope pos) scope env pos' (newList []) false (eval iter env) use) Q noE s := by
  refine wpAny_comprehension_free (cl := cl) rfl hs hclos hkind hnames ?_
  refine h ρ m cm s _ X fun vs I Held At S₁ ρ₁ h₁ t₁ p₁ W hat H₁ e₁ hnI hI h0I hXI => ?_
  obtain ⟨Inv, start, held, lst, hlen, turn, done⟩ := p₁
  have X₁ := X.next H₁ e₁
  have lI : ∃ o, h₁.get? I = some o := (W.src env).live 0 ρ₁ S₁ h₁ hat
  refine wpAny_newObj_type ?_
  obtain ⟨H₂, e₂, r₂⟩ := alloc_list (items := #[]) H₁ (vs := []) (by exact .nil)
  have X₂ := X₁.next H₂ e₂
  refine wpAny_newFunctionEnv hcell (by intro y hy; simp at hy) (fun h₃ hns hsb => ?_) hkind
  show codeAny G.M A (.compStart _ 0 (.ref I) _ (compEnvC scope cl (h₁.push _).objs.size env)) _ _
  dsimp only at hns hsb ⊢
  have hD : (ρ₁ ++ [h₁.objs.size])[S₁.length]? = some h₁.objs.size := by rw [← H₁.len]; simp
  have e21 : ([] : List Value).toArray = (#[] : Array Value) := rfl
  rw [e21] at hns hsb ⊢
  generalize hH2 : h₁.push { cls := .type "list", dict := none, data := .seq (#[] : Array Value) } = H2 at hns hsb X₂ H₂ e₂ r₂ ⊢
  have grow2 : ∀ b o, H2.get? b = some o → h₃.get? b = some o := fun b o e => hsb.extBut b o (fun q => by rw [q, get_push_none] at e; cases e) (Heap.get?_push_of_some _ e)
  obtain ⟨H₃, e₃⟩ := grow H₂ grow2
  have X₃ := X₂.next H₃ e₃
  obtain ⟨fC1, fC2, fC3⟩ := X₂.fresh
  have e13 := e₂.trans e₃
  have hnC : s.heap.get? H2.objs.size = none := (e₁.trans e₂).noneOf
  have Xc : St G (compEnvC scope cl H2.objs.size env) lsC (S₁ ++ [.list []]) (ρ₁ ++ [h₁.objs.size]) (fun _ => none) cm h₃ := by
    refine ⟨H₃, ⟨by show h₃.Ns H2.objs.size (fun _ => none); simpa using hns, fC2, fC1, fun y c hc => ?_, fun y z c h1 h2 => X.F.inj y z c (hcl _ _ h1).1 (hcl _ _ h2).1⟩, fun y v e => ?_⟩
    · obtain ⟨q1, q2, q3, q4⟩ := X₃.F.cells y c (hcl y c hc).1
      refine ⟨q1, q2, fun q => ?_, fun _ => q4.1 (hcl y c hc).2.1, fun q => absurd (hcl y c hc).2.2 q⟩
      obtain ⟨⟨o', ho', _⟩, _⟩ := X₂.F.cells y c (hcl y c hc).1
      rw [show c = H2.objs.size from q, get_push_none] at ho'; cases ho'
    · obtain ⟨c1, c2, c3, c4⟩ := hC.get e
      obtain ⟨val, r, k⟩ := X₃.L y v c1
      refine ⟨val, r, .inr ?_⟩
      obtain ⟨cc, hcc⟩ := Option.isSome_iff_exists.mp c4
      rcases k with ⟨k1, _⟩ | ⟨c', k1, k2, k3⟩
      · rw [c2] at k1; cases k1
      · exact ⟨cc, .inl c3, hcc, k3⟩
  have hat₃ : At 0 (ρ₁ ++ [h₁.objs.size]) (S₁ ++ [.list []]) h₃ := (W.src env).keep 0 ρ₁ S₁ h₁ _ _ _ hat H₁ H₃ (e13.weak fun _ => False.elim) X₁.F.notTup hI hXI (held _ _ start)
  have loop : ∀ t, codeAny G.M A (.compLoop (.ListComp elt [⟨.Name x px, iter, [], 0⟩] scope pos) 0 (.ref I) (.ref h₁.objs.size) (compEnvC scope cl H2.objs.size env)) (compPost G.M A noE use Q (.ref h₁.objs.size) H2.objs.size) { s with heap := h₃, toks := t } := by
    intro t
    have hIfresh : I ∉ ρ₁ ++ [h₁.objs.size] := fun hm => by
      rcases List.mem_append.mp hm with hm | hm
      · exact hI hm
      · obtain ⟨o, ho⟩ := lI; rw [List.mem_singleton.mp hm, get_push_none] at ho; cases ho
    have lI2 : ∃ o, H2.get? I = some o := by obtain ⟨o, ho⟩ := lI; exact e₂.live _ _ ho
    have hIC : I ≠ H2.objs.size := fun q => by obtain ⟨o, ho⟩ := lI2; rw [q, get_push_none] at ho; cases ho
    refine comp_core (s := { s with heap := h₃, toks := t }) S₁.length Inv hxl (W.src _) hx hkind (ρ₀ := ρ) (h₀ := s.heap) Xc (((e₁.trans e₂).trans e₃).weak fun _ => False.elim) hnI hIfresh h0I ?_ ?_ start held hD lst hlen (turn _) ?_
    · rintro (q | ⟨y, _, q⟩)
      · exact hIC q
      · exact hXI (.inr ⟨y, (hcl y _ q).2.1, (hcl y _ q).1⟩)
    · exact hat₃
    · intro S' ρ' m' h' tk' hinv H' hD' e' hCρ hns'
      exact fin S₁.length S' ρ' h₁.objs.size H2.objs.size m' h' tk' (done S' hinv) hD' H' hnC hCρ fC2 e' hns'
  exact codeAny_compStart_list (loop _) (W.self 0 _ _ { s with heap := h₃, toks := _ } _ _ hat₃ (loop _))
end
end
-- AW14
section
open PySem.SeqAt
section
variable {G : Gx} {A : Around} {env : Env} {ls : List (Str × V)} {S : List O} {ρ : List Addr} {s : Shared}
theorem Ext.drop {C : Addr} {ρ h ρ' h'} (e : Ext (· = C) ρ h ρ' h') (hn : h.get? C = none) : Ext noX ρ h ρ' h' :=
  ⟨e.pre, fun b o k n _ => e.pres b o k n (fun q => by rw [q, hn] at k; cases k), e.live⟩
theorem ns_notTup {h : Heap} {C : Addr} {m : Str → Option Value} (n : h.Ns C m) (items : Array Value) : ¬ IsTup h C items := by
  rintro ⟨o, ho, hc, k, hd⟩
  obtain ⟨o', es, ep, ho', hd', _⟩ := n
  rw [ho] at ho'; cases ho'; rw [hd] at hd'; cases hd'

noncomputable def CompPost (G : Gx) (A : Around) (env : Env) (scope : Scope) (cl : List (Str × Addr)) (elt : Expr) (x : Str) (lsC : List (Str × V)) (P : Nat → List O → Prop) (vs : List V) (Held : List O → Prop) (S₁ : List O) : Prop :=
  ∃ Inv : Nat → List O → Prop, Inv 0 (S₁ ++ [.list []]) ∧ (∀ i S', Inv i S' → Held S') ∧ (∀ i S', Inv i S' → ∃ ys, S'[S₁.length]? = some (.list ys) ∧ ys.length ≤ i) ∧ vs.length ≤ 100000 ∧
      (∀ C i S' v ys, Inv i S' → vs[i]? = some v → S'[S₁.length]? = some (.list ys) → AEval G A (compEnvC scope cl C env) elt (upd lsC x v) S' fun y S'' => S''[S₁.length]? = some (.list ys) ∧ Inv (i + 1) (S''.set S₁.length (.list (ys ++ [y])))) ∧
      (∀ S', Inv vs.length S' → P S₁.length S')

-- [elt for x in iter]
theorem aComp {x : Str} {px : Pos} {elt iter : Expr} {scope : Scope} (cl : List (Str × Addr)) {pos : Pos} (lsC : List (Str × V)) {P : V → List O → Prop} (ok : EnvOk env)
    (hclos : closureFor scope env = pure cl) (hcl : ∀ y c, cl.lookup y = some c → env.cells.lookup y = some c ∧ env.kindOf y = some .cell ∧ (relabel scope env).names.lookup y = some .cell) (hcell : ∀ y ∈ scope.names, y.2 ≠ .cell) (hkind : scope.kind = .function)
    (hnames : ∀ y ∈ scope.names, y.2 = .local → scope.names.lookup y.1 = some .local) (hx : scope.names.lookup x = some .local) (hC : CompL env scope cl ls lsC) (hxl : lsC.lookup x = none)
    (h : AIter G A env iter ls S (CompPost G A env scope cl elt x lsC fun k S' => P (.ref k) S')) (hs : ∀ x, foldedSetIterable iter env x = pure x := by intro _; rfl) :
    AEval G A env (.ListComp elt [⟨.Name x px, iter, [], 0⟩] scope pos) ls S P := by
  intro ρ m cm s Q X c
  rw [eval_ListComp]
  refine comp_all (use := none) (P := fun k S' => P (.ref k) S') ok hclos hcl hcell hkind hnames hx hC hxl h X hs fun k S' ρ' D C m' h' tk' p hD H' hC1 hC2 hC3 e' hns => ?_
  refine ⟨m', hns, fun h'' hsb => ?_⟩
  exact c (.ref k) S' (.ref D) ρ' h'' tk' p (.ref hD) (H'.touch hsb.extBut (ns_notTup hns) hC2 hC3) ((e'.drop hC1).touch hsb.extBut hC1)

-- y = [elt for x in iter] on one row
theorem s_assignComp {x y : Str} {px py : Pos} {elt iter : Expr} {scope : Scope} (cl : List (Str × Addr)) {pos spos : Pos} (lsC : List (Str × V)) {P : AFlow → List (Str × V) → List O → Prop} (ok : EnvOk env)
    (hsw : swapsWith (.ListComp elt [⟨.Name x px, iter, [], 0⟩] scope pos) (some (.Name y py)) spos.line env = pure true) (hy : Stored env y)
    (hclos : closureFor scope env = pure cl) (hcl : ∀ y c, cl.lookup y = some c → env.cells.lookup y = some c ∧ env.kindOf y = some .cell ∧ (relabel scope env).names.lookup y = some .cell) (hcell : ∀ y ∈ scope.names, y.2 ≠ .cell) (hkind : scope.kind = .function)
    (hnames : ∀ y ∈ scope.names, y.2 = .local → scope.names.lookup y.1 = some .local) (hx : scope.names.lookup x = some .local) (hC : CompL env scope cl ls lsC) (hxl : lsC.lookup x = none)
    (h : AIter G A env iter ls S (CompPost G A env scope cl elt x lsC fun k S' => P .next (upd ls y (.ref k)) S')) (hs : ∀ x, foldedSetIterable iter env x = pure x := by intro _; rfl) :
    AExec G A env (.Assign [.Name y py] (.ListComp elt [⟨.Name x px, iter, [], 0⟩] scope pos) spos) ls S P := by
  intro ρ m cm s Q X c
  rw [exec_Assign_Name_used _ _ _ _ hsw]
  refine wpAny_bind (wpAny_standAt (wpAny_bind ?_))
  show wpAny _ A (do let _ ← comprehension (.ListComp elt [⟨.Name x px, iter, [], 0⟩] scope pos) scope env _ (newList []) false (eval iter env) (some (assign (.Name y py) env))) _ _ s
  refine wpAny_bind (monoN (comp_all (use := some (assign (.Name y py) env)) (Q := fun _ s' => Q .next s') (P := fun k S' => P .next (upd ls y (.ref k)) S') ok hclos hcl hcell hkind hnames hx hC hxl h X hs
    fun k S' ρ' D C m' h' tk' p hD H' hC1 hC2 hC3 e' hns => ?_) fun _ s' hq => wpAny_pure (wpAny_pure hq))
  have e₁ := e'.drop hC1
  have X₁ := X.next H' e₁
  have hXC : ¬ FX env C := by
    rintro (q | ⟨z, _, q⟩)
    · obtain ⟨o, _, _, ho, _⟩ := X.F.ns; rw [← q, hC1] at ho; cases ho
    · obtain ⟨⟨o, ho, _⟩, _⟩ := X.F.cells z _ q; rw [hC1] at ho; cases ho
  show wpAny _ A (assign (.Name y py) env (.ref D)) _ _ _
  refine wpAny_assign_Name (store_ ok hy (s := { s with heap := h', toks := tk' }) X₁ (v := .ref k) (.ref hD) fun m₂ cm₂ h₂ t₂ X₂ e₂ => ?_)
  have hns₂ : h₂.Ns C m' := by
    obtain ⟨o, es, ep, ho, r⟩ := hns
    exact ⟨o, es, ep, e₂.pres C o ho hC2 hXC, r⟩
  refine ⟨m', hns₂, fun h₃ hsb => ?_⟩
  have X₃ := X₂.touch hsb.extBut (ns_notTup hns₂) hC2 hC3 hXC
  exact c .next _ S' .next ρ' m₂ cm₂ h₃ t₂ p .next X₃ (((e₁.weak fun _ => False.elim).trans e₂).touch hsb.extBut hC1)
end
end
-- AW15
section
open PySem.SeqAt
-- a def of the top with cells of its own
theorem aDefEnd {Fin : Addr → AFlow → List (Str × V) → List O → Prop} {G : Gx} {A : Around} {f : Addr} {args : List V} {S : List O} {P : V → List O → Prop} {ps : List Str} {name qual : Str} {params : Arguments} {body : List Stmt} {scope : Scope} {dV kV doc pm cdv ct oc : Value} {an od : Option Addr}
    {osl : Array (Option Value)} (ho : G.K.lookup f = some ⟨oc, od, .func (fnOf name qual params body scope dV kV doc pm an cdv ct), osl⟩) (hcd : codeIn G.K cdv qual = true) (hroom : A.depth < recursionLimit) (hlen : ps.length = args.length)
    (hbind : ∀ (vals : List Value), vals.length = ps.length → bindArgs (fnOf name qual params body scope dV kV doc pm an cdv ct) ⟨vals, []⟩ = pure (ps.zip vals))
    (hkind : ∀ n, ∀ x ∈ ps, scope.names.lookup x = some .local ∨ (scope.names.lookup x = some .cell ∧ ((cellsFrom n scope.names []).lookup x).isSome = true)) (hnd : ps.Nodup)
    (hcells : ∀ n x c, (cellsFrom n scope.names []).lookup x = some c → scope.names.lookup x = some .cell)
    (hco : scope.isCoroutine = false) (hgen : scope.isGenerator = false) (hk : scope.kind = .function)
    (hb : ∀ L, AExecs G (A.deeper (envX qual scope L f cdv (cellsFrom (L + 1) scope.names []))) (envX qual scope L f cdv (cellsFrom (L + 1) scope.names [])) body (ps.zip args) S (Fin L))
    (hend : ∀ L fl ls' S' ρ' m' cm' h', Fin L fl ls' S' → St G (envX qual scope L f cdv (cellsFrom (L + 1) scope.names [])) ls' S' ρ' m' cm' h' → ∃ x S'', HS G (ρ' ++ x) S'' h' ∧ (∀ a ∈ x, L < a) ∧ P (match fl with | .ret v => v | _ => .none) S'') : AApp G A (.top (.ref f)) args S P := by
  intro ρ s vals Q H hv c
  replace hv := VRs.invCons hv; obtain ⟨fval, xs, rfl, rf, rs⟩ := hv
  (first | (replace rf := VR.invInt rf; obtain ⟨_, rfl⟩ := rf) | (replace rf := VR.invTop rf; subst rf) | cases rf)
  have hxs : xs.length = ps.length := by rw [← rs.length, hlen]
  show wpAny G.M A (call (.ref f) xs) Q noE s
  refine wpAny_call (codeAny_call_function hroom (H.base _ _ (G.X _ _ ho)) rfl hco hgen rfl (codeRec_of (fun a o e => H.base a o (G.X a o e)) hcd) ?_)
  refine BindsTo.of_eq (hbind xs hxs) _ _ _ _ ?_
  refine wpAny_newFunctionEnv_cells hk (fun x hx => hkind _ x.1 (List.of_mem_zip hx).1) fun env' he s' x => ?_
  subst he
  refine ⟨(G.T.nolimit.keeps H.base).keeps x.toInCall.keep, codeAny_func ?_⟩
  obtain ⟨h₁, tk, rfl, _⟩ := x.done
  have hk₁ := x.toInCall.keep
  obtain ⟨H₁, e₁⟩ := grow H hk₁
  obtain ⟨hLρ, hL0⟩ := H.fresh
  have rs₁ : VRs ρ h₁ args xs := vrs_grow hk₁ rs
  generalize hL : s.heap.objs.size = L at *
  have hn0 : ∀ b, L ≤ b → s.heap.get? b = none := fun b hb => by
    cases q : s.heap.get? b with
    | none => rfl
    | some o => exact absurd (hL ▸ Heap.lt_size q) (Nat.not_lt.mpr hb)
  have hn0' : ∀ b, L ≤ b → G.h₀.get? b = none := fun b hb => by
    cases q : G.h₀.get? b with
    | none => rfl
    | some o => have := H.base b o q; rw [hn0 b hb] at this; cases this
  have hnρ : ∀ b, L ≤ b → b ∉ ρ := fun b hb hm => by obtain ⟨o, ho⟩ := H.live hm; rw [hn0 b hb] at ho; cases ho
  have above : ∀ y c, (cellsFrom (L + 1) scope.names []).lookup y = some c → L < c := fun y c e => x.above y c (mem_of_lookup e)
  have hnsL := x.toInCall.ns
  have kO : (envX qual scope L f cdv (cellsFrom (L + 1) scope.names [])).kindOf = fun y => scope.names.lookup y := rfl
  have X₁ : St G (envX qual scope L f cdv (cellsFrom (L + 1) scope.names [])) (ps.zip args) S ρ (bindL (fun y => scope.names.lookup y) (ps.zip xs) fun _ => none) (bindC (fun y => scope.names.lookup y) (ps.zip xs) fun _ => none) h₁ := by
    refine ⟨H₁, ⟨hnsL, hL0, hLρ, fun y c e => ?_, fun y z c e e' => ?_⟩, fun y v e => ?_⟩
    · have hlt := above y c e
      exact ⟨x.cell y c e, hnρ c (by omega), Nat.ne_of_gt hlt, fun _ => hn0' c (by omega), fun q => absurd (hcells _ y c e) q⟩
    · have m1 := mem_of_lookup e
      have m2 := mem_of_lookup e'
      obtain ⟨i, hi, e1⟩ := List.getElem_of_mem m1
      obtain ⟨j, hj, e2⟩ := List.getElem_of_mem m2
      have ap : (cellsFrom (L + 1) scope.names []).Pairwise fun x y => x.2 ≠ y.2 := x.apart
      have pw := List.pairwise_iff_getElem.mp ap
      rcases Nat.lt_trichotomy i j with q | q | q
      · exact absurd (by rw [e1, e2]) (pw i j hi hj q)
      · subst q; rw [e1] at e2; cases e2; rfl
      · exact absurd (by rw [e1, e2]) (pw j i hj hi q)
    · obtain ⟨val, e', r⟩ := lookup_zip_vr ps rs₁ e
      refine ⟨val, r, ?_⟩
      have hm := mem_of_lookup_zip ps _ e'
      have key : ∀ (l : List (Str × Value)) (m0 c0 : Str → Option Value), (l.map (·.1)).Nodup → (∀ p ∈ l, scope.names.lookup p.1 = some .local ∨ scope.names.lookup p.1 = some .cell) → ∀ u, (l.lookup y = some u → 
          (scope.names.lookup y = some .local → bindL (fun y => scope.names.lookup y) l m0 y = some u) ∧ (scope.names.lookup y = some .cell → bindC (fun y => scope.names.lookup y) l c0 y = some u)) ∧
          (l.lookup y = none → bindL (fun y => scope.names.lookup y) l m0 y = m0 y ∧ bindC (fun y => scope.names.lookup y) l c0 y = c0 y) := by
        intro l
        induction l with
        | nil => intro m0 c0 _ _ u; exact ⟨fun h => by simp at h, fun _ => ⟨rfl, rfl⟩⟩
        | cons p r ih =>
          intro m0 c0 nd hk' u
          obtain ⟨n, w⟩ := p
          rw [List.map_cons, List.nodup_cons] at nd
          have ihr := ih (if scope.names.lookup n = some .local then fun y => if y = n then some w else m0 y else m0) (if scope.names.lookup n = some .local then c0 else fun y => if y = n then some w else c0 y) nd.2 (fun p hp => hk' p (.tail _ hp)) u
          simp only [List.lookup, bindL, bindC]
          by_cases q : y = n
          · subst q
            have hr : r.lookup y = none := by
              cases z : r.lookup y with
              | none => rfl
              | some u => exact absurd (List.mem_map_of_mem (f := (·.1)) (mem_of_lookup z)) nd.1
            obtain ⟨i1, i2⟩ := ihr.2 hr
            simp only [beq_self_eq_true]
            refine ⟨fun h => ?_, fun h => by cases h⟩
            cases h
            rw [i1, i2]
            refine ⟨fun h => by simp [h], fun h => ?_⟩
            have : ¬ (scope.names.lookup y = some .local) := by rw [h]; intro h; cases h
            simp [this]
          · rw [beq_eq_false_iff_ne.mpr q]
            refine ⟨ihr.1, fun h => ?_⟩
            obtain ⟨i1, i2⟩ := ihr.2 h
            rw [i1, i2]
            constructor <;> split <;> simp [q]
      have ndz : ((ps.zip xs).map (·.1)).Nodup := by rw [List.map_fst_zip (by omega)]; exact hnd
      have hkz : ∀ p ∈ ps.zip xs, scope.names.lookup p.1 = some .local ∨ scope.names.lookup p.1 = some .cell := fun p hp => (hkind 0 p.1 (List.of_mem_zip hp).1).imp id (·.1)
      obtain ⟨k1, k2⟩ := (key (ps.zip xs) (fun _ => none) (fun _ => none) ndz hkz val).1 e'
      rcases hkind (L + 1) y hm with q | ⟨q, q'⟩
      · exact .inl ⟨q, k1 q⟩
      · obtain ⟨cc, hcc⟩ := Option.isSome_iff_exists.mp q'
        exact .inr ⟨cc, .inl q, hcc, k2 q⟩
  refine up (hb L ρ _ _ _ _ X₁ fun fl ls' S' fv ρ' m' cm' h' tk' p r X' e => ?_)
  have e₀ : Ext noX ρ s.heap ρ' h' := by
    refine ⟨?_, fun b o k n _ => ?_, fun b o k => e.live b o (hk₁ b o k)⟩
    · obtain ⟨y, hy, hf⟩ := e.pre
      refine ⟨y, hy, fun b hb => ?_⟩
      cases q : s.heap.get? b with
      | none => rfl
      | some o => have := hf b hb; dsimp only at this; rw [hk₁ b o q] at this; cases this
    · refine e.pres b o (hk₁ b o k) n fun q => ?_
      rcases q with q | ⟨y, _, q⟩
      · rw [show b = L from q, hn0 L (Nat.le_refl _)] at k; cases k
      · rw [hn0 b (by have := above y b q; omega)] at k; cases k
  obtain ⟨z, S2, H2, hz, hp⟩ := hend L fl ls' S' ρ' m' cm' h' p X'
  have e2 : Ext noX ρ s.heap (ρ' ++ z) h' := by
    refine ⟨?_, fun b o k n _ => e₀.pres b o k n id, e₀.live⟩
    obtain ⟨y, rfl, hf⟩ := e₀.pre
    refine ⟨y ++ z, by simp, fun b hb => ?_⟩
    rcases List.mem_append.mp hb with hb | hb
    · exact hf b hb
    · exact hn0 b (Nat.le_of_lt (hz b hb))
  have idx : ∀ (n a : Nat), ρ'[n]? = some a → (ρ' ++ z)[n]? = some a := fun n a e => by rw [List.getElem?_append_left (List.getElem?_eq_some_iff.mp e).1]; exact e
  cases r with
  | ret r => exact c _ S2 _ _ h' tk' hp (r.mono idx fun _ _ t => t) H2 e2
  | next => exact c _ S2 _ _ h' tk' hp .none H2 e2
  | brk => exact c _ S2 _ _ h' tk' hp .none H2 e2
  | cont => exact c _ S2 _ _ h' tk' hp .none H2 e2
-- a def of the top with cells of its own
theorem aDefC {G : Gx} {A : Around} {f : Addr} {args : List V} {S : List O} {P : V → List O → Prop} {ps : List Str} {name qual : Str} {params : Arguments} {body : List Stmt} {scope : Scope} {dV kV doc pm cdv ct oc : Value} {an od : Option Addr}
    {osl : Array (Option Value)} (ho : G.K.lookup f = some ⟨oc, od, .func (fnOf name qual params body scope dV kV doc pm an cdv ct), osl⟩) (hcd : codeIn G.K cdv qual = true) (hroom : A.depth < recursionLimit) (hlen : ps.length = args.length)
    (hbind : ∀ (vals : List Value), vals.length = ps.length → bindArgs (fnOf name qual params body scope dV kV doc pm an cdv ct) ⟨vals, []⟩ = pure (ps.zip vals))
    (hkind : ∀ n, ∀ x ∈ ps, scope.names.lookup x = some .local ∨ (scope.names.lookup x = some .cell ∧ ((cellsFrom n scope.names []).lookup x).isSome = true)) (hnd : ps.Nodup)
    (hcells : ∀ n x c, (cellsFrom n scope.names []).lookup x = some c → scope.names.lookup x = some .cell)
    (hco : scope.isCoroutine = false) (hgen : scope.isGenerator = false) (hk : scope.kind = .function)
    (hb : ∀ L, AExecs G (A.deeper (envX qual scope L f cdv (cellsFrom (L + 1) scope.names []))) (envX qual scope L f cdv (cellsFrom (L + 1) scope.names [])) body (ps.zip args) S (retPost P)) : AApp G A (.top (.ref f)) args S P :=
  aDefEnd (Fin := fun _ => retPost P) ho hcd hroom hlen hbind hkind hnd hcells hco hgen hk hb fun L fl ls' S' ρ' m' cm' h' p X => ⟨[], S', by rw [List.append_nil]; exact X.H, (fun a ha => absurd ha List.not_mem_nil), p⟩
end
-- AW16
section
open PySem.SeqAt
section
variable {G : Gx} {A : Around} {env : Env} {ls : List (Str × V)} {S : List O} {ρ : List Addr} {s : Shared}

theorem vrs_ints {h : Heap} : ∀ {ns : List Int} {items : List Value}, VRs ρ h (ns.map V.int) items → ∃ xs : List (Int × Tok), items = xs.map (fun p => Value.int p.1 p.2) ∧ xs.map (·.1) = ns
  | [], _, .nil => ⟨[], rfl, rfl⟩
  | n :: ns, _, .cons r z => by
    obtain ⟨xs, rfl, e⟩ := vrs_ints z
    cases r with
    | @int _ t => exact ⟨(n, t) :: xs, rfl, by simp [e]⟩
theorem list_ints {n : Nat} {ns : List Int} {l : Addr} (H : HS G ρ S s.heap) (hl : ρ[n]? = some l) (hS : S[n]? = some (.list (ns.map V.int))) : ∃ xs : Array (Int × Tok), s.heap.IsList l (intItems xs) ∧ xs.toList.map (·.1) = ns := by
  obtain ⟨items, il, vr⟩ := H.objs n l _ hl hS
  obtain ⟨xs, e, en⟩ := vrs_ints vr
  refine ⟨xs.toArray, ?_, by simpa using en⟩
  have : items = intItems xs.toArray := by
    obtain ⟨L⟩ := items
    simp only [intItems] at e ⊢
    simp [e]
  rw [← this]
  exact il.isList

theorem f_max {n : Nat} {ns : List Int} {P : V → List O → Prop} (hh : A.handled = none) (hS : S[n]? = some (.list (ns.map V.int))) (hne : ns ≠ []) (h : ∀ M, M ∈ ns → (∀ a ∈ ns, a ≤ M) → P (.int M) S) : AApp G A (.top (.builtin "max")) [.ref n] S P := by
  intro ρ s vals Q H hvs c
  replace hvs := VRs.invCons hvs; obtain ⟨_, _, rfl, r, z⟩ := hvs
  (first | (replace r := VR.invInt r; obtain ⟨_, rfl⟩ := r) | (replace r := VR.invTop r; subst r) | cases r)
  replace z := VRs.invCons z; obtain ⟨_, _, rfl, r, z⟩ := z
  (first | (replace z := VRs.invNil z; subst z) | cases z)
  replace r := VR.invRef r; obtain ⟨l, rfl, hl⟩ := r
  obtain ⟨xs, il, rfl⟩ := list_ints H hl hS
  have hsz : 0 < xs.size := by
    rcases Nat.eq_zero_or_pos xs.size with q | q
    · exact absurd (by simp [Array.eq_empty_of_size_eq_zero q]) hne
    · exact q
  refine max_intList hh il hsz fun v h' tk hv k => ?_
  obtain ⟨b1, b2⟩ := argBest_gt (numAt xs) (xs.size - 1)
  generalize argBest (fun i j => decide (numAt xs i > numAt xs j)) (xs.size - 1) = j at *
  obtain ⟨t, rfl⟩ := intItems_at hv
  have num : ∀ i, i < xs.size → numAt xs i ∈ xs.toList.map (·.1) := fun i hi => by
    have : numAt xs i = xs[i].1 := by simp [numAt, hi]
    rw [this]
    exact List.mem_map_of_mem (by simp)
  obtain ⟨H', e'⟩ := grow H k
  refine c _ S _ ρ h' tk (h (numAt xs j) (num j (by omega)) fun a ha => ?_) .int H' e'
  obtain ⟨p, hp, rfl⟩ := List.mem_map.mp ha
  obtain ⟨i, hi, e⟩ := List.getElem_of_mem hp
  have hi' : i < xs.size := by simpa using hi
  have : numAt xs i = p.1 := by simp [numAt, hi', ← e]
  rw [← this]
  exact b2 i (by omega)
theorem f_sum {n : Nat} {ns : List Int} {P : V → List O → Prop} (hh : A.handled = none) (hS : S[n]? = some (.list (ns.map V.int))) (h : P (.int ns.sum) S) : AApp G A (.top (.builtin "sum")) [.ref n] S P := by
  intro ρ s vals Q H hvs c
  replace hvs := VRs.invCons hvs; obtain ⟨_, _, rfl, r, z⟩ := hvs
  (first | (replace r := VR.invInt r; obtain ⟨_, rfl⟩ := r) | (replace r := VR.invTop r; subst r) | cases r)
  replace z := VRs.invCons z; obtain ⟨_, _, rfl, r, z⟩ := z
  (first | (replace z := VRs.invNil z; subst z) | cases z)
  replace r := VR.invRef r; obtain ⟨l, rfl, hl⟩ := r
  obtain ⟨xs, il, rfl⟩ := list_ints H hl hS
  refine sum_intListG hh il fun h' tk t' k => ?_
  obtain ⟨H', e'⟩ := grow H k
  rw [preSum_eq, List.take_of_length_le (by simp)]
  exact c _ S _ ρ h' tk h .int H' e'
theorem f_max2 {a b : Int} {P : V → List O → Prop} (hh : A.handled = none) (h : P (.int (max a b)) S) : AApp G A (.top (.builtin "max")) [.int a, .int b] S P := by
  intro ρ s vals Q H hvs c
  replace hvs := VRs.invCons hvs; obtain ⟨_, _, rfl, r, z⟩ := hvs
  (first | (replace r := VR.invInt r; obtain ⟨_, rfl⟩ := r) | (replace r := VR.invTop r; subst r) | cases r)
  replace z := VRs.invCons z; obtain ⟨_, _, rfl, r, z⟩ := z
  (first | (replace r := VR.invInt r; obtain ⟨_, rfl⟩ := r) | (replace r := VR.invTop r; subst r) | cases r)
  replace z := VRs.invCons z; obtain ⟨_, _, rfl, r, z⟩ := z
  (first | (replace r := VR.invInt r; obtain ⟨_, rfl⟩ := r) | (replace r := VR.invTop r; subst r) | cases r); (first | (replace z := VRs.invNil z; subst z) | cases z)
  refine max_two_ints hh fun h' tk k => ?_
  obtain ⟨H', e'⟩ := grow H k
  refine c _ S _ ρ h' tk h ?_ H' e'
  split
  · rw [show max a b = b by omega]; exact .int
  · rw [show max a b = a by omega]; exact .int
theorem f_min2 {a b : Int} {P : V → List O → Prop} (hh : A.handled = none) (h : P (.int (min a b)) S) : AApp G A (.top (.builtin "min")) [.int a, .int b] S P := by
  intro ρ s vals Q H hvs c
  replace hvs := VRs.invCons hvs; obtain ⟨_, _, rfl, r, z⟩ := hvs
  (first | (replace r := VR.invInt r; obtain ⟨_, rfl⟩ := r) | (replace r := VR.invTop r; subst r) | cases r)
  replace z := VRs.invCons z; obtain ⟨_, _, rfl, r, z⟩ := z
  (first | (replace r := VR.invInt r; obtain ⟨_, rfl⟩ := r) | (replace r := VR.invTop r; subst r) | cases r)
  replace z := VRs.invCons z; obtain ⟨_, _, rfl, r, z⟩ := z
  (first | (replace r := VR.invInt r; obtain ⟨_, rfl⟩ := r) | (replace r := VR.invTop r; subst r) | cases r); (first | (replace z := VRs.invNil z; subst z) | cases z)
  refine min_two_ints hh fun h' tk k => ?_
  obtain ⟨H', e'⟩ := grow H k
  refine c _ S _ ρ h' tk h ?_ H' e'
  split
  · rw [show min a b = b by omega]; exact .int
  · rw [show min a b = a by omega]; exact .int
theorem f_abs {a : Int} {P : V → List O → Prop} (h : P (.int (if a < 0 then -a else a)) S) : AApp G A (.top (.builtin "abs")) [.int a] S P := by
  intro ρ s vals Q H hvs c
  replace hvs := VRs.invCons hvs; obtain ⟨_, _, rfl, r, z⟩ := hvs
  (first | (replace r := VR.invInt r; obtain ⟨_, rfl⟩ := r) | (replace r := VR.invTop r; subst r) | cases r)
  replace z := VRs.invCons z; obtain ⟨_, _, rfl, r, z⟩ := z
  (first | (replace r := VR.invInt r; obtain ⟨_, rfl⟩ := r) | (replace r := VR.invTop r; subst r) | cases r); (first | (replace z := VRs.invNil z; subst z) | cases z)
  exact call_abs_int fun u tk => c _ S _ ρ s.heap tk h .int H .refl
theorem f_int {a : Int} {P : V → List O → Prop} (h : P (.int a) S) : AApp G A (.top (.type "int")) [.int a] S P := by
  intro ρ s vals Q H hvs c
  replace hvs := VRs.invCons hvs; obtain ⟨_, _, rfl, r, z⟩ := hvs
  (first | (replace r := VR.invInt r; obtain ⟨_, rfl⟩ := r) | (replace r := VR.invTop r; subst r) | cases r)
  replace z := VRs.invCons z; obtain ⟨_, _, rfl, r, z⟩ := z
  (first | (replace r := VR.invInt r; obtain ⟨_, rfl⟩ := r) | (replace r := VR.invTop r; subst r) | cases r); (first | (replace z := VRs.invNil z; subst z) | cases z)
  exact call_int_int (c _ S _ ρ s.heap s.toks h .int H .refl)
theorem tup_sub : isSubtype (.type "tuple") (.type "tuple") = pure true := by rw [isSubtype_type]; kernel_rfl
theorem f_isTuple {vs : List V} {P : V → List O → Prop} (h : P (.bool true) S) : AApp G A (.top (.builtin "isinstance")) [.tup vs, .top (.type "tuple")] S P := by
  intro ρ s vals Q H hvs c
  replace hvs := VRs.invCons hvs; obtain ⟨_, _, rfl, r, z⟩ := hvs
  (first | (replace r := VR.invInt r; obtain ⟨_, rfl⟩ := r) | (replace r := VR.invTop r; subst r) | cases r)
  replace z := VRs.invCons z; obtain ⟨_, _, rfl, r, z⟩ := z
  replace z := VRs.invCons z; obtain ⟨_, _, rfl, r2, z⟩ := z
  (first | (replace z := VRs.invNil z; subst z) | cases z); (first | (replace r2 := VR.invInt r2; obtain ⟨_, rfl⟩ := r2) | (replace r2 := VR.invTop r2; subst r2) | cases r2)
  cases r with
  | @tup _ t items it vr => exact call_isinstance_yes it.typeIs (by rfl) tup_sub (c _ S _ ρ s.heap s.toks h .bool H .refl)
theorem b_floordiv {a b : Int} {P : V → List O → Prop} (hb : b ≠ 0) (hs : b.natAbs < 1073741824) (h : P (.int (a.fdiv b)) S) : ABin G A .FloorDiv (.int a) (.int b) S P :=
  op_int2 h fun t u s Q k => floordiv_int hb (k _ _ fun _ _ => .int) (.inl (PyProof.noPylong_small hs))
theorem b_pow {a : Int} {n : Nat} {P : V → List O → Prop} (hsz : (Builtin.Int.intBits a : Int) * n ≤ 2 ^ 27) (h : P (.int (a ^ n)) S) : ABin G A .Pow (.int a) (.int n) S P :=
  op_int2 h fun t u s Q k => pow_int (by omega) hsz (by rw [Int.toNat_natCast]; exact k _ _ fun _ _ => .int)
end
end
-- AW17
section
open PySem.SeqAt
noncomputable def dget (es : List (List Int × V)) (k : List Int) : Option V := (es.find? fun x => decide (x.1 = k)).map (·.2)

section
variable {G : Gx} {A : Around} {env : Env} {ls : List (Str × V)} {S : List O} {ρ : List Addr} {s : Shared}

theorem dget_rel {h : Heap} {k : List Int} : ∀ {es : List (List Int × V)} {xs : List (List Int × Addr × Value)}, xs.map (·.1) = es.map (·.1) → VRs ρ h (es.map (·.2)) (xs.map (·.2.2)) →
    match dget es k with
    | some v => ∃ p, atKey xs k = some p ∧ VR ρ h v p.2
    | none => atKey xs k = none
  | [], [], _, _ => rfl
  | [], _ :: _, e, _ => by simp at e
  | _ :: _, [], e, _ => by simp at e
  | (k', v) :: es, (k'', p) :: xs, e, .cons r z => by
    simp only [List.map_cons, List.cons.injEq] at e
    obtain ⟨rfl, e⟩ := e
    have ih := dget_rel (k := k) e z
    unfold dget atKey
    by_cases q : k'' = k
    · subst q
      simpa using r
    · rw [List.find?_cons_of_neg (by simpa using q), List.find?_cons_of_neg (by simpa using q)]
      exact ih
theorem key_is {h : Heap} {a : Addr} {items : Array Value} {ks : List Int} (t : IsTup h a items) (r : VRs ρ h (ks.map V.int) items.toList) : G.tk.is h ks a := by
  obtain ⟨o, ho, hc, n, hd⟩ := t
  refine ⟨o, items, n, ho, hc, hd, ?_⟩
  have : ∀ {ks : List Int} {vs : List Value}, VRs ρ h (ks.map V.int) vs → PySem.ItemsAre (intKind G.prog G.w) ks vs := by
    intro ks
    induction ks with
    | nil => intro vs r; cases r; exact .nil
    | cons k ks ih =>
      intro vs r
      cases r with
      | cons a b => cases a; exact .cons (by simp [intKind, Value.isInt]) (ih b)
  exact this r

-- {}
theorem aDictNew {pos : Pos} {P : V → List O → Prop} (h : P (.ref S.length) (S ++ [.dict []])) : AEval G A env (.Dict [] [] pos) ls S P := by
  intro ρ m cm s Q X c
  refine wpAny_Dict_empty ?_
  have lo : (s.heap.objs.size == sysModules) = false := by
    have := modules_low (G.T.nolimit.keeps X.H.base)
    exact beq_eq_false_iff_ne.mpr (Nat.ne_of_gt this)
  obtain ⟨H', e'⟩ := X.H.alloc (o := { cls := .type "dict", data := .dict #[] }) (ob := .dict []) ⟨[], Heap.DictOfH.new _, rfl, .nil, lo⟩
  exact c _ _ _ _ _ s.toks h (.ref (by rw [← X.H.len]; simp)) H' e'

-- x[k] = v, a new key
theorem set_dict_new {n : Nat} {es : List (List Int × V)} {ks : List Int} {v : V} {P : Unit → List O → Prop} (hu : A.units + 1 < cLine) (hS : S[n]? = some (.dict es)) (hk : dget es ks = none) (hb : es.length ≤ 100000) (h : P () (S.set n (.dict (es ++ [(ks, v)])))) : ASet G A (.ref n) (.tup (ks.map V.int)) v S P := by
  intro ρ s vals Q H hvs c
  replace hvs := VRs.invCons hvs; obtain ⟨_, _, rfl, r, z⟩ := hvs
  replace z := VRs.invCons z; obtain ⟨_, _, rfl, r2, z⟩ := z
  replace z := VRs.invCons z; obtain ⟨xv, _, rfl, r3, z⟩ := z
  (first | (replace z := VRs.invNil z; subst z) | cases z)
  replace r := VR.invRef r; obtain ⟨l, rfl, hl⟩ := r
  replace r2 := VR.invTup r2; obtain ⟨a, items, rfl, t, vr⟩ := r2
  obtain ⟨xs, dm, e1, e2, e3⟩ := H.objs n l _ hl hS
  have hat := dget_rel (k := ks) e1 e2
  rw [hk] at hat
  have hle : xs.length = es.length := by simpa using congrArg List.length e1
  refine wpAny_setItem_heap (xs := xs) (knd := G.tk) hu (key_is t vr) dm (fun h' dm' hs => ?_) (by rw [sizeLine_eq]; omega)
  rw [storedH_new hat] at dm'
  have nt := H.notTup (List.mem_of_getElem? hl)
  have up : ∀ {vs xs}, VRs ρ s.heap vs xs → VRs ρ h' vs xs := fun r => r.mono (fun _ _ e => e) (tup_touch hs.extBut nt)
  obtain ⟨H₂, x₂⟩ := H.set (o := .dict (es ++ [(ks, v)])) hl hs ⟨_, dm', by simp [e1], by simpa using up (e2.snoc r3), e3⟩
  exact c () _ () ρ h' _ h trivial H₂ x₂

-- x.get(k, d)
theorem aDictGet {o ke de : Expr} {apos pos : Pos} {pl : Sem Bool} {P : V → List O → Prop} (hu : A.units + 1 < cLine)
    (h : AEval G A env o ls S fun v S₁ => ∃ n, v = .ref n ∧ (∃ es, S₁[n]? = some (.dict es)) ∧ AArgs G A env pos [ke, de] ls S₁ fun vs S₂ => ∃ ks es d, vs = [.tup (ks.map V.int), d] ∧ S₂[n]? = some (.dict es) ∧ P ((dget es ks).getD d) S₂)
    (he : eval (.Call (.Attribute o "get" apos) [ke, de] [] pos) env = (do
      let ov ← eval o env
      standAt apos.atName
      let (f, first) ← holding [ov] (getMethod ov "get" pl)
      callWith pos f first (backTo pos (starEach [ke, de] env)) []) := by rfl)
    (hp : (backTo pos (starEach [ke, de] env)).any (·.1) = false := by rfl) : AEval G A env (.Call (.Attribute o "get" apos) [ke, de] [] pos) ls S P := by
  intro ρ m cm s Q X c
  refine MethodCall_ (h ρ m cm s _ X fun v S₁ a ρ₁ h₁ t₁ p₁ r₁ H₁ e₁ => ?_) he
  obtain ⟨n, rfl, ⟨es, hS⟩, p⟩ := p₁
  replace r₁ := VR.invRef r₁; obtain ⟨l, rfl, hl⟩ := r₁
  obtain ⟨xs, dm, q1, q2, q3⟩ := H₁.objs n l _ hl hS
  refine getMethod_builtin (s := { s with heap := h₁, toks := t₁ }) dm.typeIs PySem.F.plainAttrs_dict PySem.F.slot_dict_get (by rfl) (dictOfH_noDict dm) ?_
  refine callWith_of (P := fun _ => True) (by rw [hp]; rfl) (fun _ p => ⟨.machine, .inr (.inl rfl), Looks.of_pure (by rfl)⟩) (evalArgs_any hp ?_)
  refine p ρ₁ m cm _ _ (X.next H₁ e₁) fun vs S₂ as ρ₂ h₂ t₂ p₂ r₂ H₂ e₂ => ⟨trivial, ?_⟩
  obtain ⟨ks, es₂, d, rfl, hS₂, hp₂⟩ := p₂
  replace r₂ := VRs.invCons r₂; obtain ⟨_, _, rfl, rk, z⟩ := r₂
  replace z := VRs.invCons z; obtain ⟨dv, _, rfl, rd, z⟩ := z
  (first | (replace z := VRs.invNil z; subst z) | cases z)
  replace rk := VR.invTup rk; obtain ⟨a, items, rfl, t, vr⟩ := rk
  obtain ⟨ys, dm₂, w1, w2, w3⟩ := H₂.objs n l _ (e₂.idx _ _ hl) hS₂
  refine call_meetsIn PySem.F.slot_dict_get dm₂.typeIs PySem.F.entry_dict_get (PySem.F.args_dict_get_3 _ _ _) (meetsH_dict_get_default G.tk l a w3 dv) ⟨hu, ks, ys, key_is t vr, dm₂, ?_⟩
  have hat := dget_rel (k := ks) w1 w2
  have rv : VR ρ₂ h₂ ((dget es₂ ks).getD d) (((atKey ys ks).map (·.2)).getD dv) := by
    cases q : dget es₂ ks with
    | none => rw [q] at hat; rw [hat]; exact rd
    | some v => rw [q] at hat; obtain ⟨p, hp, r⟩ := hat; rw [hp]; exact r
  exact c _ S₂ _ ρ₂ h₂ _ hp₂ rv H₂ (e₁.trans e₂)
end
end
-- AW18
section
open PySem.SeqAt
-- every question of the tree is about indices below n, and every end is as R says
noncomputable def Good (n : Nat) {α : Type} (R : α → Prop) : KasT α → Prop
  | .ret a => R a
  | .ask i j k => i < n ∧ j < n ∧ ∀ b, Good n R (k b)
theorem Good.bind {n : Nat} {α β : Type} {R' : α → Prop} {R : β → Prop} {f : α → KasT β} (hf : ∀ a, R' a → Good n R (f a)) : ∀ {t : KasT α}, Good n R' t → Good n R (t.bind f)
  | .ret a, g => hf a g
  | .ask i j k, ⟨a, b, c⟩ => ⟨a, b, fun x => Good.bind hf (c x)⟩
noncomputable def PermOk (n : Nat) (p : Array Nat) : Prop := p.Perm (List.toArray (List.range n))
theorem PermOk.lt {n : Nat} {p : Array Nat} (h : PermOk n p) (hn : 0 < n) (i : Nat) : p.getD i 0 < n := by
  unfold Array.getD
  split
  · rename_i hi
    have hm : p.getInternal i hi ∈ p := Array.getElem_mem hi
    have := (Array.Perm.mem_iff h).mp hm
    simpa using this
  · exact hn
theorem PermOk.rev {n : Nat} {p : Array Nat} (h : PermOk n p) (i j : Nat) : PermOk n (kas_rev p i j) := (mirror_perm p i j _).trans h
theorem PermOk.bub {n : Nat} {p : Array Nat} (h : PermOk n p) (i j : Nat) : PermOk n (bubble p i j) := (bubble_perm p i j).trans h
section
variable {N : Nat} (hN : 0 < N)
include hN
theorem good_asc {p : Array Nat} (h : PermOk N p) : ∀ f n, Good N (fun _ => True) (kas_asc p f n)
  | 0, n => trivial
  | f + 1, n => ⟨h.lt hN _, h.lt hN _, fun b => by
    cases b with
    | true => exact trivial
    | false => exact good_asc h f (n + 1)⟩
theorem good_desc : ∀ f (p : Array Nat) n q, PermOk N p → Good N (fun r => PermOk N r.1) (kas_desc f p n q)
  | 0, p, n, q, h => h
  | f + 1, p, n, q, h => ⟨h.lt hN _, h.lt hN _, fun b => by
    cases b with
    | true =>
      show Good N _ (if q > 0 then _ else _)
      split
      · exact good_desc f _ _ _ (h.rev _ _)
      · exact good_desc f _ _ _ h
    | false => exact ⟨h.lt hN _, h.lt hN _, fun d => by
        cases d with
        | true => exact h
        | false => exact good_desc f p _ _ h⟩⟩
theorem good_tail3 {p : Array Nat} (h : PermOk N p) (n nrem : Nat) : Good N (fun r => PermOk N r.2) (kas_tail3 n nrem p) := by
  unfold kas_tail3
  refine Good.bind (R' := fun _ => True) (fun m _ => ?_) (good_asc hN (h.rev 0 n) _ _)
  exact h.rev 0 n
theorem good_descPart {p : Array Nat} (h : PermOk N p) (n nrem : Nat) : Good N (fun r => PermOk N r.2) (kas_descPart n nrem p) := by
  refine Good.bind (fun r hr => ?_) (good_desc hN _ p _ _ h)
  split
  · exact good_tail3 hN (hr.rev _ _) _ _
  · exact good_tail3 hN hr _ _
theorem good_count {p : Array Nat} (h : PermOk N p) (nrem : Nat) : Good N (fun r => PermOk N r.2) (kas_count nrem p) := by
  refine Good.bind (R' := fun _ => True) (fun n _ => ?_) (good_asc hN h _ _)
  split
  · exact h
  · split
    · refine ⟨h.lt hN _, h.lt hN _, fun b => ?_⟩
      cases b with
      | true => exact h
      | false => exact good_descPart hN (h.rev _ _) _ _
    · exact good_descPart hN h _ _
theorem good_place {p : Array Nat} (h : PermOk N p) (k : Nat) : ∀ f l r, Good N (fun _ => True) (kas_place p k f l r)
  | 0, l, r => trivial
  | f + 1, l, r => by
    unfold kas_place
    split
    · exact trivial
    · refine ⟨h.lt hN _, h.lt hN _, fun b => ?_⟩
      cases b with
      | true => exact good_place h k f _ _
      | false => exact good_place h k f _ _
theorem good_bin : ∀ f (p : Array Nat) k, PermOk N p → Good N (PermOk N) (kas_bin f p k)
  | 0, p, k, h => h
  | f + 1, p, k, h => Good.bind (R' := fun _ => True) (fun l _ => good_bin f _ _ (h.bub _ _)) (good_place hN h k _ _ _)
theorem good_sort : Good N (PermOk N) (kas_sort N) := by
  refine Good.bind (fun r hr => ?_) (good_count hN (show PermOk N _ from .refl _) N)
  split
  · exact good_bin hN _ _ _ hr
  · exact hr
end
theorem good_wp {n : Nat} {α : Type} {cmp : Nat → Nat → (Bool → Shared → Prop) → Shared → Prop} {I : Shared → Prop} (hc : ∀ s, I s → ∀ i j, i < n → j < n → ∀ C, (∀ b s', I s' → C b s') → cmp i j C s) {R : α → Prop} {Q : α → Shared → Prop} (hq : ∀ a s, R a → I s → Q a s) :
    ∀ {t : KasT α} {s : Shared}, Good n R t → I s → t.kasWp cmp Q s
  | .ret a, s, g, hs => hq a s g hs
  | .ask i j k, s, ⟨a, b, c⟩, hs => hc s hs i j a b _ fun x s' hs' => good_wp hc hq (c x) hs'
end
-- AW19
section
open PySem.SeqAt
open AutoSeq1 (wpAny_loadPart')
-- x < y answers some truth value and changes nothing
noncomputable def LtB (A : Around) (s : Shared) (x y : Value) : Prop := ∀ (prog : Program) (w : World) (E : Value → Shared → Prop) (Q : Value → Shared → Prop), (∀ b, Q (.bool b) s) → wpAny (model prog w) A (richCompare .Lt x y) Q E s
theorem tuple_ltAny (l b : Addr) (items items2 : Array Value) (n n2 : Nat) (dd dd2 : Option Addr) (sl sl2 : Array (Option Value)) (e : Nat → Bool) :
    Meets (Builtin.«tuple.__lt__» ⟨[.ref l, .ref b], []⟩)
      (fun A R s => s.heap.get? l = some { cls := .type "tuple", dict := dd, data := .seq items n, slots := sl } ∧ s.heap.get? b = some { cls := .type "tuple", dict := dd2, data := .seq items2 n2, slots := sl2 } ∧
        (∀ j (h1 : j < items.size) (h2 : j < items2.size), EqAt A.in1 s items[j] items2[j] (e j)) ∧ (∀ j (h1 : j < items.size) (h2 : j < items2.size), e j = false → LtB A.in1 s items[j] items2[j]) ∧
        ∀ b, R (.ok (.ret (.bool b))) s) :=
  .of_wp fun prog w A R s h => by
    obtain ⟨hp, g, d, tk, os⟩ := s; obtain ⟨hl, hb, he, hlt', h⟩ := h
    have f2 := AutoSeq1.sub_tuple_tuple
    have hZ : (items.toList.zip items2.toList).length = min items.size items2.size := by simp
    wp_walk using wpAny_loadPart' hl, wpAny_loadPart' hb, wpAny_forIn_list _ (fun rest b s' => b.1 = none ∧ s' = ⟨hp, g, d, tk, os⟩ ∧ ∃ i, rest = (items.toList.zip items2.toList).drop i) _
    case turn =>
      rintro ⟨y, x⟩ rest b s' ⟨hb', rfl, i, hz⟩
      have hlt : i < (items.toList.zip items2.toList).length := by
        rcases Nat.lt_or_ge i (items.toList.zip items2.toList).length with h' | h'
        · exact h'
        · rw [List.drop_of_length_le h'] at hz; cases hz
      have hm : i < min items.size items2.size := hZ ▸ hlt
      have h1 : i < items.size := Nat.lt_of_lt_of_le hm (Nat.min_le_left _ _)
      have h2 : i < items2.size := Nat.lt_of_lt_of_le hm (Nat.min_le_right _ _)
      rw [List.drop_eq_getElem_cons hlt] at hz
      injection hz with hyx hrest
      have hy : y = items[i] := by have := congrArg Prod.fst hyx; simpa using this
      have hx : x = items2[i] := by have := congrArg Prod.snd hyx; simpa using this
      subst hy hx
      refine wpAny_bind (he i h1 h2 prog w _ _ ?_)
      cases hy : e i with
      | true =>
        wp_walk
        exact ⟨rfl, rfl, i + 1, hrest⟩
      | false =>
        simp only [Bool.not_false, if_true]
        refine wpAny_bind (wpAny_rule (wpAny_bind (hlt' i h1 h2 hy prog w _ _ fun b => ?_)))
        wp_walk
        exact ⟨_, rfl, h b⟩
    case fin =>
      rintro ⟨b1, b2⟩ s' ⟨hb', rfl, i, hz⟩
      simp only at hb'
      subst hb'
      wp_walk
      exact ⟨_, rfl, h _⟩
    case h => exact ⟨rfl, rfl, 0, rfl⟩
theorem LtB.tuples {A : Around} {s : Shared} {l b : Addr} {items items2 : Array Value} {e : Nat → Bool} (hl : s.heap.IsTuple l items) (hb : s.heap.IsTuple b items2) (hu : A.units < cLine)
    (he : ∀ j (h1 : j < items.size) (h2 : j < items2.size), EqAt A.in1 s items[j] items2[j] (e j)) (hlt : ∀ j (h1 : j < items.size) (h2 : j < items2.size), e j = false → LtB A.in1 s items[j] items2[j]) : LtB A s (.ref l) (.ref b) := fun prog w E Q h => by
  obtain ⟨⟨cls, dd, data, sl⟩, ho, hc, n, hd⟩ := id hl
  obtain ⟨⟨cls2, dd2, data2, sl2⟩, ho2, hc2, n2, hd2⟩ := id hb
  simp only at hc hd hc2 hd2
  subst hc hd hc2 hd2
  exact richCompare_meets_room (op := .Lt) ⟨_, ho, rfl⟩ ⟨_, ho2, rfl⟩ F.slot_tuple_lt F.entry_tuple_lt (F.args_tuple_lt_2 _ _) (tuple_ltAny l b items items2 n n2 dd dd2 sl sl2 e)
    ⟨ho, ho2, he, hlt, fun b => show Value.bool b ≠ Value.notImplemented ∧ Q (.bool b) s from ⟨(fun x => nomatch x), h b⟩⟩ hu
theorem LtB.ints {A : Around} {s : Shared} {a b : Int} {t u : Tok} : LtB A s (.int a t) (.int b u) := fun prog w E Q h => lt_int (h _)
end
-- AW20
section
open PySem.SeqAt
-- two values of one kind: two ints, or two tuples of ints
inductive Like : V → V → Prop
  | int {i j} : Like (.int i) (.int j)
  | tup {xs ys : List Int} : Like (.tup (xs.map V.int)) (.tup (ys.map V.int))
theorem Like.flat1 {x y} (h : Like x y) : Flat x := by cases h with | int => exact .int | tup => exact .tup
theorem Like.flat2 {x y} (h : Like x y) : Flat y := by cases h with | int => exact .int | tup => exact .tup
inductive Likes : List V → List V → Prop
  | nil : Likes [] []
  | cons {x y xs ys} : Like x y → Likes xs ys → Likes (x :: xs) (y :: ys)
theorem Likes.get : ∀ {xs ys : List V} {j : Nat} {x y : V}, Likes xs ys → xs[j]? = some x → ys[j]? = some y → Like x y
  | _, _, 0, _, _, .cons a _, h1, h2 => by simp at h1 h2; subst h1; subst h2; exact a
  | _, _, j + 1, _, _, .cons _ b, h1, h2 => by simp at h1 h2; exact b.get h1 h2

section
variable {G : Gx} {A : Around} {env : Env} {ls : List (Str × V)} {S : List O} {ρ : List Addr} {s : Shared}
theorem like_lt {x y : V} {xv yv : Value} (h : Like x y) (rx : VR ρ s.heap x xv) (ry : VR ρ s.heap y yv) (hu : A.units < cLine) : LtB A s xv yv := by
  cases h with
  | int => cases rx; cases ry; exact LtB.ints
  | @tup xs ys =>
    replace rx := VR.invTup rx; obtain ⟨a, its, rfl, t, ra⟩ := rx
    replace ry := VR.invTup ry; obtain ⟨b, its2, rfl, t2, rb⟩ := ry
    have la : xs.length = its.size := by simpa using ra.length
    have lb : ys.length = its2.size := by simpa using rb.length
    have item : ∀ j (h1 : j < its.size) (h2 : j < its2.size), ∃ t u, its[j] = .int (xs.getD j 0) t ∧ its2[j] = .int (ys.getD j 0) u := by
      intro j h1 h2
      obtain ⟨xv, hxv, rx⟩ := ra.get (i := j) (v := .int (xs.getD j 0)) (by simp [show j < xs.length by omega])
      obtain ⟨yv, hyv, ry⟩ := rb.get (i := j) (v := .int (ys.getD j 0)) (by simp [show j < ys.length by omega])
      replace rx := VR.invInt rx; obtain ⟨t, rfl⟩ := rx
      replace ry := VR.invInt ry; obtain ⟨u, rfl⟩ := ry
      refine ⟨t, u, ?_, ?_⟩
      · simpa [h1] using hxv
      · simpa [h2] using hyv
    refine LtB.tuples (e := fun j => xs.getD j 0 == ys.getD j 0) t t2 hu (fun j h1 h2 => ?_) fun j h1 h2 _ => ?_
    · obtain ⟨t, u, e1, e2⟩ := item j h1 h2
      rw [e1, e2]
      exact .int_int _ _ _ _
    · obtain ⟨t, u, e1, e2⟩ := item j h1 h2
      rw [e1, e2]
      exact LtB.ints
-- x < y of two rows: either answer
-- the sort's own comparisons
theorem sort_lt_rows {xv yv : Value} {Q : Bool → Shared → Prop} {E : Value → Shared → Prop} {i j : Int} {r q : List Int} (rx : VR ρ s.heap (.tup [.int i, .tup (r.map V.int)]) xv) (ry : VR ρ s.heap (.tup [.int j, .tup (q.map V.int)]) yv) (hu : A.units < cLine) (h : ∀ b, Q b s) :
    wpAny G.M A (keyLt' (tuples' true) xv yv) Q E s := by
  replace rx := VR.invTup rx; obtain ⟨a, its, rfl, t, ra⟩ := rx
  replace ry := VR.invTup ry; obtain ⟨b, its2, rfl, t2, rb⟩ := ry
  obtain ⟨o, ho, hc, n, hd⟩ := t
  obtain ⟨o2, ho2, hc2, n2, hd2⟩ := t2
  refine wpAny_mono (kat_lt (Q := Q) ho hd ho2 hd2 ?_) (fun _ _ x => x) fun _ _ x => x
  generalize its.toList = L1 at ra
  generalize its2.toList = L2 at rb
  replace ra := VRs.invCons ra; obtain ⟨_, _, rfl, a1, z⟩ := ra
  cases a1
  replace z := VRs.invCons z; obtain ⟨_, _, rfl, a2, z⟩ := z
  (first | (replace z := VRs.invNil z; subst z) | cases z)
  replace rb := VRs.invCons rb; obtain ⟨_, _, rfl, b1, z⟩ := rb
  cases b1
  replace z := VRs.invCons z; obtain ⟨_, _, rfl, b2, z⟩ := z
  (first | (replace z := VRs.invNil z; subst z) | cases z)
  refine kat_cons (wpAny_eqBool_int ?_)
  refine kat_go (fun _ => kat_yes ?_) (fun _ => kat_no (oneLt_int (h _)))
  refine kat_cons (eqF_at (A := A) (x := .tup (r.map V.int)) (y := .tup (q.map V.int)) .tup .tup a2 b2 hu _ _ _ _ ?_)
  refine kat_go (fun _ => kat_yes (kat_nil (h _))) (fun _ => kat_no ?_)
  refine kat_one _ _ ?_
  exact like_lt (x := .tup (r.map V.int)) (y := .tup (q.map V.int)) .tup a2 b2 hu _ _ _ _ fun b => h b
end
end
-- AW21
section
open PySem.SeqAt
noncomputable abbrev rowV (r : List Int) : V := .tup (r.map V.int)
noncomputable abbrev keyV (r : List Int) : V := .tup [.int r.length, .tup (r.map V.int)]
theorem Room.in1 {A : Around} {n : Nat} (r : Room A (n + 1)) : Room A.in1.in1 n := ⟨r.1, by have := r.2.1; show A.depth + n < _; omega, by have := r.2.2; show A.units + 1 + 1 + 8 * n < _; omega⟩

section
variable {G : Gx} {A : Around} {S : List O} {ρ : List Addr}

-- an object outside the store is put in place
theorem HS.outer {h h' : Heap} {D : Addr} (H : HS G ρ S h) (hs : Heap.SameBut D h h') (hD : D ∉ ρ) (h0 : G.h₀.get? D = none) (nt : ∀ items, ¬ IsTup h D items) (hl : ∃ o, h'.get? D = some o) : HS G ρ S h' ∧ Ext (fun b => b = D) ρ h ρ h' :=
  ⟨H.touch hs.extBut nt hD h0, ⟨⟨[], by simp, by simp⟩, fun b o e _ k => hs.extBut b o k e, fun b o e => by
    by_cases q : b = D
    · subst q; exact hl
    · exact ⟨o, hs.extBut b o q e⟩⟩⟩
theorem list_notTup {h : Heap} {D : Addr} {xs : Array Value} {n : Nat} (ho : h.get? D = some (seqObj "list" xs n)) (items : Array Value) : ¬ IsTup h D items := by
  rintro ⟨o, ho', hc, _⟩
  rw [ho] at ho'; cases ho'
  exact absurd (show Value.type "list" = Value.type "tuple" from hc) (by decide)
theorem same_rho {ρ' : List Addr} {X} {h h' : Heap} (H : HS G ρ S h) (H' : HS G ρ' S h') (e : Ext X ρ h ρ' h') : ρ' = ρ := by
  obtain ⟨x, rfl, _⟩ := e.pre
  have h1 := H.len
  have h2 := H'.len
  rw [List.length_append] at h2
  have : x = [] := List.length_eq_zero_iff.mp (by omega)
  rw [this, List.append_nil]

theorem sort_keys {Rk : List Int → Prop} {kf : Nat} {qf : Addr} {kS : Addr} {body : Value → PUnit → Sem (ForInStep PUnit)} {E : Value → Shared → Prop} (hqf : ρ[kf]? = some qf) (hfk : ∀ r : List Int, Rk r → AApp G A (.ref kf) [rowV r] S fun v S' => S' = S ∧ v = keyV r)
    (hb : ∀ x (s : Shared) (C : Shared → Prop), wpAny G.M A (call (.ref qf) [x]) (fun k s' => wpAny G.M A (Builtin.List.listUpdate (.ref kS) (·.push k)) (fun _ s'' => C s'') noE s') noE s → wpAny G.M A (body x ⟨⟩) (fun r s' => r = .yield ⟨⟩ ∧ C s') E s)
    (hk0 : G.h₀.get? kS = none) (hkρ : kS ∉ ρ) : ∀ (rows done : List (List Int)) (vs ks : List Value) (e : Nat) (s : Shared) (Q : PUnit → Shared → Prop), HS G ρ S s.heap → VRs ρ s.heap (rows.map rowV) vs → VRs ρ s.heap (done.map keyV) ks →
    s.heap.get? kS = some (seqObj "list" ks.toArray e) → done.length + rows.length < 64 → (∀ r ∈ rows, Rk r) →
    (∀ h' tk' ks' e', HS G ρ S h' → Ext (fun b => b = kS) ρ s.heap ρ h' → VRs ρ h' ((done ++ rows).map keyV) ks' → h'.get? kS = some (seqObj "list" ks'.toArray e') → Q ⟨⟩ { s with heap := h', toks := tk' }) →
    wpAny G.M A (forIn vs PUnit.unit body) Q E s
  | [], done, _, ks, e, s, Q, H, .nil, rk, hk, hl, _, c => by
    rw [List.forIn_nil]
    exact wpAny_pure (c s.heap s.toks ks e H .refl (by simpa using rk) hk)
  | r :: rows, done, _, ks, e, s, Q, H, .cons (x := x) (xs := vs) rx rs, rk, hk, hl, hR, c => by
    rw [List.forIn_cons]
    refine wpAny_bind (wpAny_mono (hb x s (fun s' => wpAny G.M A (forIn vs PUnit.unit body) Q E s') ?_) (fun q s' hq => ?_) fun _ _ x => x)
    · refine hfk r (hR r (.head _)) ρ s [.ref qf, x] _ H (.cons (.ref hqf) (.cons rx .nil)) fun b S' k ρ' h' tk' p rkk H' e' => ?_
      obtain ⟨hS, rfl⟩ := p
      rw [hS] at H'
      have hρ := same_rho H H' e'
      rw [hρ] at H' e' rkk
      have hk' : h'.get? kS = some (seqObj "list" ks.toArray e) := e'.pres kS _ hk hkρ id
      have s1 := Heap.SameBut.update h' kS (Obj.mapSeq (·.push k))
      have ea : ks.toArray.push k = (ks ++ [k]).toArray := by simp
      have hlen := rk.length
      have hle : ks.length < 64 := by simp at hlen; omega
      obtain ⟨c2, hc2⟩ : ∃ c2, (h'.update kS (Obj.mapSeq (·.push k))).get? kS = some (seqObj "list" (ks ++ [k]).toArray c2) := ⟨_, by rw [← ea]; exact get?_update_seq hk' (·.push k)⟩
      refine listUpdate_at hk' rfl ?_ (by rw [List.size_toArray, sizeLine_eq]; omega) (Nat.le_trans (Nat.le_of_eq (Array.size_push ..)) (by rw [List.size_toArray, sizeLine_eq]; omega))
      have nt := list_notTup hk'
      obtain ⟨H2, e2⟩ := H'.outer s1 hkρ hk0 nt ⟨_, hc2⟩
      have e12 : Ext (fun b => b = kS) ρ s.heap ρ (h'.update kS (Obj.mapSeq (·.push k))) := (e'.weak fun _ => False.elim).trans e2
      have up1 : ∀ {vs xs}, VRs ρ s.heap vs xs → VRs ρ (h'.update kS (Obj.mapSeq (·.push k))) vs xs := fun q => e2.vrs H' (fun b its hb => by subst hb; exact nt its) (e'.vrs H noX_tup q)
      have rk2 := e2.vr H' (fun b its hb => by subst hb; exact nt its) rkk
      refine sort_keys hqf hfk hb hk0 hkρ rows (done ++ [r]) vs (ks ++ [k]) c2 _ Q H2 (up1 rs) (by rw [List.map_append]; exact (up1 rk).snoc rk2) hc2 (by simp at hl ⊢; omega) (fun r hr => hR r (.tail _ hr)) fun h3 tk3 ks3 e3 H3 x3 r3 hk3 => ?_
      exact c h3 tk3 ks3 e3 H3 (e12.trans x3) (by simpa using r3) hk3
    · obtain ⟨rfl, hq⟩ := hq
      exact hq
end
end
-- AW22
section
open PySem.SeqAt
theorem Ext.drop2 {C : Addr} {X : Addr → Prop} {ρ h ρ' h'} (e : Ext (fun b => X b ∨ b = C) ρ h ρ' h') (hn : h.get? C = none) : Ext X ρ h ρ' h' :=
  ⟨e.pre, fun b o k n x => e.pres b o k n (fun q => q.elim x fun q => by rw [q, hn] at k; cases k), e.live⟩
section
variable {G : Gx} {A : Around} {S : List O} {ρ : List Addr} {s : Shared}

theorem keys_tups {h : Heap} : ∀ {rows : List (List Int)} {ks : List Value}, VRs ρ h (rows.map keyV) ks → ∃ fs, KatTups h ks fs ∧ fs.length = rows.length ∧ ∀ v ∈ fs, ∃ i t, v = Value.int i t
  | [], _, .nil => ⟨[], .nil, rfl, fun _ h => by cases h⟩
  | r :: rows, _, .cons a z => by
    obtain ⟨fs, h1, h2, h3⟩ := keys_tups z
    cases a with
    | @tup _ ad items t vr =>
      obtain ⟨o, ho, hc, n, hd⟩ := t
      obtain ⟨x, hx, rx⟩ := vr.get (i := 0) (v := .int r.length) rfl
      cases rx with
      | @int _ tk =>
        refine ⟨.int r.length tk :: fs, .cons ho hc hd (by simpa using hx) h1, by simp [h2], fun v hv => ?_⟩
        rcases List.mem_cons.mp hv with rfl | hv
        · exact ⟨_, _, rfl⟩
        · exact h3 v hv

theorem vrs_pick {h : Heap} {rows : List (List Int)} {vs : List Value} (rv : VRs ρ h (rows.map rowV) vs) : ∀ (p : List Nat), (∀ i ∈ p, i < rows.length) → VRs ρ h ((p.map fun i => rows.getD i []).map rowV) (p.map fun i => vs.getD i Value.none)
  | [], _ => .nil
  | i :: p, hp => by
    have hi := hp i (.head _)
    obtain ⟨x, hx, rx⟩ := rv.get (i := i) (v := rowV rows[i]) (by simp [hi])
    refine .cons ?_ (vrs_pick rv p fun j hj => hp j (.tail _ hj))
    have e1 : vs.getD i Value.none = x := by simp [List.getD_eq_getElem?_getD, hx]
    have e2 : rows.getD i [] = rows[i] := by simp [hi]
    show VR ρ h (rowV (rows.getD i [])) (vs.getD i Value.none)
    rw [e1, e2]
    exact rx
theorem pick_perm {rows : List (List Int)} {p : Array Nat} (hp : PermOk rows.length p) : (p.toList.map fun i => rows.getD i []).Perm rows := by
  have h1 : p.toList.Perm (List.range rows.length) := by
    have := Array.perm_iff_toList_perm.mp hp
    simpa using this
  have h2 := h1.map fun i => rows.getD i []
  have h3 : (List.range rows.length).map (fun i => rows.getD i []) = rows := by
    apply List.ext_getElem
    · simp
    · intro i h1 h2
      simp at h1
      simp [h2]
  rwa [h3] at h2

theorem sort_tail {D kS : Addr} {st : SortSt} {ks : List Value} {e e1 : Nat} {rows : List (List Int)} {out : List Value} {P : PySem.Fin → Shared → Prop} {E : Value → Shared → Prop} (hout : (arrOf st).map (·.2) = out.toArray) (hf : failedOf st = none)
    (H : HS G ρ S s.heap) (hk : s.heap.get? kS = some (seqObj "list" ks.toArray e)) (hd : s.heap.get? D = some (seqObj "list" #[] e1)) (hkρ : kS ∉ ρ) (hk0 : G.h₀.get? kS = none) (hDρ : D ∉ ρ) (hD0 : G.h₀.get? D = none) (hne : D ≠ kS) (hz : rows.length < 64) (hkz : ks.length < 64)
    (rv : VRs ρ s.heap (rows.map rowV) out)
    (c : ∀ h' e', HS G ρ S h' → Ext (fun b => b = D ∨ b = kS) ρ s.heap ρ h' → VRs ρ h' (rows.map rowV) out → h'.get? D = some (seqObj "list" out.toArray e') → P (.done (.ret .none)) { s with heap := h' }) :
    wpAny G.M A (ksk_tail D false e1 (.ref kS) st) P E s := by
  have hol : out.length < 64 := by have := rv.length; simp at this; omega
  have s1 := Heap.SameBut.update s.heap kS (Obj.mapSeq fun _ => (#[] : Array Value))
  have hck := get?_update_seq hk fun _ => #[]
  have hd1 := s1.extBut D _ hne hd
  obtain ⟨H1, x1⟩ := H.outer s1 hkρ hk0 (list_notTup hk) ⟨_, hck⟩
  have s2 := Heap.SameBut.update (s.heap.update kS (Obj.mapSeq fun _ => (#[] : Array Value))) D (Obj.mapSeq fun _ => out.toArray)
  have hc2 := get?_update_seq hd1 fun _ => out.toArray
  obtain ⟨H2, x2⟩ := H1.outer s2 hDρ hD0 (list_notTup hd1) ⟨_, hc2⟩
  unfold ksk_tail
  dsimp only
  rw [hout]
  refine wpAny_bind (listUpdate_at hk rfl ?_ (by rw [List.size_toArray, sizeLine_eq]; omega) (Nat.zero_le _))
  refine wpAny_bind (wpAny_letGo ?_)
  refine wpAny_bind (seqEpoch_at hd1 rfl ?_)
  refine wpAny_bind (listUpdate_at hd1 rfl ?_ (Nat.zero_le _) (by simp only [Bool.false_eq_true, if_false, List.size_toArray]; rw [sizeLine_eq]; omega))
  rw [hf]
  simp only [bne_self_eq_false, Bool.false_eq_true, if_false]
  refine wpAny_pure (c _ _ H2 ((x1.weak fun b q => .inr q).trans (x2.weak fun b q => .inl q)) ?_ hc2)
  exact x2.vrs H1 (fun b its q => by subst q; exact list_notTup hd1 its) (x1.vrs H (fun b its q => by subst q; exact list_notTup hk its) rv)

theorem sort_end {D kS : Addr} {vs ks : List Value} {e e1 : Nat} {rows : List (List Int)} {P : PySem.Fin → Shared → Prop} {E : Value → Shared → Prop} (hu : A.units < cLine)
    (H : HS G ρ S s.heap) (hk : s.heap.get? kS = some (seqObj "list" ks.toArray e)) (hd : s.heap.get? D = some (seqObj "list" #[] e1)) (hkρ : kS ∉ ρ) (hk0 : G.h₀.get? kS = none) (hDρ : D ∉ ρ) (hD0 : G.h₀.get? D = none) (hne : D ≠ kS) (hz : rows.length < 64)
    (rv : VRs ρ s.heap (rows.map rowV) vs) (rk : VRs ρ s.heap (rows.map keyV) ks)
    (c : ∀ (rows' : List (List Int)) (vs' : List Value) h' e', rows'.Perm rows → HS G ρ S h' → Ext (fun b => b = D ∨ b = kS) ρ s.heap ρ h' → VRs ρ h' (rows'.map rowV) vs' → h'.get? D = some (seqObj "list" vs'.toArray e') → P (.done (.ret .none)) { s with heap := h' }) :
    wpAny G.M A (ksk_end D false vs.toArray e1 (.ref kS) ks.toArray) P E s := by
  have hvl : vs.length = rows.length := by have := rv.length; simpa using this.symm
  have hkl : ks.length = rows.length := by have := rk.length; simpa using this.symm
  unfold ksk_end
  dsimp only
  simp only [Bool.false_eq_true, if_false]
  by_cases h2 : vs.toArray.size < 2
  · rw [if_pos h2, if_pos h2]
    refine wpAny_bind (wpAny_pure ?_)
    rw [StateT.run_pure]
    refine wpAny_bind (wpAny_pure ?_)
    refine sort_tail (rows := rows) (out := vs) ?_ rfl H hk hd hkρ hk0 hDρ hD0 hne hz (by omega) rv fun h' e' H' x' r' hd' => c rows vs h' e' (.refl _) H' x' r' hd'
    show (ks.toArray.zip vs.toArray).map (·.2) = vs.toArray
    apply Array.toList_inj.mp
    rw [Array.toList_map, Array.toList_zip]
    simp only [List.toList_toArray]
    exact List.map_snd_zip (by omega)
  · rw [if_neg h2, if_neg h2]
    rw [List.size_toArray] at h2
    obtain ⟨fs, kt, kl, ki⟩ := keys_tups rk
    refine wpAny_bind (kat_kind (T := .type "int") kt (by omega) (fun v hv => ?_) (by decide) ?_)
    · obtain ⟨i, t, rfl⟩ := ki v hv
      exact Looks.of_pure rfl
    show wpAny _ _ (((sortRuns').run (SortSt.mk' (tuples' true) (ks.toArray.zip vs.toArray) #[] 7 none)) >>= _) _ _ _
    refine wpAny_bind (kat_run (vs := vs) (ks := ks) (G := fun p s' => PermOk rows.length p ∧ s' = s) (Q := fun st s' => ∃ p : Array Nat, PermOk rows.length p ∧ s' = s ∧ arrOf st = p.map (kas_item (ks.toArray.zip vs.toArray)) ∧ failedOf st = none) (by omega) (by omega) (by omega)
      (fun p st' s' a1 a2 a3 a4 => ⟨p, a4.1, a4.2, a2, a3⟩) ?_ |> fun t => wpAny_mono t (fun r s' hr => ?_) fun _ _ x => x)
    · obtain ⟨u, st⟩ := r
      obtain ⟨p, hp, rfl, har, hf⟩ := hr
      have hlt : ∀ i ∈ p.toList, i < rows.length := fun i hi => by
        have := (Array.Perm.mem_iff hp).mp (by simpa using hi)
        simpa using this
      exact sort_tail (rows := p.toList.map fun i => rows.getD i []) (kat_snds (by omega) har) hf H hk hd hkρ hk0 hDρ hD0 hne (by have := (pick_perm hp).length_eq; omega) (by omega) (vrs_pick rv p.toList hlt) fun h' e' H' x' r' hd' => c _ _ h' e' (pick_perm hp) H' x' r' hd'
    · rw [hvl]
      refine good_wp (I := fun s' => s' = s) (n := rows.length) (fun s' hs i j hi hj C hC => ?_) (fun a s' ha hs => ⟨ha, hs⟩) (good_sort (by omega)) rfl
      subst hs
      show wpAny _ _ (keyLt' (tuples' true) _ _) _ _ _
      obtain ⟨x, hx, rx⟩ := rk.get (i := i) (v := keyV rows[i]) (by simp [hi])
      obtain ⟨y, hy, ry⟩ := rk.get (i := j) (v := keyV rows[j]) (by simp [hj])
      have e1 : ks.getD i Value.none = x := by simp [List.getD_eq_getElem?_getD, hx]
      have e2 : ks.getD j Value.none = y := by simp [List.getD_eq_getElem?_getD, hy]
      rw [e1, e2]
      exact sort_lt_rows rx ry hu fun b => hC b _ rfl
end
end
-- AW23
section
open PySem.SeqAt
section
variable {G : Gx} {A : Around} {S : List O} {ρ : List Addr} {s : Shared}

-- a live object joins the store
theorem HS.adopt {h : Heap} {D : Addr} {o : O} (H : HS G ρ S h) (hD : D ∉ ρ) (h0 : G.h₀.get? D = none) (ho : OR G ρ h D o) : HS G (ρ ++ [D]) (S ++ [o]) h := by
  have idx : ∀ (n a : Nat), ρ[n]? = some a → (ρ ++ [D])[n]? = some a := fun n a e => by rw [List.getElem?_append_left (List.getElem?_eq_some_iff.mp e).1]; exact e
  refine ⟨H.base, fun a ha => ?_, ⟨?_, fun p hp => idx _ _ (H.nodup.2 p hp)⟩, by simp [H.len], fun n a b e1 e2 => ?_⟩
  · rcases List.mem_append.mp ha with ha | ha
    · exact H.off a ha
    · rw [List.mem_singleton.mp ha]; exact h0
  · refine List.nodup_append.mpr ⟨H.nodup.1, by simp, fun x hx y hy e => ?_⟩
    rw [List.mem_singleton.mp hy] at e
    exact hD (e ▸ hx)
  · by_cases q : n < ρ.length
    · rw [List.getElem?_append_left q] at e1
      rw [List.getElem?_append_left (H.len ▸ q)] at e2
      exact (H.objs n a b e1 e2).keep idx (fun _ _ t => t) fun _ e => e
    · have hn : n = ρ.length := by
        have := (List.getElem?_eq_some_iff.mp e1).1
        simp at this; omega
      subst hn
      simp at e1
      rw [H.len] at e2
      simp at e2
      subst e1; subst e2
      exact ho.keep idx (fun _ _ t => t) fun _ e => e

theorem sort_tree {kf : Nat} {qf : Addr} {D : Addr} {vs : List Value} {n0 : Nat} {rows : List (List Int)} {P : PySem.Fin → Shared → Prop} {E : Value → Shared → Prop} (hu : A.units < cLine) (hz : rows.length < 64)
    (hqf : ρ[kf]? = some qf) (hfk : ∀ r : List Int, r ∈ rows → AApp G A (.ref kf) [rowV r] S fun v S' => S' = S ∧ v = keyV r) (H : HS G ρ S s.heap) (rv : VRs ρ s.heap (rows.map rowV) vs) (ho : s.heap.get? D = some (seqObj "list" vs.toArray n0)) (hDρ : D ∉ ρ) (hD0 : G.h₀.get? D = none)
    (c : ∀ (rows' : List (List Int)) (vs' : List Value) h' tk' e', rows'.Perm rows → HS G ρ S h' → Ext (fun b => b = D) ρ s.heap ρ h' → VRs ρ h' (rows'.map rowV) vs' → h'.get? D = some (seqObj "list" vs'.toArray e') → P (.done (.ret .none)) { s with heap := h', toks := tk' }) :
    wpAny G.M A (ksk_tree D (.ref qf) false) P E s := by
  have hvl : vs.length = rows.length := by have := rv.length; simpa using this.symm
  have s1 := Heap.SameBut.update s.heap D (Obj.mapSeq fun _ => (#[] : Array Value))
  have ho1 := get?_update_seq ho fun _ => (#[] : Array Value)
  obtain ⟨H1, x1⟩ := H.outer s1 hDρ hD0 (list_notTup ho) ⟨_, ho1⟩
  have rv1 := x1.vrs H (fun b its q => by subst q; exact list_notTup ho its) rv
  unfold ksk_tree
  refine wpAny_bind (listItems_at ho rfl ?_)
  refine wpAny_bind (listUpdate_at ho rfl ?_ (by rw [List.size_toArray, sizeLine_eq]; omega) (Nat.zero_le _))
  refine wpAny_bind (seqEpoch_at ho1 rfl ?_)
  refine wpAny_bind (wpAny_newTuple ?_ (by show vs.length ≤ _; rw [sizeLine_eq]; omega))
  refine wpAny_bind (wpAny_newList ?_ (Nat.zero_le _))
  refine wpAny_holding ?_
  generalize hh1 : s.heap.update D (Obj.mapSeq fun _ => (#[] : Array Value)) = h1 at *
  generalize (if (#[] : Array Value).size == vs.toArray.size then n0 else n0 + 1) = e1 at *
  have H2 := H1.push { cls := .type "tuple", data := .seq vs.toArray.toList.toArray }
  have H3 := H2.push { cls := .type "list", data := .seq ([] : List Value).toArray }
  obtain ⟨fk1, fk2⟩ := H2.fresh
  have k3 : ∀ b o, h1.get? b = some o → ((h1.push { cls := .type "tuple", data := .seq vs.toArray.toList.toArray }).push { cls := .type "list", data := .seq ([] : List Value).toArray }).get? b = some o := fun b o e => Heap.get?_push_of_some _ (Heap.get?_push_of_some _ e)
  have x3 : Ext noX ρ h1 ρ ((h1.push { cls := .type "tuple", data := .seq vs.toArray.toList.toArray }).push { cls := .type "list", data := .seq ([] : List Value).toArray }) := push_ext.trans push_ext
  have rv3 := vrs_grow k3 rv1
  have ho3 := k3 _ _ ho1
  have hkS : ((h1.push { cls := .type "tuple", data := .seq vs.toArray.toList.toArray }).push { cls := .type "list", data := .seq ([] : List Value).toArray }).get? (h1.push { cls := .type "tuple", data := .seq vs.toArray.toList.toArray }).objs.size = some (seqObj "list" ([] : List Value).toArray 0) := Heap.get?_push_size _ rfl
  have hnk : s.heap.get? (h1.push { cls := .type "tuple", data := .seq vs.toArray.toList.toArray }).objs.size = none := (x1.trans (push_ext.weak fun _ => False.elim)).noneOf
  have hnk1 : h1.get? (h1.push { cls := .type "tuple", data := .seq vs.toArray.toList.toArray }).objs.size = none := (push_ext (ρ := ρ) (h := h1)).noneOf
  have hne : D ≠ (h1.push { cls := .type "tuple", data := .seq vs.toArray.toList.toArray }).objs.size := fun q => by rw [← q, ho1] at hnk1; cases hnk1
  generalize (h1.push { cls := .type "tuple", data := .seq vs.toArray.toList.toArray }).objs.size = kS at *
  generalize (h1.push { cls := .type "tuple", data := .seq vs.toArray.toList.toArray }).push { cls := .type "list", data := .seq ([] : List Value).toArray } = h3 at *
  unfold ksk_rest
  refine wpAny_bind (wpAny_rule ?_)
  first
    | rw [List.forIn_toArray]
    | (rw [← Array.forIn_toList]; simp only [List.toList_toArray])
    | rw [← Array.forIn_toList]
  refine wpAny_bind (sort_keys (kS := kS) (s := { s with heap := h3 }) hqf hfk (fun x s' C hx => ?_) fk2 fk1 rows [] vs [] 0 _ H3 rv3 .nil hkS (by simpa using hz) (fun r h => h) fun h4 tk4 ks e4 H4 x4 rk4 hk4 => ?_)
  · refine wpAny_bind (wpAny_attempt (wpAny_mono hx (fun k s'' hk => ?_) fun _ _ x => x.elim))
    exact wpAny_bind (up (wpAny_mono hk (fun _ s3 hc => wpAny_pure ⟨rfl, hc⟩) fun _ _ x => x))
  · have ho4 := x4.pres D _ ho3 hDρ hne
    refine wpAny_bind (listItems_at hk4 rfl ?_)
    refine sort_end (s := { s with heap := h4, toks := tk4 }) hu H4 hk4 ho4 fk1 fk2 hDρ hD0 hne hz (x4.vrs H3 (fun b its q => by subst q; exact list_notTup hkS its) rv3) (by simpa using rk4) fun rows' vs' h5 e5 hp H5 x5 r5 hd5 => ?_
    refine c rows' vs' h5 tk4 e5 hp H5 ?_ r5 hd5
    refine Ext.drop2 (C := kS) ?_ hnk
    exact ((((x1.weak fun b q => .inl q).trans (x3.weak fun _ => False.elim)).trans (x4.weak fun b q => .inr q)).trans x5)

-- sorted(x, key=f) of rows of ints, f gives (len(row), row)
theorem sorted_key {q : Addr} {kf n : Nat} {l : Addr} {rows : List (List Int)} {Q : Value → Shared → Prop} (hu : A.units + 2 < cLine) (hz : rows.length < 64)
    (hqf : ρ[kf]? = some q) (hfk : ∀ r : List Int, r ∈ rows → AApp G A.in1.in1 (.ref kf) [rowV r] S fun v S' => S' = S ∧ v = keyV r) (H : HS G ρ S s.heap) (hl : ρ[n]? = some l) (hS : S[n]? = some (.list (rows.map rowV)))
    (c : ∀ (rows' : List (List Int)) D h' tk', rows'.Perm rows → HS G (ρ ++ [D]) (S ++ [.list (rows'.map rowV)]) h' → Ext noX ρ s.heap (ρ ++ [D]) h' → Q (.ref D) { s with heap := h', toks := tk' }) :
    wpAny G.M A (call (.builtin "sorted") [.ref l] [(Str.ofString "key", .ref q)]) Q noE s := by
  obtain ⟨items, il, vr⟩ := H.objs n l _ hl hS
  have hvl : items.toList.length = rows.length := by have := vr.length; simpa using this.symm
  have hli : s.heap.IsList l items.toList.toArray := by rw [Array.toArray_toList]; exact il.isList
  refine call_function_entry_kw kind_sorted plain_sorted entry_sorted (ksk_s1 _ _) ?_
  unfold Builtin.«sorted»
  refine wpAny_bind (m := checkCount "sorted" 1 1 _) (wpAny_pure ?_)
  refine wpAny_bind (collect_list hli ?_ (by rw [sizeLine_eq]; omega))
  refine wpAny_bind (wpAny_newList ?_ (by rw [sizeLine_eq]; omega))
  have hsz : ((s.heap.push (seqObj "list" #[] 0)).update s.heap.objs.size (Obj.mapSeq (· ++ items.toList.toArray))).objs.size = s.heap.objs.size + 1 := by
    rw [Heap.size_update, size_push']
  have keep : ∀ b o, s.heap.get? b = some o → (((s.heap.push (seqObj "list" #[] 0)).update s.heap.objs.size (Obj.mapSeq (· ++ items.toList.toArray))).push (seqObj "list" items.toList.toArray 0)).get? b = some o := fun b o q => by
    have hlt : b < s.heap.objs.size := Heap.lt_size q
    rw [Heap.get?_push_ne _ _ _ (by rw [hsz]; exact Nat.ne_of_lt (Nat.lt_succ_of_lt hlt)), Heap.get?_update_ne _ _ _ _ (Nat.ne_of_lt hlt), Heap.get?_push_ne _ _ _ (Nat.ne_of_lt hlt)]
    exact q
  have hoL : (((s.heap.push (seqObj "list" #[] 0)).update s.heap.objs.size (Obj.mapSeq (· ++ items.toList.toArray))).push (seqObj "list" items.toList.toArray 0)).get? ((s.heap.push (seqObj "list" #[] 0)).update s.heap.objs.size (Obj.mapSeq (· ++ items.toList.toArray))).objs.size = some (seqObj "list" items.toList.toArray 0) := Heap.get?_push_size _ rfl
  have hn : s.heap.get? ((s.heap.push (seqObj "list" #[] 0)).update s.heap.objs.size (Obj.mapSeq (· ++ items.toList.toArray))).objs.size = none := by
    rw [hsz]
    cases q : s.heap.get? (s.heap.objs.size + 1) with
    | none => rfl
    | some o => exact absurd (Heap.lt_size q) (Nat.not_lt.mpr (Nat.le_succ _))
  show wpAny _ _ _ _ _ { s with heap := ((s.heap.push (seqObj "list" #[] 0)).update s.heap.objs.size (Obj.mapSeq (· ++ items.toList.toArray))).push (seqObj "list" items.toList.toArray 0) }
  generalize ((s.heap.push (seqObj "list" #[] 0)).update s.heap.objs.size (Obj.mapSeq (· ++ items.toList.toArray))).objs.size = D at *
  generalize ((s.heap.push (seqObj "list" #[] 0)).update s.heap.objs.size (Obj.mapSeq (· ++ items.toList.toArray))).push (seqObj "list" items.toList.toArray 0) = h1 at *
  obtain ⟨H1, x1⟩ := grow H keep
  have hDρ : D ∉ ρ := fun hm => by obtain ⟨o, ho⟩ := H.live hm; rw [hn] at ho; cases ho
  have hD0 : G.h₀.get? D = none := by
    cases q : G.h₀.get? D with
    | none => rfl
    | some o => have := H.base D o q; rw [hn] at this; cases this
  refine wpAny_bind (wpAny_holding (wpAny_call_entry_kw slot_list_sort ⟨_, hoL, rfl⟩ entry_list_sort ?body (ksk_l1 _ _)))
  case body =>
    rw [ksk_t1]
    refine sort_tree (s := { s with heap := h1 }) (rows := rows) (by show A.units + 1 + 1 < cLine; omega) hz hqf hfk H1 (vrs_grow keep vr) hoL hDρ hD0 fun rows' vs' h' tk' e' hp H' x' r' hd' => ?_
    refine ⟨_, rfl, wpAny_pure ⟨_, rfl, ?_⟩⟩
    refine c rows' D h' tk' hp (H'.adopt hDρ hD0 ⟨vs'.toArray, ⟨e', hd'⟩, by simpa using r'⟩) ?_
    have e0 : Ext noX ρ s.heap ρ h' := (x1.weak (Y := fun b => b = D) fun _ => False.elim).trans x' |>.drop hn
    exact ⟨⟨[D], rfl, fun a ha => by rw [List.mem_singleton.mp ha]; exact hn⟩, e0.pres, e0.live⟩
end
end
-- AW24
section
open PySem.SeqAt
noncomputable def tabB (pos : Pos) (k : Nat) : O := .raw (fun as => tabObj #[rawInt pos.line, rawInt pos.col, .ref (as.headD 0)]) [k]
structure LamAt (S : List O) (t k : Nat) (oc : Obj) (pos : Pos) (qual : Str) : Prop where
  tab : S[t]? = some (tabB pos k)
  code : S[k]? = some (.raw (fun _ => oc) [])
  record : ∃ vs tq, oc.data = .fields vs ∧ vs[1]? = some (.str qual tq)
noncomputable def LamTab (S : List O) (t : Nat) (pos : Pos) (qual : Str) : Prop := S[t]? = some (.raw (fun _ => tabObj #[]) []) ∨ ∃ k oc, LamAt S t k oc pos qual
noncomputable def lamF (name qual : Str) (params : Arguments) (body : Expr) (scope : Scope) (pm ctv : Value) : List Addr → Obj := fun as => kla_obj name qual params body scope [] pm (as.headD 0) ctv

section
variable {G : Gx} {A : Around} {env : Env} {ls : List (Str × V)} {S : List O} {ρ : List Addr} {s : Shared}

theorem one_id {k : Nat} {as : List Addr} (e : [k].map (fun n => ρ[n]?) = as.map some) : ∃ a, as = [a] ∧ ρ[k]? = some a := by
  cases as with
  | nil => simp at e
  | cons a r =>
    cases r with
    | nil => simp at e; exact ⟨a, rfl, e⟩
    | cons => simp at e
theorem BuiltinsAt.ofTop {h : Heap} {P : Addr} (k : ∀ b o, G.h₀.get? b = some o → h.get? b = some o) (hP : G.h₀.get? P = none) : h.BuiltinsAt G.mg P ∧ mainGlobals ≠ P := by
  obtain ⟨bm, ob, b1, b2, b3, b4, b5, b6⟩ := G.T.bmain
  have hg := G.T.g
  have hbG : bm ≠ mainGlobals := fun q => by
    obtain ⟨o, es, ep, e, hd, _⟩ := hg
    rw [q, e] at b3; cases b3; rw [hd] at b6; cases b6
  refine ⟨⟨bm, ob, b1, b2, hbG, fun q => ?_, k _ _ b3, b4, b5, b6⟩, fun q => ?_⟩
  · rw [q, hP] at b3; cases b3
  · obtain ⟨o, es, ep, e, _⟩ := hg
    rw [q, hP] at e; cases e

-- a lambda without defaults and closure
theorem aLambda {largs : Arguments} {lbody : Expr} {lscope : Scope} {lpos : Pos} {t : Nat} {c P : Addr} {Post : V → List O → Prop} (hge : env.globals = mainGlobals) (hcode : env.code = .ref c) (C : CodeHd G.h₀ c P) (hp : (t, P) ∈ G.pin)
    (hdef : defaultsOf largs env = ([], [])) (hcl : closureFor lscope env = pure []) (hT : LamTab S t lpos (env.qual ++ "<lambda>"))
    (h : ∀ S₁ k oc ctv, (S₁ = S ∨ ∃ oc, S₁ = S.set t (tabB lpos S.length) ++ [.raw (fun _ => oc) []]) → LamAt S₁ t k oc lpos (env.qual ++ "<lambda>") →
      Post (.ref S₁.length) (S₁ ++ [.raw (lamF "<lambda>" (env.qual ++ "<lambda>") largs lbody lscope ((G.mg "__name__").getD .none) ctv) [k]])) :
    AEval G A env (.Lambda largs lbody lscope lpos) ls S Post := by
  intro ρ m cm s Q X cont
  have H := X.H
  have hP := H.nodup.2 _ hp
  have hPm : P ∈ ρ := List.mem_of_getElem? hP
  have hP0 : G.h₀.get? P = none := H.off P hPm
  obtain ⟨hB, hgP⟩ := BuiltinsAt.ofTop (h := s.heap) H.base hP0
  have hg := G.T.g.keeps H.base
  have C' := C.keeps H.base
  rw [arm_eval_Lambda, hdef]
  refine wpAny_bind (wpAny_evalAll_nil (wpAny_bind (wpAny_holding (wpAny_pure ?_))))
  have htl : t < S.length := by
    rcases hT with hT | ⟨k, oc, hT⟩
    · exact (List.getElem?_eq_some_iff.mp hT).1
    · exact (List.getElem?_eq_some_iff.mp hT.tab).1
  rcases hT with hT | ⟨k, oc, hT⟩
  · obtain ⟨as, e0, hPo, _⟩ := H.objs t P _ hP hT
    refine kla_makeFunction (mg := G.mg) hcl hge hg hcode C' hPo trivial rfl hgP hB fun c' ctv h' tk hx hge' hlt hrec htb => ?_
    obtain ⟨c2, oc, vs, tq, e2, hoc, hd, hv⟩ := hrec
    cases e2
    have hnc : s.heap.get? c' = none := by
      cases q : s.heap.get? c' with
      | none => rfl
      | some o => exact absurd (Heap.lt_size q) (Nat.not_lt.mpr hge')
    have hcρ : c' ∉ ρ := fun hm => by obtain ⟨o, ho⟩ := H.live hm; rw [hnc] at ho; cases ho
    have hc0 : G.h₀.get? c' = none := by
      cases q : G.h₀.get? c' with
      | none => rfl
      | some o => have := H.base c' o q; rw [hnc] at this; cases this
    have ntP : ∀ items, ¬ IsTup h' P items := fun items => fields_notTup htb rfl items
    have ntc : ∀ items, ¬ IsTup h' c' items := fun items => fields_notTup hoc hd items
    obtain ⟨H1, x1⟩ := H.setE (o := .raw (fun _ => tabObj (#[] ++ #[rawInt lpos.line, rawInt lpos.col, .ref c'])) []) hP hx ⟨[], rfl, htb, ntP⟩
    have H2 := H1.adopt (o := .raw (fun _ => oc) []) hcρ hc0 ⟨[], rfl, hoc, ntc⟩
    have hP2 : (ρ ++ [c'])[t]? = some P := by rw [List.getElem?_append_left (List.getElem?_eq_some_iff.mp hP).1]; exact hP
    have hk2 : (ρ ++ [c'])[S.length]? = some c' := by rw [← H.len]; simp
    obtain ⟨H3, x3⟩ := H2.setE (o := tabB lpos S.length) hP2 (fun _ _ _ e => e) ⟨[c'], by simp only [List.map_cons, List.map_nil, hk2], htb, ntP⟩
    have eS : (S.set t (.raw (fun _ => tabObj (#[] ++ #[rawInt lpos.line, rawInt lpos.col, .ref c'])) []) ++ [O.raw (fun _ => oc) []]).set t (tabB lpos S.length) = S.set t (tabB lpos S.length) ++ [.raw (fun _ => oc) []] := by
      rw [List.set_append_left _ _ (by simpa using htl), List.set_set]
    rw [eS] at H3
    have x12 : Ext noX ρ s.heap (ρ ++ [c']) h' := ⟨⟨[c'], rfl, fun a ha => by rw [List.mem_singleton.mp ha]; exact hnc⟩, x1.pres, x1.live⟩
    obtain ⟨H4, x4⟩ := H3.alloc (o := kla_obj "<lambda>" (env.qual ++ "<lambda>") largs lbody lscope [] ((G.mg "__name__").getD .none) c' ctv)
      (ob := .raw (lamF "<lambda>" (env.qual ++ "<lambda>") largs lbody lscope ((G.mg "__name__").getD .none) ctv) [S.length])
      ⟨[c'], by simp only [List.map_cons, List.map_nil]; rw [List.getElem?_append_left (List.getElem?_eq_some_iff.mp hk2).1, hk2], Heap.get?_push_size _ rfl, fun items ⟨o, ho, hc, _⟩ => by
        rw [Heap.get?_push_size _ rfl] at ho; cases ho; exact absurd (show Value.type "function" = Value.type "tuple" from hc) (by decide)⟩
    refine cont _ _ _ _ _ _ (h _ S.length oc ctv (.inr ⟨oc, rfl⟩) ⟨?_, ?_, vs, tq, hd, hv⟩) (.ref ?_) H4 (x12.trans x4)
    · rw [List.getElem?_append_left (by simpa using htl), List.getElem?_set_self htl]
    · rw [List.getElem?_append_right (by simp)]; simp
    · rw [← H3.len]; simp
  · obtain ⟨as, e0, hPo, _⟩ := H.objs t P _ hP hT.tab
    obtain ⟨c', rfl, hkc⟩ := one_id e0
    refine kla_makeFunctionHit (mg := G.mg) (cv := .ref c') hcl hge hg hcode C' hPo ?_ ?_ hB fun ctv h' tk hx hge' => ?_
    · exact trivial
    · show codeAmong lpos [rawInt lpos.line, rawInt lpos.col, .ref c'] = _
      simp [codeAmong, rawInt]
    obtain ⟨H1, x1⟩ := grow H hx
    obtain ⟨H4, x4⟩ := H1.alloc (o := kla_obj "<lambda>" (env.qual ++ "<lambda>") largs lbody lscope [] ((G.mg "__name__").getD .none) c' ctv)
      (ob := .raw (lamF "<lambda>" (env.qual ++ "<lambda>") largs lbody lscope ((G.mg "__name__").getD .none) ctv) [k])
      ⟨[c'], by simp only [List.map_cons, List.map_nil]; rw [List.getElem?_append_left (List.getElem?_eq_some_iff.mp hkc).1, hkc], Heap.get?_push_size _ rfl, fun items ⟨o, ho, hc, _⟩ => by
        rw [Heap.get?_push_size _ rfl] at ho; cases ho; exact absurd (show Value.type "function" = Value.type "tuple" from hc) (by decide)⟩
    exact cont _ _ _ _ _ _ (h S k oc ctv (.inl rfl) hT) (.ref (by rw [← H1.len]; simp)) H4 (x1.trans x4)
end
end
-- AW25
section
open PySem.SeqAt
section
variable {G : Gx} {A : Around} {env : Env} {ls : List (Str × V)} {S : List O} {ρ : List Addr} {s : Shared}

-- a call of a lambda of the store
theorem aLamCall {kf k t : Nat} {oc : Obj} {lpos : Pos} {name qual : Str} {params : Arguments} {body : Expr} {scope : Scope} {pm ctv : Value} {args : List V} {P : V → List O → Prop} {ps : List Str} (hS : S[kf]? = some (.raw (lamF name qual params body scope pm ctv) [k])) (hL : LamAt S t k oc lpos qual)
    (hroom : A.depth < recursionLimit) (hlen : ps.length = args.length)
    (hbind : ∀ c (vals : List Value), vals.length = ps.length → bindArgs (kla_fn name qual params body scope [] pm (.ref c) ctv) ⟨vals, []⟩ = pure (ps.zip vals)) (hloc : ∀ x ∈ ps, scope.names.lookup x = some .local) (hnd : ps.Nodup)
    (hcell : ∀ x ∈ scope.names, x.2 ≠ .cell) (hco : scope.isCoroutine = false) (hgen : scope.isGenerator = false) (hk : scope.kind = .function)
    (hb : ∀ c a L, AEval G (A.deeper (envX qual scope L a (.ref c) [])) (envX qual scope L a (.ref c) []) body (ps.zip args) S P) : AApp G A (.ref kf) args S P := by
  intro ρ s vals Q H hv c
  replace hv := VRs.invCons hv; obtain ⟨fval, xs, rfl, rf, rs⟩ := hv
  replace rf := VR.invRef rf; obtain ⟨a, rfl, ha⟩ := rf
  obtain ⟨as, e0, ho, _⟩ := H.objs kf a _ ha hS
  obtain ⟨c', rfl, hkc⟩ := one_id e0
  obtain ⟨as2, e2, hoc, _⟩ := H.objs k c' _ hkc hL.code
  obtain ⟨vs, tq, hd, hv⟩ := hL.record
  have hxs : xs.length = ps.length := by rw [← rs.length, hlen]
  show wpAny G.M A (call (.ref a) xs) Q noE s
  refine wpAny_call (kla_callFunE (fd := kla_fn name qual params body scope [] pm (.ref c') ctv) hroom ho rfl hco hgen rfl ⟨c', oc, vs, tq, rfl, hoc, hd, hv⟩ ?_)
  refine BindsTo.of_eq (hbind c' xs hxs) _ _ _ _ ?_
  refine wpAny_newFunctionEnv hcell (fun y hy => hloc y.1 (List.of_mem_zip hy).1) (fun h₁ hns hsb => ?_) hk
  have hk₁ : ∀ b o, s.heap.get? b = some o → h₁.get? b = some o := fun b o e => hsb.extBut b o (Nat.ne_of_lt (Heap.lt_size e)) (Heap.get?_push_of_some _ e)
  refine ⟨(G.T.nolimit.keeps H.base).keeps hk₁, kla_codeExpr ?_⟩
  obtain ⟨H₁, e₁⟩ := grow H hk₁
  obtain ⟨hLρ, hL0⟩ := H.fresh
  have rs₁ : VRs ρ h₁ args xs := vrs_grow hk₁ rs
  have X₁ : St G (envX qual scope s.heap.objs.size a (.ref c') []) (ps.zip args) S ρ (fun x => (ps.zip xs).reverse.lookup x) (fun _ => none) h₁ :=
    ⟨H₁, ⟨hns, hL0, hLρ, fun x c e => by simp at e, fun x y c e => by simp at e⟩,
      fun x v e => by
        obtain ⟨val, e', r⟩ := lookup_zip_vr ps rs₁ e
        exact ⟨val, r, .inl ⟨hloc x (mem_of_lookup_zip ps _ e), by rw [lookup_zip_reverse ps xs hnd]; exact e'⟩⟩⟩
  refine up (hb c' a s.heap.objs.size ρ _ _ _ _ X₁ fun v S' vv ρ' h' tk' p r H' e => ?_)
  exact c v S' vv ρ' h' tk' p r H' (e₁.trans e)

-- sorted(x, key=lambda ..) of rows
theorem aSortedKey {e ke : Expr} {px kpos pos : Pos} {Post : V → List O → Prop} (ok : EnvOk env) (hx : env.kindOf "sorted" = some .globalImplicit) (hns : nsIn G.K mainGlobals "sorted" = some none) (hbl : bootBuiltins "sorted" = some (.builtin "sorted")) (hu : A.units + 2 < cLine)
    (h : AEval G A env e ls S fun v S₁ => ∃ (n : Nat) (rows : List (List Int)), v = .ref n ∧ rows.length < 64 ∧ AEval G A env ke ls S₁ fun f S₂ => ∃ kf, f = .ref kf ∧ S₂[n]? = some (.list (rows.map rowV)) ∧
      (∀ r : List Int, r ∈ rows → AApp G A.in1.in1 (.ref kf) [rowV r] S₂ fun v S' => S' = S₂ ∧ v = keyV r) ∧ ∀ rows' : List (List Int), rows'.Perm rows → Post (.ref S₂.length) (S₂ ++ [.list (rows'.map rowV)]))
    (he : eval (.Call (.Name "sorted" px) [e] [⟨some "key", ke, kpos⟩] pos) env = (do callWith pos (← eval (.Name "sorted" px) env) [] (backTo pos (starEach [e] env)) (backToKw pos (keywordEach [⟨some "key", ke, kpos⟩] env))) := by rfl)
    (h1 : starEach [e] env = (false, eval e env) :: starEach [] env := by rfl) :
    AEval G A env (.Call (.Name "sorted" px) [e] [⟨some "key", ke, kpos⟩] pos) ls S Post := by
  intro ρ m cm s Q X cont
  rw [he]
  refine wpAny_bind (aBuiltin (P := fun v S₁ => v = .top (.builtin "sorted") ∧ S₁ = S) ok hx hns hbl (by decide) ⟨rfl, rfl⟩ (by decide) ρ m cm s _ X fun fv S₁ fa ρ₁ h₁ t₁ p₁ r₁ H₁ e₁ => ?_)
  obtain ⟨rfl, rfl⟩ := p₁
  (first | (replace r₁ := VR.invInt r₁; obtain ⟨_, rfl⟩ := r₁) | (replace r₁ := VR.invTop r₁; subst r₁) | cases r₁)
  have hplain : ((backTo pos (starEach [e] env)).any (·.1) || (backToKw pos (keywordEach [⟨some "key", ke, kpos⟩] env)).any (·.1.isNone)) = false := by rw [h1]; rfl
  refine callWith_of (P := fun _ => True) hplain (fun _ _ => ⟨.machine, .inr (.inl rfl), Looks.of_pure rfl⟩) (evalArgs_kw2 rfl ?_ h1)
  refine (args_cons (P := fun vs S₁ => ∃ v, vs = [v] ∧ ∃ (n : Nat) (rows : List (List Int)), v = .ref n ∧ rows.length < 64 ∧ AEval G A env ke ls S₁ fun f S₂ => ∃ kf, f = .ref kf ∧ S₂[n]? = some (.list (rows.map rowV)) ∧
      (∀ r : List Int, r ∈ rows → AApp G A.in1.in1 (.ref kf) [rowV r] S₂ fun v S' => S' = S₂ ∧ v = keyV r) ∧ ∀ rows' : List (List Int), rows'.Perm rows → Post (.ref S₂.length) (S₂ ++ [.list (rows'.map rowV)])) (h.mono fun v S₁ q => args_nil ⟨v, rfl, q⟩) h1) ρ₁ m cm _ _ (X.next H₁ e₁) fun vs S₂ as ρ₂ h₂ t₂ p₂ r₂ H₂ e₂ => ?_
  obtain ⟨v, rfl, n, rows, rfl, hz, p⟩ := p₂
  replace r₂ := VRs.invCons r₂; obtain ⟨_, _, rfl, ra, z⟩ := r₂
  (first | (replace z := VRs.invNil z; subst z) | cases z)
  replace ra := VR.invRef ra; obtain ⟨l, rfl, hl⟩ := ra
  refine wpAny_evalAll_cons ?_
  refine wpAny_bind (p ρ₂ m cm _ _ (X.next H₂ (e₁.trans e₂)) fun f S₃ fa ρ₃ h₃ t₃ p₃ r₃ H₃ e₃ => wpAny_bind (wpAny_standAt (wpAny_pure ?_)))
  refine wpAny_evalAll_nil ⟨trivial, ?_⟩
  obtain ⟨kf, rfl, hS, hfk, post⟩ := p₃
  replace r₃ := VR.invRef r₃; obtain ⟨q, rfl, hq⟩ := r₃
  refine sorted_key (s := { s with heap := h₃, toks := t₃ }) hu hz hq hfk H₃ (e₃.idx _ _ hl) hS fun rows' D h' tk' hp H' e' => ?_
  exact cont _ _ _ _ h' tk' (post rows' hp) (.ref (by rw [← H₃.len]; simp)) H' (((e₁.trans e₂).trans e₃).trans e')
end
end
-- AW26
section
open PySem.SeqAt
open AutoSeq1 (wpAny_loadPart')
theorem tuple_ltFirst (l b : Addr) (items items2 : Array Value) (n n2 : Nat) (dd dd2 : Option Addr) (sl sl2 : Array (Option Value)) (e : Nat → Bool) (i0 j0 : Int) (t0 u0 : Tok) (h0 : items[0]? = some (.int i0 t0)) (h0' : items2[0]? = some (.int j0 u0)) (he0 : e 0 = (i0 == j0)) :
    Meets (Builtin.«tuple.__lt__» ⟨[.ref l, .ref b], []⟩)
      (fun A R s => s.heap.get? l = some { cls := .type "tuple", dict := dd, data := .seq items n, slots := sl } ∧ s.heap.get? b = some { cls := .type "tuple", dict := dd2, data := .seq items2 n2, slots := sl2 } ∧
        (∀ j (h1 : j < items.size) (h2 : j < items2.size), EqAt A.in1 s items[j] items2[j] (e j)) ∧ (∀ j (h1 : j < items.size) (h2 : j < items2.size), e j = false → LtB A.in1 s items[j] items2[j]) ∧
        ∀ b, (i0 ≠ j0 → b = decide (i0 < j0)) → R (.ok (.ret (.bool b))) s) :=
  .of_wp fun prog w A R s h => by
    obtain ⟨hp, g, d, tk, os⟩ := s; obtain ⟨hl, hb, he, hlt', h⟩ := h
    have f2 := AutoSeq1.sub_tuple_tuple
    have hZ : (items.toList.zip items2.toList).length = min items.size items2.size := by simp
    have z1 : 0 < items.size := (Array.getElem?_eq_some_iff.mp h0).1
    have z2 : 0 < items2.size := (Array.getElem?_eq_some_iff.mp h0').1
    wp_walk using wpAny_loadPart' hl, wpAny_loadPart' hb, wpAny_forIn_list _ (fun rest b s' => b.1 = none ∧ s' = ⟨hp, g, d, tk, os⟩ ∧ ∃ i, rest = (items.toList.zip items2.toList).drop i ∧ (i = 0 ∨ i0 = j0)) _
    case turn =>
      rintro ⟨y, x⟩ rest b s' ⟨hb', rfl, i, hz, hi0⟩
      have hlt : i < (items.toList.zip items2.toList).length := by
        rcases Nat.lt_or_ge i (items.toList.zip items2.toList).length with h' | h'
        · exact h'
        · rw [List.drop_of_length_le h'] at hz; cases hz
      have hm : i < min items.size items2.size := hZ ▸ hlt
      have h1 : i < items.size := Nat.lt_of_lt_of_le hm (Nat.min_le_left _ _)
      have h2 : i < items2.size := Nat.lt_of_lt_of_le hm (Nat.min_le_right _ _)
      rw [List.drop_eq_getElem_cons hlt] at hz
      injection hz with hyx hrest
      have hy : y = items[i] := by have := congrArg Prod.fst hyx; simpa using this
      have hx : x = items2[i] := by have := congrArg Prod.snd hyx; simpa using this
      subst hy hx
      refine wpAny_bind (he i h1 h2 prog w _ _ ?_)
      cases hy : e i with
      | true =>
        wp_walk
        refine ⟨rfl, rfl, i + 1, hrest, ?_⟩
        rcases hi0 with rfl | hi0
        · right; rw [he0] at hy; simpa using hy
        · exact .inr hi0
      | false =>
        simp only [Bool.not_false, if_true]
        by_cases hi : i = 0
        · subst hi
          have e1 : items[0] = .int i0 t0 := (Array.getElem?_eq_some_iff.mp h0).2
          have e2 : items2[0] = .int j0 u0 := (Array.getElem?_eq_some_iff.mp h0').2
          rw [e1, e2]
          refine wpAny_bind (wpAny_rule (wpAny_bind ?_))
          refine lt_int (a := i0) (b := j0) ?_
          wp_walk
          exact ⟨_, rfl, h _ fun _ => rfl⟩
        · refine wpAny_bind (wpAny_rule (wpAny_bind (hlt' i h1 h2 hy prog w _ _ fun b => ?_)))
          wp_walk
          exact ⟨_, rfl, h b fun q => absurd (hi0.resolve_left hi) q⟩
    case fin =>
      rintro ⟨b1, b2⟩ s' ⟨hb', rfl, i, hz, hi0⟩
      simp only at hb'
      subst hb'
      have hi : i ≠ 0 := by
        rintro rfl
        have := congrArg List.length hz
        simp at this
        omega
      wp_walk
      exact ⟨_, rfl, h _ fun q => absurd (hi0.resolve_left hi) q⟩
    case h => exact ⟨rfl, rfl, 0, rfl, .inl rfl⟩

section
variable {G : Gx} {A : Around} {env : Env} {ls : List (Str × V)} {S : List O} {ρ : List Addr} {s : Shared}
-- x < y of two rows that begin with ints: exact where these differ
theorem c_ltRank {i j : Int} {xs ys : List V} {P : V → List O → Prop} (h : Likes xs ys) (hu : A.units + 1 < cLine) (hp : ∀ b, (i ≠ j → b = decide (i < j)) → P (.bool b) S) : ACmp G A .Lt (.tup (.int i :: xs)) (.tup (.int j :: ys)) S P := by
  intro ρ s vals Q H hvs c
  replace hvs := VRs.invCons hvs; obtain ⟨_, _, rfl, r1, z⟩ := hvs
  replace z := VRs.invCons z; obtain ⟨_, _, rfl, r2, z⟩ := z
  (first | (replace z := VRs.invNil z; subst z) | cases z)
  have hl : Likes (.int i :: xs) (.int j :: ys) := .cons .int h
  replace r1 := VR.invTup r1; obtain ⟨a, its, rfl, t, ra⟩ := r1
  replace r2 := VR.invTup r2; obtain ⟨b, its2, rfl, t2, rb⟩ := r2
  have la : (V.int i :: xs).length = its.size := by simpa using ra.length
  have lb : (V.int j :: ys).length = its2.size := by simpa using rb.length
  obtain ⟨x0, hx0, rx0⟩ := ra.get (i := 0) (v := .int i) rfl
  obtain ⟨y0, hy0, ry0⟩ := rb.get (i := 0) (v := .int j) rfl
  replace rx0 := VR.invInt rx0; obtain ⟨t0, rfl⟩ := rx0
  replace ry0 := VR.invInt ry0; obtain ⟨u0, rfl⟩ := ry0
  have item : ∀ k (h1 : k < its.size) (h2 : k < its2.size), ∃ x y, Like x y ∧ x = (V.int i :: xs).getD k .none ∧ y = (V.int j :: ys).getD k .none ∧ VR ρ s.heap x its[k] ∧ VR ρ s.heap y its2[k] := by
    intro k h1 h2
    have hx : (V.int i :: xs)[k]? = some ((V.int i :: xs)[k]'(by omega)) := List.getElem?_eq_getElem _
    have hy : (V.int j :: ys)[k]? = some ((V.int j :: ys)[k]'(by omega)) := List.getElem?_eq_getElem _
    obtain ⟨xv, hxv, rx⟩ := ra.get hx
    obtain ⟨yv, hyv, ry⟩ := rb.get hy
    have e1 : its[k] = xv := by simpa [h1] using hxv
    have e2 : its2[k] = yv := by simpa [h2] using hyv
    refine ⟨_, _, hl.get hx hy, by rw [List.getD_eq_getElem?_getD, hx]; rfl, by rw [List.getD_eq_getElem?_getD, hy]; rfl, ?_, ?_⟩
    · rw [e1]; exact rx
    · rw [e2]; exact ry
  obtain ⟨⟨cls, dd, data, sl⟩, ho, hc, n, hd⟩ := id t
  obtain ⟨⟨cls2, dd2, data2, sl2⟩, ho2, hc2, n2, hd2⟩ := id t2
  simp only at hc hd hc2 hd2
  subst hc hd hc2 hd2
  show wpAny _ _ (richCompare .Lt (.ref a) (.ref b)) _ _ _
  refine richCompare_meets_room (op := .Lt) ⟨_, ho, rfl⟩ ⟨_, ho2, rfl⟩ F.slot_tuple_lt F.entry_tuple_lt (F.args_tuple_lt_2 _ _)
    (tuple_ltFirst a b its its2 n n2 dd dd2 sl sl2 (fun k => eqF ((V.int i :: xs).getD k .none) ((V.int j :: ys).getD k .none)) i j t0 u0 (by simpa using hx0) (by simpa using hy0) rfl)
    ⟨ho, ho2, fun k h1 h2 => ?_, fun k h1 h2 _ => ?_, fun b hb => ⟨(fun x => nomatch x), c _ S _ ρ s.heap s.toks (hp b hb) .bool H .refl⟩⟩ (by omega)
  · obtain ⟨x, y, hl, e1, e2, rx, ry⟩ := item k h1 h2
    show EqAt _ _ _ _ (eqF _ _)
    rw [← e1, ← e2]
    exact eqF_at hl.flat1 hl.flat2 rx ry (by show A.units + 1 < cLine; exact hu)
  · obtain ⟨x, y, hl, _, _, rx, ry⟩ := item k h1 h2
    exact like_lt hl rx ry (by show A.units + 1 < cLine; exact hu)
end
end
-- AW27
section
open PySem.SeqAt
section
variable {G : Gx} {A : Around} {env : Env} {ls : List (Str × V)} {S : List O}
-- x or y or .. as a value
theorem aOrCons {x y : Expr} {rest : List Expr} {pos : Pos} {P : V → List O → Prop} (h : AEval G A env x ls S fun v S₁ => ATruth G A v S₁ fun b S₂ => if b then S₂ = S₁ ∧ P v S₁ else AEval G A env (.BoolOp .Or (y :: rest) pos) ls S₂ P) : AEval G A env (.BoolOp .Or (x :: y :: rest) pos) ls S P := by
  intro ρ m cm s Q X c
  show wpAny G.M A (do
    let v ← eval x env
    standAt pos
    let t ← holding [v] (truthy v)
    match BoolOp.Or, t with
    | .And, false | .Or, true => pure v
    | _, _ => eval (.BoolOp .Or (y :: rest) pos) env) Q noE s
  refine wpAny_bind (h ρ m cm s _ X fun v S₁ a ρ₁ h₁ t₁ p₁ r₁ H₁ e₁ => ?_)
  refine wpAny_bind (wpAny_standAt (wpAny_bind (wpAny_holding ?_)))
  refine p₁ ρ₁ _ [a] _ H₁ (.cons r₁ .nil) fun b S₂ b' ρ₂ h₂ t₂ p₂ r₂ H₂ e₂ => ?_
  have : b' = b := r₂
  subst this
  cases b' with
  | false => exact p₂ ρ₂ m cm _ Q (X.next H₂ (e₁.trans e₂)) fun b S' a ρ' h' tk' hp hr H' e' => c b S' a ρ' h' tk' hp hr H' ((e₁.trans e₂).trans e')
  | true =>
    obtain ⟨rfl, hp⟩ := p₂
    exact wpAny_pure (c v S₂ a ρ₂ h₂ t₂ hp (e₂.vr H₁ noX_tup r₁) H₂ (e₁.trans e₂))
-- the last of them
theorem aOrLast {x : Expr} {pos : Pos} {P : V → List O → Prop} (h : AEval G A env x ls S P) : AEval G A env (.BoolOp .Or [x] pos) ls S P := h
end
end
-- AW28
section
open PySem.SeqAt
section
variable {G : Gx} {A : Around} {env : Env} {ls : List (Str × V)} {S : List O} {ρ : List Addr} {s : Shared}
theorem collectTup {l : Addr} {vs : List Value} {Q : List Value → Shared → Prop} {E : Value → Shared → Prop} (hl : IsTup s.heap l vs.toArray)
    (h : Q vs { s with heap := (s.heap.push (seqObj "list" #[] 0)).update s.heap.objs.size (Obj.mapSeq (· ++ vs.toArray)) }) (hsz : vs.length ≤ sizeLine) :
    wpAny G.M A (collect (.ref l)) Q E s := by
  obtain ⟨o, ho, hc, n, hd⟩ := id hl
  unfold collect
  refine wpAny_bind (wpAny_runValue (codeAny_builtin entry_proto_collect' ?_))
  show wpAny _ _ (do again (.builtin "list.__iadd__" ⟨[← newList [], .ref l], []⟩)) _ _ s
  refine wpAny_bind (wpAny_newList (wpAny_pure ⟨Code.quiet_builtin _ (by decide +kernel), codeAny_builtin entry_list_iadd' ?_⟩) (Nat.zero_le _))
  show wpAny _ _ (Builtin.List.listExtendWith (.ref s.heap.objs.size) (.ref l) (.ref s.heap.objs.size)) _ _ { s with heap := s.heap.push (seqObj "list" #[] 0) }
  unfold Builtin.List.listExtendWith
  have ho' : (s.heap.push (seqObj "list" #[] 0)).get? l = some o := Heap.get?_push_of_some _ ho
  refine wpAny_bind (wpAny_typeOf (T := "tuple") ⟨o, ho', hc⟩ ?_)
  have ht : (Value.type "tuple" == Value.type "tuple") = true := by rfl
  rw [if_pos (by rw [ht]; simp)]
  refine wpAny_bind (listItems_at ho' hd ?_)
  refine wpAny_bind (listItems_at (xs := #[]) (n := 0) (Heap.get?_push_size _ rfl) rfl ?_)
  rw [if_neg (by simp)]
  refine wpAny_bind (listUpdate_at (xs := #[]) (n := 0) (Heap.get?_push_size _ rfl) rfl ?_ (Nat.zero_le _) (by show (#[] ++ vs.toArray).size ≤ sizeLine + 1; simp only [Array.size_append, List.size_toArray, List.length_nil]; omega))
  refine wpAny_pure ?_
  show wpAny G.M A (do
      let o ← load s.heap.objs.size
      match o.data with
      | .seq xs _ => pure xs.toList
      | _ => unsupported "internal:collect") Q E { s with heap := (s.heap.push (seqObj "list" #[] 0)).update s.heap.objs.size (Obj.mapSeq (· ++ vs.toArray)) }
  refine wpAny_bind (wpAny_load (get?_update_seq (Heap.get?_push_size _ rfl) _) ?_)
  show wpAny _ _ (pure ((#[] : Array Value) ++ vs.toArray).toList) Q E _
  rw [show ((#[] : Array Value) ++ vs.toArray).toList = vs by simp]
  exact wpAny_pure h
theorem sortedTup {l : Addr} {vs : List Value} {ns : List Int} {Q : Value → Shared → Prop} {E : Value → Shared → Prop} (hl : IsTup s.heap l vs.toArray) (hI : IntsAre vs ns) (h64 : vs.length < 64)
    (h : ∀ (out : Array Value) (ns' : List Int), IntsAre out.toList ns' → ns'.Perm ns → ns'.Pairwise (· ≤ ·) → Q (.ref (s.heap.objs.size + 1)) { s with heap := sortedAll s.heap vs out }) :
    wpAny G.M A (call (.builtin "sorted") [.ref l]) Q E s := by
  refine Calls.call_function_entry kind_sorted plain_sorted entry_sorted (args_sorted1 _) ?_
  unfold Builtin.«sorted»
  refine wpAny_bind (m := checkCount "sorted" 1 1 _) (wpAny_pure ?_)
  refine wpAny_bind (collectTup hl ?_ (by rw [sizeLine_eq]; omega))
  refine wpAny_bind (wpAny_newList ?_ (by rw [sizeLine_eq]; omega))
  have hsz : ((s.heap.push (seqObj "list" #[] 0)).update s.heap.objs.size (Obj.mapSeq (· ++ vs.toArray))).objs.size = s.heap.objs.size + 1 := by
    rw [Heap.size_update, size_push']
  have hoL : (((s.heap.push (seqObj "list" #[] 0)).update s.heap.objs.size (Obj.mapSeq (· ++ vs.toArray))).push (seqObj "list" vs.toArray 0)).get? (s.heap.objs.size + 1) = some (seqObj "list" vs.toArray 0) := by
    rw [← hsz]; exact Heap.get?_push_size _ rfl
  show wpAny _ _ _ _ _ { s with heap := ((s.heap.push (seqObj "list" #[] 0)).update s.heap.objs.size (Obj.mapSeq (· ++ vs.toArray))).push (seqObj "list" vs.toArray 0) }
  rw [hsz]
  refine wpAny_bind (wpAny_holding (wpAny_call_entry slot_list_sort ⟨_, hoL, rfl⟩ entry_list_sort (list_sort_tree hoL hI h64 fun out ns' a1 a2 a3 => ⟨_, rfl, ?_⟩) (args_list_sort _)))
  exact wpAny_pure ⟨_, rfl, h out ns' a1 a2 a3⟩
theorem vrs_IntsAre {h : Heap} : ∀ {ns : List Int} {items : List Value}, VRs ρ h (ns.map V.int) items → IntsAre items ns
  | [], _, .nil => .nil
  | n :: ns, _, .cons r z => by cases r; exact .cons n _ (vrs_IntsAre z)
theorem IntsAre_vrs {h : Heap} : ∀ {items : List Value} {ns : List Int}, IntsAre items ns → VRs ρ h (ns.map V.int) items
  | _, _, .nil => .nil
  | _, _, .cons n t z => .cons .int (IntsAre_vrs z)
theorem perm_sorted_eq : ∀ {a b : List Int}, a.Perm b → a.Pairwise (· ≤ ·) → b.Pairwise (· ≤ ·) → a = b
  | [], b, p, _, _ => (List.Perm.nil_eq p)
  | x :: a, [], p, _, _ => by have := p.length_eq; simp at this
  | x :: a, y :: b, p, ha, hb => by
    have hxy : x = y := by
      have h1 : x ∈ y :: b := p.mem_iff.mp (List.mem_cons_self ..)
      have h2 : y ∈ x :: a := p.mem_iff.mpr (List.mem_cons_self ..)
      have ha' := List.pairwise_cons.mp ha
      have hb' := List.pairwise_cons.mp hb
      rcases List.mem_cons.mp h1 with e | h1
      · exact e
      · rcases List.mem_cons.mp h2 with e | h2
        · exact e.symm
        · have := hb'.1 x h1; have := ha'.1 y h2; omega
    subst hxy
    rw [perm_sorted_eq ((List.perm_cons x).mp p) (List.pairwise_cons.mp ha).2 (List.pairwise_cons.mp hb).2]

-- sorted(x) of an ascending tuple of ints
theorem f_sortedT {ns : List Int} {P : V → List O → Prop} (hs : ns.Pairwise (· ≤ ·)) (hz : ns.length < 64) (h : P (.ref S.length) (S ++ [.list (ns.map V.int)])) : AApp G A (.top (.builtin "sorted")) [.tup (ns.map V.int)] S P := by
  intro ρ s vals Q H hvs c
  replace hvs := VRs.invCons hvs; obtain ⟨_, _, rfl, r, z⟩ := hvs
  (first | (replace r := VR.invInt r; obtain ⟨_, rfl⟩ := r) | (replace r := VR.invTop r; subst r) | cases r)
  replace z := VRs.invCons z; obtain ⟨_, _, rfl, r, z⟩ := z
  (first | (replace z := VRs.invNil z; subst z) | cases z)
  replace r := VR.invTup r; obtain ⟨l, items, rfl, it, vr⟩ := r
  have hI := vrs_IntsAre vr
  have hl := vr.length
  refine sortedTup (l := l) (vs := items.toList) (by rw [Array.toArray_toList]; exact it) hI (by simp at hl ⊢; omega) fun out ns' a1 a2 a3 => ?_
  have e : ns' = ns := perm_sorted_eq a2 a3 hs
  subst e
  have keep : ∀ b o, s.heap.get? b = some o → (sortedAll s.heap items.toList out).get? b = some o := fun b o e => sortedAll_old e
  obtain ⟨H₁, e₁⟩ := grow H keep
  obtain ⟨ee, he⟩ := sortedAll_at s.heap items.toList out
  have hn : s.heap.get? (s.heap.objs.size + 1) = none := by
    cases q : s.heap.get? (s.heap.objs.size + 1) with
    | none => rfl
    | some o => exact absurd (Heap.lt_size q) (Nat.not_lt.mpr (Nat.le_succ _))
  have hDρ : s.heap.objs.size + 1 ∉ ρ := fun hm => by obtain ⟨o, ho⟩ := H.live hm; rw [hn] at ho; cases ho
  have hD0 : G.h₀.get? (s.heap.objs.size + 1) = none := by
    cases q : G.h₀.get? (s.heap.objs.size + 1) with
    | none => rfl
    | some o => have := H.base _ o q; rw [hn] at this; cases this
  have H₂ := H₁.adopt (o := .list (ns'.map V.int)) hDρ hD0 ⟨out, ⟨ee, he⟩, IntsAre_vrs a1⟩
  exact c _ _ _ _ _ s.toks h (.ref (by rw [← H.len]; simp)) H₂ ⟨⟨[_], rfl, fun a ha => by rw [List.mem_singleton.mp ha]; exact hn⟩, e₁.pres, e₁.live⟩
end
end
-- AW29
section
open PySem.SeqAt
section
variable {G : Gx} {A : Around} {env : Env} {ls : List (Str × V)} {S : List O} {ρ : List Addr} {s : Shared}
-- x != y of two lists of the same ints
theorem c_neSame {n k : Nat} {xs : List Int} {P : V → List O → Prop} (hu : A.units + 1 < cLine) (hn : S[n]? = some (.list (xs.map V.int))) (hk : S[k]? = some (.list (xs.map V.int))) (h : P (.bool false) S) : ACmp G A .NotEq (.ref n) (.ref k) S P := by
  intro ρ s vals Q H hv c
  replace hv := VRs.invCons hv; obtain ⟨_, _, rfl, r1, z⟩ := hv
  replace z := VRs.invCons z; obtain ⟨_, _, rfl, r2, z⟩ := z
  (first | (replace z := VRs.invNil z; subst z) | cases z)
  replace r1 := VR.invRef r1; obtain ⟨l, rfl, hl⟩ := r1
  replace r2 := VR.invRef r2; obtain ⟨b, rfl, hb⟩ := r2
  obtain ⟨its, il, ra⟩ := H.objs n l _ hl hn
  obtain ⟨its2, il2, rb⟩ := H.objs k b _ hb hk
  have la : xs.length = its.size := by simpa using ra.length
  have lb : xs.length = its2.size := by simpa using rb.length
  have key := RcNeAt.lists (A := A) (s := s) (e := fun _ => true) il.isList il2.isList (by omega) (by omega) (fun j h1 h2 => by
    obtain ⟨xv, hxv, rx⟩ := ra.get (i := j) (v := .int (xs.getD j 0)) (by simp [show j < xs.length by omega])
    obtain ⟨yv, hyv, ry⟩ := rb.get (i := j) (v := .int (xs.getD j 0)) (by simp [show j < xs.length by omega])
    have e1 : its[j] = xv := by simpa [h1] using hxv
    have e2 : its2[j] = yv := by simpa [h2] using hyv
    rw [e1, e2]
    (first | (replace rx := VR.invInt rx; obtain ⟨_, rfl⟩ := rx) | (replace rx := VR.invTop rx; subst rx) | cases rx); (first | (replace ry := VR.invInt ry; obtain ⟨_, rfl⟩ := ry) | (replace ry := VR.invTop ry; subst ry) | cases ry)
    simpa using EqAt.int_int (A := A.in1) (s := s) (xs.getD j 0) _ (xs.getD j 0) _)
  have e0 : (!(List.range its.size).all fun _ => true) = false := by
    rw [List.all_eq_true.mpr fun _ _ => rfl]; rfl
  rw [e0] at key
  exact key _ _ _ _ (c _ S _ ρ s.heap s.toks h .bool H .refl)
end
end
-- AW30
section
open PySem.SeqAt
-- a def of the top, as code
theorem aDefCode {G : Gx} {A : Around} {f : Addr} {args : List V} {S : List O} {P : V → List O → Prop} {ps : List Str} {name qual : Str} {params : Arguments} {body : List Stmt} {scope : Scope} {dV kV doc pm cdv ct oc : Value} {an od : Option Addr}
    {osl : Array (Option Value)} (ho : G.K.lookup f = some ⟨oc, od, .func (fnOf name qual params body scope dV kV doc pm an cdv ct), osl⟩) (hcd : codeIn G.K cdv qual = true) (hroom : A.depth < recursionLimit) (hlen : ps.length = args.length)
    (hbind : ∀ (vals : List Value), vals.length = ps.length → bindArgs (fnOf name qual params body scope dV kV doc pm an cdv ct) ⟨vals, []⟩ = pure (ps.zip vals)) (hloc : ∀ x ∈ ps, scope.names.lookup x = some .local) (hnd : ps.Nodup)
    (hcell : ∀ x ∈ scope.names, x.2 ≠ .cell) (hco : scope.isCoroutine = false) (hgen : scope.isGenerator = false) (hk : scope.kind = .function)
    (hb : ∀ L, AExecs G (A.deeper (envX qual scope L f cdv [])) (envX qual scope L f cdv []) body (ps.zip args) S (retPost P)) {ρ : List Addr} {s : Shared} {xs : List Value} {R : Result → Shared → Prop} (H : HS G ρ S s.heap) (rs : VRs ρ s.heap args xs)
    (c : ∀ v S' x ρ' h' tk', P v S' → VR ρ' h' v x → HS G ρ' S' h' → Ext noX ρ s.heap ρ' h' → R (.ok (.ret x)) { s with heap := h', toks := tk' }) : codeAny G.M A (.call (.ref f) ⟨xs, []⟩) R s := by
  have hxs : xs.length = ps.length := by rw [← rs.length, hlen]
  refine codeAny_call_def (fd := fnOf name qual params body scope dV kV doc pm an cdv ct) (body := body) (binds := ps.zip xs) hroom (H.base _ _ (G.X _ _ ho)) rfl (G.T.nolimit.keeps H.base) (codeRec_of (fun a o e => H.base a o (G.X a o e)) hcd) rfl (.of_eq (hbind xs hxs)) hcell (fun y hy => hloc y.1 (List.of_mem_zip hy).1)
    (fun h₁ hns hk₁ => ?_) hco hgen hk
  obtain ⟨hLρ, hL0⟩ := H.fresh
  obtain ⟨H₁, e₁⟩ := grow H hk₁
  have rs₁ : VRs ρ h₁ args xs := vrs_grow hk₁ rs
  have X₁ : St G (envX qual scope s.heap.objs.size f cdv []) (ps.zip args) S ρ (fun x => (ps.zip xs).reverse.lookup x) (fun _ => none) h₁ :=
    ⟨H₁, ⟨hns, hL0, hLρ, fun x c e => by simp at e, fun x y c e => by simp at e⟩,
      fun x v e => by
        obtain ⟨val, e', r⟩ := lookup_zip_vr ps rs₁ e
        exact ⟨val, r, .inl ⟨hloc x (mem_of_lookup_zip ps _ e), by rw [lookup_zip_reverse ps xs hnd]; exact e'⟩⟩⟩
  refine up (hb s.heap.objs.size ρ _ _ _ _ X₁ fun fl ls' S' fv ρ' m' cm' h' tk' p r X' e => ?_)
  have e₀ : Ext noX ρ s.heap ρ' h' := by
    refine ⟨?_, fun b o k n _ => ?_, fun b o k => e.live b o (hk₁ b o k)⟩
    · obtain ⟨y, hy, hf⟩ := e.pre
      refine ⟨y, hy, fun b hb => ?_⟩
      cases q : s.heap.get? b with
      | none => rfl
      | some o => have := hf b hb; dsimp only at this; rw [hk₁ b o q] at this; cases this
    · refine e.pres b o (hk₁ b o k) n fun q => ?_
      rcases q with q | ⟨y, _, q⟩
      · rw [show b = s.heap.objs.size from q, get_push_none] at k; cases k
      · simp at q
  cases r with
  | ret r => exact c _ S' _ ρ' h' tk' p r X'.H e₀
  | next => exact c _ S' _ ρ' h' tk' p .none X'.H e₀
  | brk => exact c _ S' _ ρ' h' tk' p .none X'.H e₀
  | cont => exact c _ S' _ ρ' h' tk' p .none X'.H e₀
end
-- AW31
section
open PySem.SeqAt
section
variable {G : Gx} {A : Around} {env : Env} {ls : List (Str × V)} {S : List O}
-- a op b op' c as a test
theorem tChain2 {l r₁ r₂ : Expr} {op₁ op₂ : CmpOp} {pos : Pos} {P : Bool → List O → Prop}
    (h : AEval G A env l ls S fun a S₁ => AEval G A env r₁ ls S₁ fun b S₂ => ACmp G A op₁ a b S₂ fun c S₃ => ATruth G A c S₃ fun t S₄ => if t then S₄ = S₂ ∧ AEval G A env r₂ ls S₄ fun d S₅ => ACmp G A op₂ b d S₅ fun e S₆ => ATruth G A e S₆ P else P false S₄)
    (hm : isTrue (.Compare l [op₁, op₂] [r₁, r₂] pos) env (eval (.Compare l [op₁, op₂] [r₁, r₂] pos) env) = (do testChain pos (← eval l env) [op₁, op₂] [eval r₁ env, eval r₂ env]) := by rfl) : ATest G A env (.Compare l [op₁, op₂] [r₁, r₂] pos) ls S P := by
  intro ρ m cm s Q X c
  rw [hm]
  refine wpAny_bind (h ρ m cm s _ X fun a S₁ av ρ₁ h₁ t₁ p₁ ra H₁ e₁ => ?_)
  refine test_link ?_
  refine p₁ ρ₁ m cm _ _ (X.next H₁ e₁) fun b S₂ bv ρ₂ h₂ t₂ p₂ rb H₂ e₂ => ?_
  have X₂ := X.next H₂ (e₁.trans e₂)
  refine p₂ ρ₂ _ [av, bv] _ H₂ (.cons (e₂.vr H₁ noX_tup ra) (.cons rb .nil)) fun cc S₃ cv ρ₃ h₃ t₃ p₃ rc H₃ e₃ => ?_
  refine p₃ ρ₃ _ [cv] _ H₃ (.cons rc .nil) fun t S₄ tv ρ₄ h₄ t₄ p₄ rt H₄ e₄ => ?_
  have : tv = t := rt
  subst this
  have e24 := e₃.trans e₄
  have X₄ := X₂.next H₄ e24
  cases tv with
  | true =>
    obtain ⟨rfl, p⟩ := p₄
    refine test_last ?_
    refine p ρ₄ m cm _ _ X₄ fun d S₅ dv ρ₅ h₅ t₅ p₅ rd H₅ e₅ => ?_
    refine p₅ ρ₅ _ [bv, dv] _ H₅ (.cons ((e24.trans e₅).vr H₂ noX_tup rb) (.cons rd .nil)) fun ee S₆ ev ρ₆ h₆ t₆ p₆ re H₆ e₆ => ?_
    exact p₆ ρ₆ _ [ev] Q H₆ (.cons re .nil) fun b S' a ρ' h' tk' hp hr H' e' => c b S' a ρ' h' tk' hp hr H' (((((e₁.trans e₂).trans e24).trans e₅).trans e₆).trans e')
  | false => exact c false S₄ false ρ₄ h₄ t₄ p₄ rfl H₄ ((e₁.trans e₂).trans e24)
end
end
-- AW32
section
open PySem.SeqAt
section
variable {G : Gx} {A : Around} {env : Env} {ls : List (Str × V)} {S : List O}
-- the function object that a def in a body makes
noncomputable def nestF (name qual : Str) (params : Arguments) (body : List Stmt) (scope : Scope) (clos : List (Str × Addr)) (doc pm ctv : Value) : List Addr → Obj := fun as => fnMade name qual params body scope clos doc pm (as.headD 0) ctv

-- a def in a body, without defaults; its code table is still empty
theorem s_def {name : Str} {params : Arguments} {body : List Stmt} {scope : Scope} {pos : Pos} {t : Nat} {c P : Addr} {clos : List (Str × Addr)} {Post : AFlow → List (Str × V) → List O → Prop} (ok : EnvOk env) (hx : Stored env name) (hcode : env.code = .ref c) (C : CodeHd G.h₀ c P) (hp : (t, P) ∈ G.pin)
    (hd0 : params.defaults = []) (hk0 : params.kw_defaults = []) (ha : annTrees params none env = []) (hcl : closureFor scope env = pure clos) (hT : S[t]? = some (.raw (fun _ => tabObj #[]) []))
    (h : ∀ oc doc ctv, (∃ vs tq, oc.data = .fields vs ∧ vs[1]? = some (.str (qualnameIn env name name) tq)) →
      Post .next (upd ls name (.ref (S.length + 1))) (S.set t (tabB pos S.length) ++ [.raw (fun _ => oc) []] ++ [.raw (nestF name (qualnameIn env name name) params body scope clos doc ((G.mg "__name__").getD .none) ctv) [S.length]])) :
    AExec G A env (.FunctionDef name params body [] none [] scope none name pos) ls S Post := by
  intro ρ m cm s Q X cont
  have H := X.H
  have hP := H.nodup.2 _ hp
  have hPm : P ∈ ρ := List.mem_of_getElem? hP
  have hP0 : G.h₀.get? P = none := H.off P hPm
  obtain ⟨hB, hgP⟩ := BuiltinsAt.ofTop (h := s.heap) H.base hP0
  have hg := G.T.g.keeps H.base
  have C' := C.keeps H.base
  refine nestDef_K hd0 hk0 ha ?_
  have htl : t < S.length := (List.getElem?_eq_some_iff.mp hT).1
  obtain ⟨as, e0, hPo, _⟩ := H.objs t P _ hP hT
  refine makeFunction_K (mg := G.mg) hcl ok.glob hg hcode C' hPo trivial rfl hgP hB fun c' ctv doc h' tk hx' hge' hlt hrec htb => ?_
  obtain ⟨c2, oc, vs, tq, e2, hoc, hd, hv⟩ := hrec
  cases e2
  have hnc : s.heap.get? c' = none := by
    cases q : s.heap.get? c' with
    | none => rfl
    | some o => exact absurd (Heap.lt_size q) (Nat.not_lt.mpr hge')
  have hcρ : c' ∉ ρ := fun hm => by obtain ⟨o, ho⟩ := H.live hm; rw [hnc] at ho; cases ho
  have hc0 : G.h₀.get? c' = none := by
    cases q : G.h₀.get? c' with
    | none => rfl
    | some o => have := H.base c' o q; rw [hnc] at this; cases this
  have ntP : ∀ items, ¬ IsTup h' P items := fun items => fields_notTup htb rfl items
  have ntc : ∀ items, ¬ IsTup h' c' items := fun items => fields_notTup hoc hd items
  obtain ⟨H1, x1⟩ := H.setE (o := .raw (fun _ => tabObj (#[] ++ #[rawInt pos.line, rawInt pos.col, .ref c'])) []) hP hx' ⟨[], rfl, htb, ntP⟩
  have H2 := H1.adopt (o := .raw (fun _ => oc) []) hcρ hc0 ⟨[], rfl, hoc, ntc⟩
  have hP2 : (ρ ++ [c'])[t]? = some P := by rw [List.getElem?_append_left (List.getElem?_eq_some_iff.mp hP).1]; exact hP
  have hk2 : (ρ ++ [c'])[S.length]? = some c' := by rw [← H.len]; simp
  obtain ⟨H3, x3⟩ := H2.setE (o := tabB pos S.length) hP2 (fun _ _ _ e => e) ⟨[c'], by simp only [List.map_cons, List.map_nil, hk2], htb, ntP⟩
  have eS : (S.set t (.raw (fun _ => tabObj (#[] ++ #[rawInt pos.line, rawInt pos.col, .ref c'])) []) ++ [O.raw (fun _ => oc) []]).set t (tabB pos S.length) = S.set t (tabB pos S.length) ++ [.raw (fun _ => oc) []] := by
    rw [List.set_append_left _ _ (by simpa using htl), List.set_set]
  rw [eS] at H3
  have x12 : Ext noX ρ s.heap (ρ ++ [c']) h' := ⟨⟨[c'], rfl, fun a ha => by rw [List.mem_singleton.mp ha]; exact hnc⟩, x1.pres, x1.live⟩
  obtain ⟨H4, x4⟩ := H3.alloc (o := fnMade name (qualnameIn env name name) params body scope clos doc ((G.mg "__name__").getD .none) c' ctv)
    (ob := .raw (nestF name (qualnameIn env name name) params body scope clos doc ((G.mg "__name__").getD .none) ctv) [S.length])
    ⟨[c'], by simp only [List.map_cons, List.map_nil]; rw [List.getElem?_append_left (List.getElem?_eq_some_iff.mp hk2).1, hk2], Heap.get?_push_size _ rfl, fun items ⟨o, ho, hc, _⟩ => by
      rw [Heap.get?_push_size _ rfl] at ho; cases ho; exact absurd (show Value.type "function" = Value.type "tuple" from hc) (by decide)⟩
  have x14 := x12.trans x4
  have X4 := X.next H4 x14
  refine store_ (v := .ref (S.length + 1)) ok hx X4 (.ref ?_) fun m' cm' h2 tk2 X' e' => cont _ _ _ _ _ m' cm' h2 tk2 (h oc doc ctv ⟨vs, tq, hd, hv⟩) .next X' ((x14.weak fun _ => False.elim).trans e')
  have : (ρ ++ [c']).length = S.length + 1 := by simp [H.len]
  rw [← this]; simp
end
section
variable {G : Gx} {A : Around} {S : List O}
-- list(x) of a list of the base
theorem f_listTop {a : Addr} {items : Array Value} {vs : List V} {P : V → List O → Prop} (hb : G.h₀.IsList a items) (hvr : ∀ ρ h, VRs ρ h vs items.toList) (hn : vs.length ≤ 2 ^ 20) (h : P (.ref S.length) (S ++ [.list vs])) : AApp G A (.top (.type "list")) [.top (.ref a)] S P := by
  intro ρ s vals Q H hvs c
  have fin : ∀ (items : Array Value), VRs ρ s.heap vs items.toList → ∀ (h' : Heap) (c' : Nat), (∀ b o', s.heap.get? b = some o' → h'.get? b = some o') → h'.get? s.heap.objs.size = some { cls := .type "list", data := .seq items c' } →
      Q (.ref s.heap.objs.size) { s with heap := h' } := by
    intro items vr h' c' k ho
    obtain ⟨H', e'⟩ := grow H k
    obtain ⟨f1, f2⟩ := H.fresh
    have vr' := vrs_grow k vr
    have idx : ∀ (n a : Nat), ρ[n]? = some a → (ρ ++ [s.heap.objs.size])[n]? = some a := fun n a e => by rw [List.getElem?_append_left (List.getElem?_eq_some_iff.mp e).1]; exact e
    refine c _ _ _ (ρ ++ [s.heap.objs.size]) h' s.toks h (.ref (by rw [← H.len]; simp)) ⟨H'.base, fun a ha => ?_, ?_, by simp [H.len], fun n a b e1 e2 => ?_⟩ ⟨⟨[s.heap.objs.size], rfl, by simp [get_push_none]⟩, fun b o e _ _ => k b o e, fun b o e => ⟨o, k b o e⟩⟩
    · rcases List.mem_append.mp ha with ha | ha
      · exact H.off a ha
      · rw [List.mem_singleton.mp ha]; exact f2
    · refine ⟨List.nodup_append.mpr ⟨H.nodup.1, by simp, fun x hx y hy e => ?_⟩, fun p hp => idx _ _ (H.nodup.2 p hp)⟩
      rw [List.mem_singleton.mp hy] at e
      exact f1 (e ▸ hx)
    · by_cases q : n < ρ.length
      · rw [List.getElem?_append_left q] at e1
        rw [List.getElem?_append_left (H.len ▸ q)] at e2
        exact (H'.objs n a b e1 e2).keep idx (fun _ _ t => t) fun _ e => e
      · have hn : n = ρ.length := by
          have := (List.getElem?_eq_some_iff.mp e1).1
          simp at this; omega
        subst hn
        simp at e1
        rw [H.len] at e2
        simp at e2
        subst e1; subst e2
        exact ⟨items, ⟨c', ho⟩, vr'.mono idx fun _ _ t => t⟩
  replace hvs := VRs.invCons hvs; obtain ⟨_, _, rfl, r, z⟩ := hvs
  (first | (replace r := VR.invInt r; obtain ⟨_, rfl⟩ := r) | (replace r := VR.invTop r; subst r) | cases r)
  replace z := VRs.invCons z; obtain ⟨_, _, rfl, r, z⟩ := z
  (first | (replace z := VRs.invNil z; subst z) | cases z)
  (first | (replace r := VR.invInt r; obtain ⟨_, rfl⟩ := r) | (replace r := VR.invTop r; subst r) | cases r)
  have vr := hvr ρ s.heap
  have hsz : vs.length = items.size := by simpa using vr.length
  obtain ⟨o, ho, hc, m, hd⟩ := hb
  exact call_list_seq a (.inl rfl) (H.base _ _ ho) hc hd (fin items vr) (by rw [← hsz]; exact Nat.le_trans hn (by decide))
end
end
-- Hm
section
noncomputable def stAt (i : Nat) : Stmt := PySem.Challenge.pw_sj0036_01.main.body.getD i (.Pass ⟨0, 0, 0, 0⟩)
noncomputable def stIn (i j : Nat) : Stmt := match stAt i with
  | .ClassDef _ _ _ body _ _ _ _ _ _ _ => body.getD j (.Pass ⟨0, 0, 0, 0⟩)
  | st => st
noncomputable def withFn {α : Type} (st : Stmt) {n : Str} {p : Arguments} {b : List Stmt} {s : Scope} {q : Pos} (h : st = Stmt.FunctionDef n p b [] none [] s none n q) (k : Arguments → List Stmt → Scope → α) : α := k p b s
-- the statements of the top that the walk keeps
noncomputable def hd.view_39 : Program := { PySem.Challenge.pw_sj0036_01 with main := { PySem.Challenge.pw_sj0036_01.main with body := [stAt 0, stAt 2, stAt 3, stAt 4, stAt 5, stAt 6, stAt 8, stAt 9, stAt 11, stAt 12, stAt 13, stAt 14, stAt 15, stAt 17, stAt 19, stAt 20, stAt 21, stAt 22, stAt 23, stAt 24] } }
-- the objects that the top leaves
noncomputable def hd.heap_39 : Params → Frag := fun P => [
  (2, { cls := Value.none, data := Data.dict #[{ hash := PyData.keyHash P (Str.ofString "type.__subclasses__.Exception.0"), key := Value.str (Str.ofString "type.__subclasses__.Exception.0") 290, val := Value.int 74 0 }, { hash := PyData.keyHash P (Str.ofString "type.__subclasses__.Exception.n"), key := Value.str (Str.ofString "type.__subclasses__.Exception.n") 291, val := Value.int 1 0 }] 2 }),
  (3, { cls := Value.type "dict", data := Data.dict #[{ hash := PyData.keyHash P (Str.ofString "__name__"), key := Value.str (Str.ofString "__name__") 165, val := Value.str (Str.ofString "law_sj0036_01") 497 }, { hash := PyData.keyHash P (Str.ofString "__doc__"), key := Value.str (Str.ofString "__doc__") 166, val := Value.none }, { hash := PyData.keyHash P (Str.ofString "__package__"), key := Value.str (Str.ofString "__package__") 167, val := Value.none }, { hash := PyData.keyHash P (Str.ofString "__loader__"), key := Value.str (Str.ofString "__loader__") 168, val := Value.builtin "__main__.__loader__#opaque" }, { hash := PyData.keyHash P (Str.ofString "__spec__"), key := Value.str (Str.ofString "__spec__") 169, val := Value.none }, { hash := PyData.keyHash P (Str.ofString "__annotations__"), key := Value.str (Str.ofString "__annotations__") 170, val := Value.ref 6 }, { hash := PyData.keyHash P (Str.ofString "__builtins__"), key := Value.str (Str.ofString "__builtins__") 171, val := Value.ref 4 }, { hash := PyData.keyHash P (Str.ofString "__file__"), key := Value.str (Str.ofString "__file__") 173, val := Value.str (Str.ofString "/claim/cut.py") 172 }, { hash := PyData.keyHash P (Str.ofString "__cached__"), key := Value.str (Str.ofString "__cached__") 174, val := Value.none }, { hash := PyData.keyHash P (Str.ofString "_wall"), key := Value.str (Str.ofString "_wall") 193, val := Value.ref 21 }, { hash := PyData.keyHash P (Str.ofString "merge_cuts"), key := Value.str (Str.ofString "merge_cuts") 207, val := Value.ref 28 }, { hash := PyData.keyHash P (Str.ofString "within"), key := Value.str (Str.ofString "within") 216, val := Value.ref 35 }, { hash := PyData.keyHash P (Str.ofString "without_dominated"), key := Value.str (Str.ofString "without_dominated") 227, val := Value.ref 42 }, { hash := PyData.keyHash P (Str.ofString "node_cuts"), key := Value.str (Str.ofString "node_cuts") 243, val := Value.ref 49 }, { hash := PyData.keyHash P (Str.ofString "cut_sets"), key := Value.str (Str.ofString "cut_sets") 255, val := Value.ref 56 }, { hash := PyData.keyHash P (Str.ofString "GateloomError"), key := Value.str (Str.ofString "GateloomError") 293, val := Value.ref 74 }, { hash := PyData.keyHash P (Str.ofString "SynthError"), key := Value.str (Str.ofString "SynthError") 309, val := Value.ref 87 }, { hash := PyData.keyHash P (Str.ofString "cut_depth"), key := Value.str (Str.ofString "cut_depth") 317, val := Value.ref 94 }, { hash := PyData.keyHash P (Str.ofString "cut_flow"), key := Value.str (Str.ofString "cut_flow") 327, val := Value.ref 101 }, { hash := PyData.keyHash P (Str.ofString "cover_cuts"), key := Value.str (Str.ofString "cover_cuts") 343, val := Value.ref 108 }, { hash := PyData.keyHash P (Str.ofString "check_size"), key := Value.str (Str.ofString "check_size") 351, val := Value.ref 115 }, { hash := PyData.keyHash P (Str.ofString "lut_cover"), key := Value.str (Str.ofString "lut_cover") 363, val := Value.ref 122 }, { hash := PyData.keyHash P (Str.ofString "Aig"), key := Value.str (Str.ofString "Aig") 496, val := Value.ref 217 }, { hash := PyData.keyHash P (Str.ofString "_law_dealer"), key := Value.str (Str.ofString "_law_dealer") 504, val := Value.ref 226 }, { hash := PyData.keyHash P (Str.ofString "_law_open"), key := Value.str (Str.ofString "_law_open") 516, val := Value.ref 233 }, { hash := PyData.keyHash P (Str.ofString "_law_can_close"), key := Value.str (Str.ofString "_law_can_close") 532, val := Value.ref 240 }, { hash := PyData.keyHash P (Str.ofString "_law_least_depths"), key := Value.str (Str.ofString "_law_least_depths") 543, val := Value.ref 247 }, { hash := PyData.keyHash P (Str.ofString "_law_is_cover"), key := Value.str (Str.ofString "_law_is_cover") 549, val := Value.ref 252 }, { hash := PyData.keyHash P (Str.ofString "law"), key := Value.str (Str.ofString "law") 555, val := Value.ref 257 }] 29 }),
  (15, { cls := Value.type "tuple", data := Data.seq #[] }),
  (17, { cls := Value.type "tuple", data := Data.seq #[Value.str (Str.ofString "k") 190] }),
  (18, { cls := Value.type "tuple", data := Data.seq #[] }),
  (20, { cls := Value.type "code", data := Data.fields #[Value.str (Str.ofString "_wall") 187, Value.str (Str.ofString "_wall") 188, Value.str (Str.ofString "/claim/cut.py") 189, Value.int 1 0, Value.int 1 0, Value.int 0 0, Value.int 0 0, Value.int 3 0, Value.ref 15, Value.bool true, Value.int 181 0, Value.ref 16, Value.none, Value.ref 17, Value.ref 18, Value.ref 19, Value.int 191 0, Value.int 1 0, Value.str (Str.ofString "/claim/cut.py") 192] }),
  (21, withFn (stAt 0) rfl fun ppp bbb sss => { cls := Value.type "function", data := Data.func { name := Str.ofString "_wall", qualname := Str.ofString "_wall", params := ppp, body := FuncBody.stmts bbb, scope := sss, globals := 3, closure := [], defaults := Value.none, kwdefaults := Value.none, pyModule := Value.str (Str.ofString "__main__") 164, code := Value.ref 20 } }),
  (22, { cls := Value.type "tuple", data := Data.seq #[] }),
  (24, { cls := Value.type "tuple", data := Data.seq #[Value.str (Str.ofString "c1") 199, Value.str (Str.ofString "c2") 200, Value.str (Str.ofString "k") 201, Value.str (Str.ofString "merged") 202, Value.str (Str.ofString "i") 203, Value.str (Str.ofString "j") 204] }),
  (25, { cls := Value.type "tuple", data := Data.seq #[] }),
  (27, { cls := Value.type "code", data := Data.fields #[Value.str (Str.ofString "merge_cuts") 196, Value.str (Str.ofString "merge_cuts") 197, Value.str (Str.ofString "/claim/cut.py") 198, Value.int 5 0, Value.int 3 0, Value.int 0 0, Value.int 0 0, Value.int 3 0, Value.ref 22, Value.bool true, Value.int 181 0, Value.ref 23, Value.none, Value.ref 24, Value.ref 25, Value.ref 26, Value.int 205 0, Value.int 5 0, Value.str (Str.ofString "/claim/cut.py") 206] }),
  (28, withFn (stAt 2) rfl fun ppp bbb sss => { cls := Value.type "function", data := Data.func { name := Str.ofString "merge_cuts", qualname := Str.ofString "merge_cuts", params := ppp, body := FuncBody.stmts bbb, scope := sss, globals := 3, closure := [], defaults := Value.none, kwdefaults := Value.none, pyModule := Value.str (Str.ofString "gateloom.cuts") 194, code := Value.ref 27 } }),
  (29, { cls := Value.type "tuple", data := Data.seq #[] }),
  (31, { cls := Value.type "tuple", data := Data.seq #[Value.str (Str.ofString "small") 211, Value.str (Str.ofString "large") 212, Value.str (Str.ofString "node") 213] }),
  (32, { cls := Value.type "tuple", data := Data.seq #[] }),
  (34, { cls := Value.type "code", data := Data.fields #[Value.str (Str.ofString "within") 208, Value.str (Str.ofString "within") 209, Value.str (Str.ofString "/claim/cut.py") 210, Value.int 23 0, Value.int 2 0, Value.int 0 0, Value.int 0 0, Value.int 3 0, Value.ref 29, Value.bool true, Value.int 181 0, Value.ref 30, Value.none, Value.ref 31, Value.ref 32, Value.ref 33, Value.int 214 0, Value.int 23 0, Value.str (Str.ofString "/claim/cut.py") 215] }),
  (35, withFn (stAt 3) rfl fun ppp bbb sss => { cls := Value.type "function", data := Data.func { name := Str.ofString "within", qualname := Str.ofString "within", params := ppp, body := FuncBody.stmts bbb, scope := sss, globals := 3, closure := [], defaults := Value.none, kwdefaults := Value.none, pyModule := Value.str (Str.ofString "gateloom.cuts") 194, code := Value.ref 34 } }),
  (36, { cls := Value.type "tuple", data := Data.seq #[] }),
  (38, { cls := Value.type "tuple", data := Data.seq #[Value.str (Str.ofString "cuts") 220, Value.str (Str.ofString "kept") 221, Value.str (Str.ofString "cut") 222, Value.str (Str.ofString "free") 223, Value.str (Str.ofString "other") 224] }),
  (39, { cls := Value.type "tuple", data := Data.seq #[] }),
  (41, { cls := Value.type "code", data := Data.fields #[Value.str (Str.ofString "without_dominated") 217, Value.str (Str.ofString "without_dominated") 218, Value.str (Str.ofString "/claim/cut.py") 219, Value.int 28 0, Value.int 1 0, Value.int 0 0, Value.int 0 0, Value.int 3 0, Value.ref 36, Value.bool true, Value.int 181 0, Value.ref 37, Value.none, Value.ref 38, Value.ref 39, Value.ref 40, Value.int 225 0, Value.int 28 0, Value.str (Str.ofString "/claim/cut.py") 226] }),
  (42, withFn (stAt 4) rfl fun ppp bbb sss => { cls := Value.type "function", data := Data.func { name := Str.ofString "without_dominated", qualname := Str.ofString "without_dominated", params := ppp, body := FuncBody.stmts bbb, scope := sss, globals := 3, closure := [], defaults := Value.none, kwdefaults := Value.none, pyModule := Value.str (Str.ofString "gateloom.cuts") 194, code := Value.ref 41 } }),
  (43, { cls := Value.type "tuple", data := Data.seq #[] }),
  (45, { cls := Value.type "tuple", data := Data.seq #[Value.str (Str.ofString "node") 231, Value.str (Str.ofString "left") 232, Value.str (Str.ofString "right") 233, Value.str (Str.ofString "k") 234, Value.str (Str.ofString "most") 235, Value.str (Str.ofString "merged") 236, Value.str (Str.ofString "one") 237, Value.str (Str.ofString "other") 238, Value.str (Str.ofString "cut") 239, Value.str (Str.ofString "kept") 240] }),
  (46, { cls := Value.type "tuple", data := Data.seq #[] }),
  (48, { cls := Value.type "code", data := Data.fields #[Value.str (Str.ofString "node_cuts") 228, Value.str (Str.ofString "node_cuts") 229, Value.str (Str.ofString "/claim/cut.py") 230, Value.int 38 0, Value.int 5 0, Value.int 0 0, Value.int 0 0, Value.int 3 0, Value.ref 43, Value.bool true, Value.int 181 0, Value.ref 44, Value.none, Value.ref 45, Value.ref 46, Value.ref 47, Value.int 241 0, Value.int 38 0, Value.str (Str.ofString "/claim/cut.py") 242] }),
  (49, withFn (stAt 5) rfl fun ppp bbb sss => { cls := Value.type "function", data := Data.func { name := Str.ofString "node_cuts", qualname := Str.ofString "node_cuts", params := ppp, body := FuncBody.stmts bbb, scope := sss, globals := 3, closure := [], defaults := Value.none, kwdefaults := Value.none, pyModule := Value.str (Str.ofString "gateloom.cuts") 194, code := Value.ref 48 } }),
  (50, { cls := Value.type "tuple", data := Data.seq #[] }),
  (52, { cls := Value.type "tuple", data := Data.seq #[Value.str (Str.ofString "aig") 247, Value.str (Str.ofString "k") 248, Value.str (Str.ofString "most") 249, Value.str (Str.ofString "rows") 250, Value.str (Str.ofString "node") 251, Value.str (Str.ofString "pair") 252] }),
  (53, { cls := Value.type "tuple", data := Data.seq #[] }),
  (55, { cls := Value.type "code", data := Data.fields #[Value.str (Str.ofString "cut_sets") 244, Value.str (Str.ofString "cut_sets") 245, Value.str (Str.ofString "/claim/cut.py") 246, Value.int 48 0, Value.int 3 0, Value.int 0 0, Value.int 0 0, Value.int 3 0, Value.ref 50, Value.bool true, Value.int 181 0, Value.ref 51, Value.none, Value.ref 52, Value.ref 53, Value.ref 54, Value.int 253 0, Value.int 48 0, Value.str (Str.ofString "/claim/cut.py") 254] }),
  (56, withFn (stAt 6) rfl fun ppp bbb sss => { cls := Value.type "function", data := Data.func { name := Str.ofString "cut_sets", qualname := Str.ofString "cut_sets", params := ppp, body := FuncBody.stmts bbb, scope := sss, globals := 3, closure := [], defaults := Value.none, kwdefaults := Value.none, pyModule := Value.str (Str.ofString "gateloom.cuts") 194, code := Value.ref 55 } }),
  (57, { cls := Value.type "tuple", data := Data.seq #[Value.type "Exception"] }),
  (64, { cls := Value.type "tuple", data := Data.seq #[Value.int (-1) 271, Value.str (Str.ofString "") 272] }),
  (65, { cls := Value.type "tuple", data := Data.seq #[] }),
  (67, { cls := Value.type "tuple", data := Data.seq #[Value.str (Str.ofString "self") 276, Value.str (Str.ofString "kind") 277, Value.str (Str.ofString "at") 278, Value.str (Str.ofString "detail") 279] }),
  (68, { cls := Value.type "tuple", data := Data.seq #[] }),
  (70, { cls := Value.type "code", data := Data.fields #[Value.str (Str.ofString "__init__") 273, Value.str (Str.ofString "GateloomError.__init__") 274, Value.str (Str.ofString "/claim/cut.py") 275, Value.int 60 0, Value.int 4 0, Value.int 0 0, Value.int 0 0, Value.int 3 0, Value.ref 65, Value.bool true, Value.int 181 0, Value.ref 66, Value.none, Value.ref 67, Value.ref 68, Value.ref 69, Value.int 280 0, Value.int 60 0, Value.str (Str.ofString "/claim/cut.py") 281] }),
  (71, withFn (stIn 8 0) rfl fun ppp bbb sss => { cls := Value.type "function", data := Data.func { name := Str.ofString "__init__", qualname := Str.ofString "GateloomError.__init__", params := ppp, body := FuncBody.stmts bbb, scope := sss, globals := 3, closure := [], defaults := Value.ref 64, kwdefaults := Value.none, pyModule := Value.str (Str.ofString "gateloom.errors") 256, code := Value.ref 70 } }),
  (72, { cls := Value.type "tuple", data := Data.seq #[Value.str (Str.ofString "at") 283, Value.str (Str.ofString "detail") 284, Value.str (Str.ofString "kind") 285] }),
  (73, { cls := Value.type "dict", data := Data.dict #[{ hash := PyData.keyHash P (Str.ofString "__module__"), key := Value.str (Str.ofString "__module__") 265, val := Value.str (Str.ofString "gateloom.errors") 256 }, { hash := PyData.keyHash P (Str.ofString "__firstlineno__"), key := Value.str (Str.ofString "__firstlineno__") 269, val := Value.int 58 268 }, { hash := PyData.keyHash P (Str.ofString "__init__"), key := Value.str (Str.ofString "__init__") 282, val := Value.ref 71 }, { hash := PyData.keyHash P (Str.ofString "__static_attributes__"), key := Value.str (Str.ofString "__static_attributes__") 286, val := Value.ref 72 }, { hash := PyData.keyHash P (Str.ofString "__weakref__"), key := Value.str (Str.ofString "__weakref__") 288, val := Value.ref 75 }, { hash := PyData.keyHash P (Str.ofString "__doc__"), key := Value.str (Str.ofString "__doc__") 289, val := Value.none }] 3 }),
  (74, { cls := Value.type "type", data := Data.cls { name := Str.ofString "GateloomError", bases := [Value.type "Exception"], mro := [Value.ref 74, Value.type "Exception", Value.type "BaseException", Value.type "object"], ns := 73, qualname := Str.ofString "GateloomError", subclasses := [Value.ref 87] }, slots := #[some (Value.ref 57), none, some (Value.str (Str.ofString "GateloomError") 258), some (Value.str (Str.ofString "GateloomError") 266), some (Value.builtin "Exception.__new__"), some (Value.bool true)] }),
  (75, { cls := Value.type "getset_descriptor", data := Data.fields #[Value.str (Str.ofString "__weakref__") 287, Value.ref 74, Value.builtin "ExceptionGroup.__weakref__", Value.none] }),
  (78, { cls := Value.type "tuple", data := Data.seq #[Value.ref 74] }),
  (85, { cls := Value.type "tuple", data := Data.seq #[] }),
  (86, { cls := Value.type "dict", data := Data.dict #[{ hash := PyData.keyHash P (Str.ofString "__module__"), key := Value.str (Str.ofString "__module__") 301, val := Value.str (Str.ofString "gateloom.errors") 256 }, { hash := PyData.keyHash P (Str.ofString "__firstlineno__"), key := Value.str (Str.ofString "__firstlineno__") 305, val := Value.int 64 304 }, { hash := PyData.keyHash P (Str.ofString "__static_attributes__"), key := Value.str (Str.ofString "__static_attributes__") 306, val := Value.ref 85 }, { hash := PyData.keyHash P (Str.ofString "__doc__"), key := Value.str (Str.ofString "__doc__") 307, val := Value.none }] 2 }),
  (87, { cls := Value.type "type", data := Data.cls { name := Str.ofString "SynthError", bases := [Value.ref 74], mro := [Value.ref 87, Value.ref 74, Value.type "Exception", Value.type "BaseException", Value.type "object"], ns := 86, qualname := Str.ofString "SynthError" }, slots := #[some (Value.ref 78), none, some (Value.str (Str.ofString "SynthError") 294), some (Value.str (Str.ofString "SynthError") 302), some (Value.builtin "Exception.__new__"), some (Value.bool true)] }),
  (90, { cls := Value.type "tuple", data := Data.seq #[] }),
  (93, { cls := Value.type "code", data := Data.fields #[Value.str (Str.ofString "cut_depth") 312, Value.str (Str.ofString "cut_depth") 313, Value.str (Str.ofString "/claim/cut.py") 314, Value.int 67 0, Value.int 2 0, Value.int 0 0, Value.int 0 0, Value.int 3 0, Value.ref 90, Value.bool true, Value.int 181 0, Value.ref 91, Value.none, Value.none, Value.none, Value.ref 92, Value.int 315 0, Value.int 67 0, Value.str (Str.ofString "/claim/cut.py") 316] }),
  (94, withFn (stAt 11) rfl fun ppp bbb sss => { cls := Value.type "function", data := Data.func { name := Str.ofString "cut_depth", qualname := Str.ofString "cut_depth", params := ppp, body := FuncBody.stmts bbb, scope := sss, globals := 3, closure := [], defaults := Value.none, kwdefaults := Value.none, pyModule := Value.str (Str.ofString "gateloom.lutmap") 310, code := Value.ref 93 } }),
  (95, { cls := Value.type "tuple", data := Data.seq #[] }),
  (97, { cls := Value.type "tuple", data := Data.seq #[Value.str (Str.ofString "flow") 321, Value.str (Str.ofString "cut") 322, Value.str (Str.ofString "total") 323, Value.str (Str.ofString "leaf") 324] }),
  (98, { cls := Value.type "tuple", data := Data.seq #[] }),
  (100, { cls := Value.type "code", data := Data.fields #[Value.str (Str.ofString "cut_flow") 318, Value.str (Str.ofString "cut_flow") 319, Value.str (Str.ofString "/claim/cut.py") 320, Value.int 71 0, Value.int 2 0, Value.int 0 0, Value.int 0 0, Value.int 3 0, Value.ref 95, Value.bool true, Value.int 181 0, Value.ref 96, Value.none, Value.ref 97, Value.ref 98, Value.ref 99, Value.int 325 0, Value.int 71 0, Value.str (Str.ofString "/claim/cut.py") 326] }),
  (101, withFn (stAt 12) rfl fun ppp bbb sss => { cls := Value.type "function", data := Data.func { name := Str.ofString "cut_flow", qualname := Str.ofString "cut_flow", params := ppp, body := FuncBody.stmts bbb, scope := sss, globals := 3, closure := [], defaults := Value.none, kwdefaults := Value.none, pyModule := Value.str (Str.ofString "gateloom.lutmap") 310, code := Value.ref 100 } }),
  (102, { cls := Value.type "tuple", data := Data.seq #[] }),
  (104, { cls := Value.type "tuple", data := Data.seq #[Value.str (Str.ofString "aig") 331, Value.str (Str.ofString "cuts") 332, Value.str (Str.ofString "counts") 333, Value.str (Str.ofString "chosen") 334, Value.str (Str.ofString "depth") 335, Value.str (Str.ofString "flow") 336, Value.str (Str.ofString "node") 337, Value.str (Str.ofString "best") 338, Value.str (Str.ofString "cut") 339, Value.str (Str.ofString "rank") 340] }),
  (105, { cls := Value.type "tuple", data := Data.seq #[] }),
  (107, { cls := Value.type "code", data := Data.fields #[Value.str (Str.ofString "cover_cuts") 328, Value.str (Str.ofString "cover_cuts") 329, Value.str (Str.ofString "/claim/cut.py") 330, Value.int 76 0, Value.int 2 0, Value.int 0 0, Value.int 0 0, Value.int 3 0, Value.ref 102, Value.bool true, Value.int 181 0, Value.ref 103, Value.none, Value.ref 104, Value.ref 105, Value.ref 106, Value.int 341 0, Value.int 76 0, Value.str (Str.ofString "/claim/cut.py") 342] }),
  (108, withFn (stAt 13) rfl fun ppp bbb sss => { cls := Value.type "function", data := Data.func { name := Str.ofString "cover_cuts", qualname := Str.ofString "cover_cuts", params := ppp, body := FuncBody.stmts bbb, scope := sss, globals := 3, closure := [], defaults := Value.none, kwdefaults := Value.none, pyModule := Value.str (Str.ofString "gateloom.lutmap") 310, code := Value.ref 107 } }),
  (109, { cls := Value.type "tuple", data := Data.seq #[] }),
  (111, { cls := Value.type "tuple", data := Data.seq #[Value.str (Str.ofString "k") 347, Value.str (Str.ofString "most") 348] }),
  (112, { cls := Value.type "tuple", data := Data.seq #[] }),
  (114, { cls := Value.type "code", data := Data.fields #[Value.str (Str.ofString "check_size") 344, Value.str (Str.ofString "check_size") 345, Value.str (Str.ofString "/claim/cut.py") 346, Value.int 95 0, Value.int 2 0, Value.int 0 0, Value.int 0 0, Value.int 3 0, Value.ref 109, Value.bool true, Value.int 181 0, Value.ref 110, Value.none, Value.ref 111, Value.ref 112, Value.ref 113, Value.int 349 0, Value.int 95 0, Value.str (Str.ofString "/claim/cut.py") 350] }),
  (115, withFn (stAt 14) rfl fun ppp bbb sss => { cls := Value.type "function", data := Data.func { name := Str.ofString "check_size", qualname := Str.ofString "check_size", params := ppp, body := FuncBody.stmts bbb, scope := sss, globals := 3, closure := [], defaults := Value.none, kwdefaults := Value.none, pyModule := Value.str (Str.ofString "gateloom.lutmap") 310, code := Value.ref 114 } }),
  (116, { cls := Value.type "tuple", data := Data.seq #[] }),
  (118, { cls := Value.type "tuple", data := Data.seq #[Value.str (Str.ofString "aig") 355, Value.str (Str.ofString "k") 356, Value.str (Str.ofString "most") 357, Value.str (Str.ofString "chosen") 358, Value.str (Str.ofString "depth") 359, Value.str (Str.ofString "flow") 360] }),
  (119, { cls := Value.type "tuple", data := Data.seq #[] }),
  (121, { cls := Value.type "code", data := Data.fields #[Value.str (Str.ofString "lut_cover") 352, Value.str (Str.ofString "lut_cover") 353, Value.str (Str.ofString "/claim/cut.py") 354, Value.int 100 0, Value.int 3 0, Value.int 0 0, Value.int 0 0, Value.int 3 0, Value.ref 116, Value.bool true, Value.int 181 0, Value.ref 117, Value.none, Value.ref 118, Value.ref 119, Value.ref 120, Value.int 361 0, Value.int 100 0, Value.str (Str.ofString "/claim/cut.py") 362] }),
  (122, withFn (stAt 15) rfl fun ppp bbb sss => { cls := Value.type "function", data := Data.func { name := Str.ofString "lut_cover", qualname := Str.ofString "lut_cover", params := ppp, body := FuncBody.stmts bbb, scope := sss, globals := 3, closure := [], defaults := Value.none, kwdefaults := Value.none, pyModule := Value.str (Str.ofString "gateloom.lutmap") 310, code := Value.ref 121 } }),
  (130, { cls := Value.type "tuple", data := Data.seq #[] }),
  (132, { cls := Value.type "tuple", data := Data.seq #[Value.str (Str.ofString "self") 381] }),
  (133, { cls := Value.type "tuple", data := Data.seq #[] }),
  (135, { cls := Value.type "code", data := Data.fields #[Value.str (Str.ofString "__init__") 378, Value.str (Str.ofString "Aig.__init__") 379, Value.str (Str.ofString "/claim/cut.py") 380, Value.int 107 0, Value.int 1 0, Value.int 0 0, Value.int 0 0, Value.int 3 0, Value.ref 130, Value.bool true, Value.int 181 0, Value.ref 131, Value.none, Value.ref 132, Value.ref 133, Value.ref 134, Value.int 382 0, Value.int 107 0, Value.str (Str.ofString "/claim/cut.py") 383] }),
  (136, withFn (stIn 17 0) rfl fun ppp bbb sss => { cls := Value.type "function", data := Data.func { name := Str.ofString "__init__", qualname := Str.ofString "Aig.__init__", params := ppp, body := FuncBody.stmts bbb, scope := sss, globals := 3, closure := [], defaults := Value.none, kwdefaults := Value.none, pyModule := Value.str (Str.ofString "gateloom.aig") 364, code := Value.ref 135 } }),
  (137, { cls := Value.type "tuple", data := Data.seq #[] }),
  (139, { cls := Value.type "tuple", data := Data.seq #[Value.str (Str.ofString "self") 388, Value.str (Str.ofString "node") 389] }),
  (140, { cls := Value.type "tuple", data := Data.seq #[] }),
  (142, { cls := Value.type "code", data := Data.fields #[Value.str (Str.ofString "add_input") 385, Value.str (Str.ofString "Aig.add_input") 386, Value.str (Str.ofString "/claim/cut.py") 387, Value.int 113 0, Value.int 1 0, Value.int 0 0, Value.int 0 0, Value.int 3 0, Value.ref 137, Value.bool true, Value.int 181 0, Value.ref 138, Value.none, Value.ref 139, Value.ref 140, Value.ref 141, Value.int 390 0, Value.int 113 0, Value.str (Str.ofString "/claim/cut.py") 391] }),
  (143, withFn (stIn 17 1) rfl fun ppp bbb sss => { cls := Value.type "function", data := Data.func { name := Str.ofString "add_input", qualname := Str.ofString "Aig.add_input", params := ppp, body := FuncBody.stmts bbb, scope := sss, globals := 3, closure := [], defaults := Value.none, kwdefaults := Value.none, pyModule := Value.str (Str.ofString "gateloom.aig") 364, code := Value.ref 142 } }),
  (144, { cls := Value.type "tuple", data := Data.seq #[] }),
  (146, { cls := Value.type "tuple", data := Data.seq #[Value.str (Str.ofString "self") 396, Value.str (Str.ofString "literal") 397] }),
  (147, { cls := Value.type "tuple", data := Data.seq #[] }),
  (149, { cls := Value.type "code", data := Data.fields #[Value.str (Str.ofString "add_output") 393, Value.str (Str.ofString "Aig.add_output") 394, Value.str (Str.ofString "/claim/cut.py") 395, Value.int 119 0, Value.int 2 0, Value.int 0 0, Value.int 0 0, Value.int 3 0, Value.ref 144, Value.bool true, Value.int 181 0, Value.ref 145, Value.none, Value.ref 146, Value.ref 147, Value.ref 148, Value.int 398 0, Value.int 119 0, Value.str (Str.ofString "/claim/cut.py") 399] }),
  (150, withFn (stIn 17 2) rfl fun ppp bbb sss => { cls := Value.type "function", data := Data.func { name := Str.ofString "add_output", qualname := Str.ofString "Aig.add_output", params := ppp, body := FuncBody.stmts bbb, scope := sss, globals := 3, closure := [], defaults := Value.none, kwdefaults := Value.none, pyModule := Value.str (Str.ofString "gateloom.aig") 364, code := Value.ref 149 } }),
  (151, { cls := Value.type "tuple", data := Data.seq #[] }),
  (153, { cls := Value.type "tuple", data := Data.seq #[Value.str (Str.ofString "self") 404, Value.str (Str.ofString "node") 405] }),
  (154, { cls := Value.type "tuple", data := Data.seq #[] }),
  (156, { cls := Value.type "code", data := Data.fields #[Value.str (Str.ofString "is_and") 401, Value.str (Str.ofString "Aig.is_and") 402, Value.str (Str.ofString "/claim/cut.py") 403, Value.int 122 0, Value.int 2 0, Value.int 0 0, Value.int 0 0, Value.int 3 0, Value.ref 151, Value.bool true, Value.int 181 0, Value.ref 152, Value.none, Value.ref 153, Value.ref 154, Value.ref 155, Value.int 406 0, Value.int 122 0, Value.str (Str.ofString "/claim/cut.py") 407] }),
  (157, withFn (stIn 17 3) rfl fun ppp bbb sss => { cls := Value.type "function", data := Data.func { name := Str.ofString "is_and", qualname := Str.ofString "Aig.is_and", params := ppp, body := FuncBody.stmts bbb, scope := sss, globals := 3, closure := [], defaults := Value.none, kwdefaults := Value.none, pyModule := Value.str (Str.ofString "gateloom.aig") 364, code := Value.ref 156 } }),
  (158, { cls := Value.type "tuple", data := Data.seq #[] }),
  (160, { cls := Value.type "tuple", data := Data.seq #[Value.str (Str.ofString "self") 412, Value.str (Str.ofString "l") 413, Value.str (Str.ofString "r") 414, Value.str (Str.ofString "node") 415] }),
  (161, { cls := Value.type "tuple", data := Data.seq #[] }),
  (163, { cls := Value.type "code", data := Data.fields #[Value.str (Str.ofString "land") 409, Value.str (Str.ofString "Aig.land") 410, Value.str (Str.ofString "/claim/cut.py") 411, Value.int 125 0, Value.int 3 0, Value.int 0 0, Value.int 0 0, Value.int 3 0, Value.ref 158, Value.bool true, Value.int 181 0, Value.ref 159, Value.none, Value.ref 160, Value.ref 161, Value.ref 162, Value.int 416 0, Value.int 125 0, Value.str (Str.ofString "/claim/cut.py") 417] }),
  (164, withFn (stIn 17 4) rfl fun ppp bbb sss => { cls := Value.type "function", data := Data.func { name := Str.ofString "land", qualname := Str.ofString "Aig.land", params := ppp, body := FuncBody.stmts bbb, scope := sss, globals := 3, closure := [], defaults := Value.none, kwdefaults := Value.none, pyModule := Value.str (Str.ofString "gateloom.aig") 364, code := Value.ref 163 } }),
  (165, { cls := Value.type "tuple", data := Data.seq #[] }),
  (167, { cls := Value.type "tuple", data := Data.seq #[Value.str (Str.ofString "self") 422, Value.str (Str.ofString "l") 423, Value.str (Str.ofString "r") 424] }),
  (168, { cls := Value.type "tuple", data := Data.seq #[] }),
  (170, { cls := Value.type "code", data := Data.fields #[Value.str (Str.ofString "lor") 419, Value.str (Str.ofString "Aig.lor") 420, Value.str (Str.ofString "/claim/cut.py") 421, Value.int 139 0, Value.int 3 0, Value.int 0 0, Value.int 0 0, Value.int 3 0, Value.ref 165, Value.bool true, Value.int 181 0, Value.ref 166, Value.none, Value.ref 167, Value.ref 168, Value.ref 169, Value.int 425 0, Value.int 139 0, Value.str (Str.ofString "/claim/cut.py") 426] }),
  (171, withFn (stIn 17 5) rfl fun ppp bbb sss => { cls := Value.type "function", data := Data.func { name := Str.ofString "lor", qualname := Str.ofString "Aig.lor", params := ppp, body := FuncBody.stmts bbb, scope := sss, globals := 3, closure := [], defaults := Value.none, kwdefaults := Value.none, pyModule := Value.str (Str.ofString "gateloom.aig") 364, code := Value.ref 170 } }),
  (172, { cls := Value.type "tuple", data := Data.seq #[] }),
  (174, { cls := Value.type "tuple", data := Data.seq #[Value.str (Str.ofString "self") 431, Value.str (Str.ofString "l") 432, Value.str (Str.ofString "r") 433] }),
  (175, { cls := Value.type "tuple", data := Data.seq #[] }),
  (177, { cls := Value.type "code", data := Data.fields #[Value.str (Str.ofString "lxor") 428, Value.str (Str.ofString "Aig.lxor") 429, Value.str (Str.ofString "/claim/cut.py") 430, Value.int 142 0, Value.int 3 0, Value.int 0 0, Value.int 0 0, Value.int 3 0, Value.ref 172, Value.bool true, Value.int 181 0, Value.ref 173, Value.none, Value.ref 174, Value.ref 175, Value.ref 176, Value.int 434 0, Value.int 142 0, Value.str (Str.ofString "/claim/cut.py") 435] }),
  (178, withFn (stIn 17 6) rfl fun ppp bbb sss => { cls := Value.type "function", data := Data.func { name := Str.ofString "lxor", qualname := Str.ofString "Aig.lxor", params := ppp, body := FuncBody.stmts bbb, scope := sss, globals := 3, closure := [], defaults := Value.none, kwdefaults := Value.none, pyModule := Value.str (Str.ofString "gateloom.aig") 364, code := Value.ref 177 } }),
  (179, { cls := Value.type "tuple", data := Data.seq #[] }),
  (181, { cls := Value.type "tuple", data := Data.seq #[Value.str (Str.ofString "self") 440, Value.str (Str.ofString "s") 441, Value.str (Str.ofString "a") 442, Value.str (Str.ofString "b") 443] }),
  (182, { cls := Value.type "tuple", data := Data.seq #[] }),
  (184, { cls := Value.type "code", data := Data.fields #[Value.str (Str.ofString "lmux") 437, Value.str (Str.ofString "Aig.lmux") 438, Value.str (Str.ofString "/claim/cut.py") 439, Value.int 145 0, Value.int 4 0, Value.int 0 0, Value.int 0 0, Value.int 3 0, Value.ref 179, Value.bool true, Value.int 181 0, Value.ref 180, Value.none, Value.ref 181, Value.ref 182, Value.ref 183, Value.int 444 0, Value.int 145 0, Value.str (Str.ofString "/claim/cut.py") 445] }),
  (185, withFn (stIn 17 7) rfl fun ppp bbb sss => { cls := Value.type "function", data := Data.func { name := Str.ofString "lmux", qualname := Str.ofString "Aig.lmux", params := ppp, body := FuncBody.stmts bbb, scope := sss, globals := 3, closure := [], defaults := Value.none, kwdefaults := Value.none, pyModule := Value.str (Str.ofString "gateloom.aig") 364, code := Value.ref 184 } }),
  (186, { cls := Value.type "tuple", data := Data.seq #[] }),
  (188, { cls := Value.type "tuple", data := Data.seq #[Value.str (Str.ofString "self") 450] }),
  (189, { cls := Value.type "tuple", data := Data.seq #[] }),
  (191, { cls := Value.type "code", data := Data.fields #[Value.str (Str.ofString "levels") 447, Value.str (Str.ofString "Aig.levels") 448, Value.str (Str.ofString "/claim/cut.py") 449, Value.int 148 0, Value.int 1 0, Value.int 0 0, Value.int 0 0, Value.int 3 0, Value.ref 186, Value.bool true, Value.int 181 0, Value.ref 187, Value.none, Value.ref 188, Value.ref 189, Value.ref 190, Value.int 451 0, Value.int 148 0, Value.str (Str.ofString "/claim/cut.py") 452] }),
  (192, withFn (stIn 17 8) rfl fun ppp bbb sss => { cls := Value.type "function", data := Data.func { name := Str.ofString "levels", qualname := Str.ofString "Aig.levels", params := ppp, body := FuncBody.stmts bbb, scope := sss, globals := 3, closure := [], defaults := Value.none, kwdefaults := Value.none, pyModule := Value.str (Str.ofString "gateloom.aig") 364, code := Value.ref 191 } }),
  (193, { cls := Value.type "tuple", data := Data.seq #[] }),
  (195, { cls := Value.type "tuple", data := Data.seq #[Value.str (Str.ofString "self") 457, Value.str (Str.ofString "rows") 458, Value.str (Str.ofString "node") 459, Value.str (Str.ofString "pair") 460, Value.str (Str.ofString "literal") 461] }),
  (196, { cls := Value.type "tuple", data := Data.seq #[] }),
  (198, { cls := Value.type "code", data := Data.fields #[Value.str (Str.ofString "users") 454, Value.str (Str.ofString "Aig.users") 455, Value.str (Str.ofString "/claim/cut.py") 456, Value.int 151 0, Value.int 1 0, Value.int 0 0, Value.int 0 0, Value.int 3 0, Value.ref 193, Value.bool true, Value.int 181 0, Value.ref 194, Value.none, Value.ref 195, Value.ref 196, Value.ref 197, Value.int 462 0, Value.int 151 0, Value.str (Str.ofString "/claim/cut.py") 463] }),
  (199, withFn (stIn 17 9) rfl fun ppp bbb sss => { cls := Value.type "function", data := Data.func { name := Str.ofString "users", qualname := Str.ofString "Aig.users", params := ppp, body := FuncBody.stmts bbb, scope := sss, globals := 3, closure := [], defaults := Value.none, kwdefaults := Value.none, pyModule := Value.str (Str.ofString "gateloom.aig") 364, code := Value.ref 198 } }),
  (200, { cls := Value.type "tuple", data := Data.seq #[] }),
  (202, { cls := Value.type "tuple", data := Data.seq #[Value.str (Str.ofString "self") 468, Value.str (Str.ofString "counts") 469, Value.str (Str.ofString "pair") 470, Value.str (Str.ofString "literal") 471] }),
  (203, { cls := Value.type "tuple", data := Data.seq #[] }),
  (205, { cls := Value.type "code", data := Data.fields #[Value.str (Str.ofString "uses") 465, Value.str (Str.ofString "Aig.uses") 466, Value.str (Str.ofString "/claim/cut.py") 467, Value.int 161 0, Value.int 1 0, Value.int 0 0, Value.int 0 0, Value.int 3 0, Value.ref 200, Value.bool true, Value.int 181 0, Value.ref 201, Value.none, Value.ref 202, Value.ref 203, Value.ref 204, Value.int 472 0, Value.int 161 0, Value.str (Str.ofString "/claim/cut.py") 473] }),
  (206, withFn (stIn 17 10) rfl fun ppp bbb sss => { cls := Value.type "function", data := Data.func { name := Str.ofString "uses", qualname := Str.ofString "Aig.uses", params := ppp, body := FuncBody.stmts bbb, scope := sss, globals := 3, closure := [], defaults := Value.none, kwdefaults := Value.none, pyModule := Value.str (Str.ofString "gateloom.aig") 364, code := Value.ref 205 } }),
  (207, { cls := Value.type "tuple", data := Data.seq #[Value.int 1 475] }),
  (208, { cls := Value.type "tuple", data := Data.seq #[] }),
  (210, { cls := Value.type "tuple", data := Data.seq #[Value.str (Str.ofString "self") 479, Value.str (Str.ofString "words") 480, Value.str (Str.ofString "mask") 481] }),
  (211, { cls := Value.type "tuple", data := Data.seq #[] }),
  (213, { cls := Value.type "code", data := Data.fields #[Value.str (Str.ofString "value") 476, Value.str (Str.ofString "Aig.value") 477, Value.str (Str.ofString "/claim/cut.py") 478, Value.int 171 0, Value.int 3 0, Value.int 0 0, Value.int 0 0, Value.int 3 0, Value.ref 208, Value.bool true, Value.int 181 0, Value.ref 209, Value.none, Value.ref 210, Value.ref 211, Value.ref 212, Value.int 482 0, Value.int 171 0, Value.str (Str.ofString "/claim/cut.py") 483] }),
  (214, withFn (stIn 17 11) rfl fun ppp bbb sss => { cls := Value.type "function", data := Data.func { name := Str.ofString "value", qualname := Str.ofString "Aig.value", params := ppp, body := FuncBody.stmts bbb, scope := sss, globals := 3, closure := [], defaults := Value.ref 207, kwdefaults := Value.none, pyModule := Value.str (Str.ofString "gateloom.aig") 364, code := Value.ref 213 } }),
  (215, { cls := Value.type "tuple", data := Data.seq #[Value.str (Str.ofString "inputs") 485, Value.str (Str.ofString "nodes") 486, Value.str (Str.ofString "outputs") 487, Value.str (Str.ofString "table") 488] }),
  (216, { cls := Value.type "dict", data := Data.dict #[{ hash := PyData.keyHash P (Str.ofString "__module__"), key := Value.str (Str.ofString "__module__") 373, val := Value.str (Str.ofString "gateloom.aig") 364 }, { hash := PyData.keyHash P (Str.ofString "__firstlineno__"), key := Value.str (Str.ofString "__firstlineno__") 377, val := Value.int 105 376 }, { hash := PyData.keyHash P (Str.ofString "__init__"), key := Value.str (Str.ofString "__init__") 384, val := Value.ref 136 }, { hash := PyData.keyHash P (Str.ofString "add_input"), key := Value.str (Str.ofString "add_input") 392, val := Value.ref 143 }, { hash := PyData.keyHash P (Str.ofString "add_output"), key := Value.str (Str.ofString "add_output") 400, val := Value.ref 150 }, { hash := PyData.keyHash P (Str.ofString "is_and"), key := Value.str (Str.ofString "is_and") 408, val := Value.ref 157 }, { hash := PyData.keyHash P (Str.ofString "land"), key := Value.str (Str.ofString "land") 418, val := Value.ref 164 }, { hash := PyData.keyHash P (Str.ofString "lor"), key := Value.str (Str.ofString "lor") 427, val := Value.ref 171 }, { hash := PyData.keyHash P (Str.ofString "lxor"), key := Value.str (Str.ofString "lxor") 436, val := Value.ref 178 }, { hash := PyData.keyHash P (Str.ofString "lmux"), key := Value.str (Str.ofString "lmux") 446, val := Value.ref 185 }, { hash := PyData.keyHash P (Str.ofString "levels"), key := Value.str (Str.ofString "levels") 453, val := Value.ref 192 }, { hash := PyData.keyHash P (Str.ofString "users"), key := Value.str (Str.ofString "users") 464, val := Value.ref 199 }, { hash := PyData.keyHash P (Str.ofString "uses"), key := Value.str (Str.ofString "uses") 474, val := Value.ref 206 }, { hash := PyData.keyHash P (Str.ofString "value"), key := Value.str (Str.ofString "value") 484, val := Value.ref 214 }, { hash := PyData.keyHash P (Str.ofString "__static_attributes__"), key := Value.str (Str.ofString "__static_attributes__") 489, val := Value.ref 215 }, { hash := PyData.keyHash P (Str.ofString "__dict__"), key := Value.str (Str.ofString "__dict__") 491, val := Value.ref 218 }, { hash := PyData.keyHash P (Str.ofString "__weakref__"), key := Value.str (Str.ofString "__weakref__") 493, val := Value.ref 219 }, { hash := PyData.keyHash P (Str.ofString "__doc__"), key := Value.str (Str.ofString "__doc__") 494, val := Value.none }] 4 }),
  (217, { cls := Value.type "type", data := Data.cls { name := Str.ofString "Aig", bases := [Value.type "object"], mro := [Value.ref 217, Value.type "object"], ns := 216, qualname := Str.ofString "Aig" }, slots := #[none, none, some (Value.str (Str.ofString "Aig") 366), some (Value.str (Str.ofString "Aig") 374), some (Value.builtin "object.__new__"), some (Value.bool true)] }),
  (218, { cls := Value.type "getset_descriptor", data := Data.fields #[Value.str (Str.ofString "__dict__") 490, Value.ref 217, Value.builtin "function.__dict__", Value.builtin "function.__dict__#set"] }),
  (219, { cls := Value.type "getset_descriptor", data := Data.fields #[Value.str (Str.ofString "__weakref__") 492, Value.ref 217, Value.builtin "ExceptionGroup.__weakref__", Value.none] }),
  (222, { cls := Value.type "tuple", data := Data.seq #[] }),
  (225, { cls := Value.type "code", data := Data.fields #[Value.str (Str.ofString "_law_dealer") 499, Value.str (Str.ofString "_law_dealer") 500, Value.str (Str.ofString "/claim/cut.py") 501, Value.int 174 0, Value.int 1 0, Value.int 0 0, Value.int 0 0, Value.int 3 0, Value.ref 222, Value.bool true, Value.int 181 0, Value.ref 223, Value.none, Value.none, Value.none, Value.ref 224, Value.int 502 0, Value.int 174 0, Value.str (Str.ofString "/claim/cut.py") 503] }),
  (226, withFn (stAt 19) rfl fun ppp bbb sss => { cls := Value.type "function", data := Data.func { name := Str.ofString "_law_dealer", qualname := Str.ofString "_law_dealer", params := ppp, body := FuncBody.stmts bbb, scope := sss, globals := 3, closure := [], defaults := Value.none, kwdefaults := Value.none, pyModule := Value.str (Str.ofString "law_sj0036_01") 497, code := Value.ref 225 } }),
  (227, { cls := Value.type "tuple", data := Data.seq #[] }),
  (229, { cls := Value.type "tuple", data := Data.seq #[Value.str (Str.ofString "pairs") 508, Value.str (Str.ofString "node") 509, Value.str (Str.ofString "barred") 510, Value.str (Str.ofString "free") 511, Value.str (Str.ofString "lower_node") 512, Value.str (Str.ofString "pair") 513] }),
  (230, { cls := Value.type "tuple", data := Data.seq #[] }),
  (232, { cls := Value.type "code", data := Data.fields #[Value.str (Str.ofString "_law_open") 505, Value.str (Str.ofString "_law_open") 506, Value.str (Str.ofString "/claim/cut.py") 507, Value.int 192 0, Value.int 3 0, Value.int 0 0, Value.int 0 0, Value.int 3 0, Value.ref 227, Value.bool true, Value.int 181 0, Value.ref 228, Value.none, Value.ref 229, Value.ref 230, Value.ref 231, Value.int 514 0, Value.int 192 0, Value.str (Str.ofString "/claim/cut.py") 515] }),
  (233, withFn (stAt 20) rfl fun ppp bbb sss => { cls := Value.type "function", data := Data.func { name := Str.ofString "_law_open", qualname := Str.ofString "_law_open", params := ppp, body := FuncBody.stmts bbb, scope := sss, globals := 3, closure := [], defaults := Value.none, kwdefaults := Value.none, pyModule := Value.str (Str.ofString "law_sj0036_01") 497, code := Value.ref 232 } }),
  (234, { cls := Value.type "tuple", data := Data.seq #[] }),
  (236, { cls := Value.type "tuple", data := Data.seq #[Value.str (Str.ofString "pairs") 520, Value.str (Str.ofString "depths") 521, Value.str (Str.ofString "level") 522, Value.str (Str.ofString "node") 523, Value.str (Str.ofString "left") 524, Value.str (Str.ofString "barred") 525, Value.str (Str.ofString "free") 526, Value.str (Str.ofString "step") 527, Value.str (Str.ofString "one") 528, Value.str (Str.ofString "other") 529] }),
  (237, { cls := Value.type "tuple", data := Data.seq #[] }),
  (239, { cls := Value.type "code", data := Data.fields #[Value.str (Str.ofString "_law_can_close") 517, Value.str (Str.ofString "_law_can_close") 518, Value.str (Str.ofString "/claim/cut.py") 519, Value.int 199 0, Value.int 6 0, Value.int 0 0, Value.int 0 0, Value.int 3 0, Value.ref 234, Value.bool true, Value.int 181 0, Value.ref 235, Value.none, Value.ref 236, Value.ref 237, Value.ref 238, Value.int 530 0, Value.int 199 0, Value.str (Str.ofString "/claim/cut.py") 531] }),
  (240, withFn (stAt 21) rfl fun ppp bbb sss => { cls := Value.type "function", data := Data.func { name := Str.ofString "_law_can_close", qualname := Str.ofString "_law_can_close", params := ppp, body := FuncBody.stmts bbb, scope := sss, globals := 3, closure := [], defaults := Value.none, kwdefaults := Value.none, pyModule := Value.str (Str.ofString "law_sj0036_01") 497, code := Value.ref 239 } }),
  (241, { cls := Value.type "tuple", data := Data.seq #[] }),
  (243, { cls := Value.type "tuple", data := Data.seq #[Value.str (Str.ofString "pairs") 536, Value.str (Str.ofString "k") 537, Value.str (Str.ofString "depths") 538, Value.str (Str.ofString "node") 539, Value.str (Str.ofString "level") 540] }),
  (244, { cls := Value.type "tuple", data := Data.seq #[] }),
  (246, { cls := Value.type "code", data := Data.fields #[Value.str (Str.ofString "_law_least_depths") 533, Value.str (Str.ofString "_law_least_depths") 534, Value.str (Str.ofString "/claim/cut.py") 535, Value.int 213 0, Value.int 2 0, Value.int 0 0, Value.int 0 0, Value.int 3 0, Value.ref 241, Value.bool true, Value.int 181 0, Value.ref 242, Value.none, Value.ref 243, Value.ref 244, Value.ref 245, Value.int 541 0, Value.int 213 0, Value.str (Str.ofString "/claim/cut.py") 542] }),
  (247, withFn (stAt 22) rfl fun ppp bbb sss => { cls := Value.type "function", data := Data.func { name := Str.ofString "_law_least_depths", qualname := Str.ofString "_law_least_depths", params := ppp, body := FuncBody.stmts bbb, scope := sss, globals := 3, closure := [], defaults := Value.none, kwdefaults := Value.none, pyModule := Value.str (Str.ofString "law_sj0036_01") 497, code := Value.ref 246 } }),
  (248, { cls := Value.type "tuple", data := Data.seq #[] }),
  (251, { cls := Value.type "code", data := Data.fields #[Value.str (Str.ofString "_law_is_cover") 544, Value.str (Str.ofString "_law_is_cover") 545, Value.str (Str.ofString "/claim/cut.py") 546, Value.int 223 0, Value.int 3 0, Value.int 0 0, Value.int 0 0, Value.int 3 0, Value.ref 248, Value.bool true, Value.int 181 0, Value.ref 249, Value.none, Value.none, Value.none, Value.ref 250, Value.int 547 0, Value.int 223 0, Value.str (Str.ofString "/claim/cut.py") 548] }),
  (252, withFn (stAt 23) rfl fun ppp bbb sss => { cls := Value.type "function", data := Data.func { name := Str.ofString "_law_is_cover", qualname := Str.ofString "_law_is_cover", params := ppp, body := FuncBody.stmts bbb, scope := sss, globals := 3, closure := [], defaults := Value.none, kwdefaults := Value.none, pyModule := Value.str (Str.ofString "law_sj0036_01") 497, code := Value.ref 251 } }),
  (253, { cls := Value.type "tuple", data := Data.seq #[] }),
  (256, { cls := Value.type "code", data := Data.fields #[Value.str (Str.ofString "law") 550, Value.str (Str.ofString "law") 551, Value.str (Str.ofString "/claim/cut.py") 552, Value.int 242 0, Value.int 1 0, Value.int 0 0, Value.int 0 0, Value.int 3 0, Value.ref 253, Value.bool true, Value.int 181 0, Value.ref 254, Value.none, Value.none, Value.none, Value.ref 255, Value.int 553 0, Value.int 242 0, Value.str (Str.ofString "/claim/cut.py") 554] }),
  (257, withFn (stAt 24) rfl fun ppp bbb sss => { cls := Value.type "function", data := Data.func { name := Str.ofString "law", qualname := Str.ofString "law", params := ppp, body := FuncBody.stmts bbb, scope := sss, globals := 3, closure := [], defaults := Value.none, kwdefaults := Value.none, pyModule := Value.str (Str.ofString "law_sj0036_01") 497, code := Value.ref 256 } })]
noncomputable abbrev hdRow : RowW := OpenRow.toRowW (OpenLaw.row PySem.Challenge.rw_sj0036_01)
noncomputable abbrev hdAs : List Addr := [2, 3, 15, 17, 18, 20, 21, 22, 24, 25, 27, 28, 29, 31, 32, 34, 35, 36, 38, 39, 41, 42, 43, 45, 46, 48, 49, 50, 52, 53, 55, 56, 57, 64, 65, 67, 68, 70, 71, 72, 73, 74, 75, 78, 85, 86, 87, 90, 93, 94, 95, 97, 98, 100, 101, 102, 104, 105, 107, 108, 109, 111, 112, 114, 115, 116, 118, 119, 121, 122, 130, 132, 133, 135, 136, 137, 139, 140, 142, 143, 144, 146, 147, 149, 150, 151, 153, 154, 156, 157, 158, 160, 161, 163, 164, 165, 167, 168, 170, 171, 172, 174, 175, 177, 178, 179, 181, 182, 184, 185, 186, 188, 189, 191, 192, 193, 195, 196, 198, 199, 200, 202, 203, 205, 206, 207, 208, 210, 211, 213, 214, 215, 216, 217, 218, 219, 222, 225, 226, 227, 229, 230, 232, 233, 234, 236, 237, 239, 240, 241, 243, 244, 246, 247, 248, 251, 252, 253, 256, 257]
theorem hdAs_eq : ∀ P, ([2, 3, 15, 17, 18, 20, 21, 22, 24, 25, 27, 28, 29, 31, 32, 34, 35, 36, 38, 39, 41, 42, 43, 45, 46, 48, 49, 50, 52, 53, 55, 56, 57, 64, 65, 67, 68, 70, 71, 72, 73, 74, 75, 78, 85, 86, 87, 90, 93, 94, 95, 97, 98, 100, 101, 102, 104, 105, 107, 108, 109, 111, 112, 114, 115, 116, 118, 119, 121, 122, 130, 132, 133, 135, 136, 137, 139, 140, 142, 143, 144, 146, 147, 149, 150, 151, 153, 154, 156, 157, 158, 160, 161, 163, 164, 165, 167, 168, 170, 171, 172, 174, 175, 177, 178, 179, 181, 182, 184, 185, 186, 188, 189, 191, 192, 193, 195, 196, 198, 199, 200, 202, 203, 205, 206, 207, 208, 210, 211, 213, 214, 215, 216, 217, 218, 219, 222, 225, 226, 227, 229, 230, 232, 233, 234, 236, 237, 239, 240, 241, 243, 244, 246, 247, 248, 251, 252, 253, 256, 257] : List Addr) = (hd.heap_39 P).map (·.1) := fun P => by kernel_rfl
theorem left : LeftO hdRow.prog hd.view_39 [Str.ofString "GateloomError"] (fun s => xlAt hd.view_39 [] s && recOk (RowW.records hdRow) s) (Hook.obs (kmHook hd.heap_39 hdAs hdAs_eq [223, 37])) (Hook.val (kmHook hd.heap_39 hdAs hdAs_eq [223, 37])) 3384 := fun w => by
  delta openEnds fencedOpening topFrom
  rw [PySem.W.Fast.te14082659384304107361, PySem.W.Fast.te10274390034422433532, PySem.W.Fast.te14364793385576792824, PySem.W.Fast.te1435165496053646825, PySem.W.Fast.te14289696077712309145, PySem.W.Fast.te4187177175401517315]
  kernel_rfl
end
-- Ws
section
theorem ws : OpenLaw.wellSaid PySem.Challenge.rw_sj0036_01 = true := by
  rw [PySem.W.Fast.te9446332074065402090]
  kernel_rfl
end
-- F1
section
noncomputable abbrev KK (G : Gx) : Prop := G.K = hd.heap_39 G.w.params

theorem iteB {b : Bool} {X Y : Prop} (h1 : b = true → X) (h2 : b = false → Y) : if b then X else Y := by
  cases b with
  | true => exact h1 rfl
  | false => exact h2 rfl

section
variable {G : Gx} {A : Around} {env : Env} {ls : List (Str × V)} {S : List O}
theorem aB {x : Str} {pos : Pos} {v : Value} {P : V → List O → Prop} (hK : KK G) (ok : EnvOk env) (hx : env.kindOf x = some .globalImplicit) (e : ∀ p, nsIn (hd.heap_39 p) mainGlobals x = some none) (hv : bootBuiltins x = some v) (hn : x ≠ "__name__")
    (h : P (.top v) S) (hd : (x == ("__debug__" : Str)) = false) : AEval G A env (.Name x pos) ls S P := aBuiltin ok hx (by rw [hK]; exact e _) hv hn h hd
-- a call of a built-in by its name with one argument
theorem aCallB {x : Str} {px pos : Pos} {v : Value} {args : List Expr} {P : V → List O → Prop} (hK : KK G) (ok : EnvOk env) (hx : env.kindOf x = some .globalImplicit) (e : ∀ p, nsIn (hd.heap_39 p) mainGlobals x = some none) (hv : bootBuiltins x = some v) (hn : x ≠ "__name__")
    (hd : (x == ("__debug__" : Str)) = false) (hr : ∀ a, v ≠ .ref a)
    (h : AArgs G A env pos args ls S fun vs S₂ => AApp G A (.top v) vs S₂ P)
    (he : eval (.Call (.Name x px) args [] pos) env = (do callWith pos (← eval (.Name x px) env) [] (backTo pos (starEach args env)) []) := by rfl)
    (hp : (backTo pos (starEach args env)).any (·.1) = false := by rfl) : AEval G A env (.Call (.Name x px) args [] pos) ls S P :=
  aCall (aB hK ok hx e hv hn (h.mono fun vs S' q => ⟨keep_plain hr, q⟩) hd) he hp
theorem nsLen (p : Params) : nsIn (hd.heap_39 p) mainGlobals "len" = some none := by kernel_rfl
theorem nsTuple (p : Params) : nsIn (hd.heap_39 p) mainGlobals "tuple" = some none := by kernel_rfl
theorem nsList (p : Params) : nsIn (hd.heap_39 p) mainGlobals "list" = some none := by kernel_rfl
theorem nsRange (p : Params) : nsIn (hd.heap_39 p) mainGlobals "range" = some none := by kernel_rfl
theorem nsMax (p : Params) : nsIn (hd.heap_39 p) mainGlobals "max" = some none := by kernel_rfl
theorem nsMin (p : Params) : nsIn (hd.heap_39 p) mainGlobals "min" = some none := by kernel_rfl
theorem nsSum (p : Params) : nsIn (hd.heap_39 p) mainGlobals "sum" = some none := by kernel_rfl
theorem nsAbs (p : Params) : nsIn (hd.heap_39 p) mainGlobals "abs" = some none := by kernel_rfl
theorem nsInt (p : Params) : nsIn (hd.heap_39 p) mainGlobals "int" = some none := by kernel_rfl
theorem nsSorted (p : Params) : nsIn (hd.heap_39 p) mainGlobals "sorted" = some none := by kernel_rfl
theorem nsIsinstance (p : Params) : nsIn (hd.heap_39 p) mainGlobals "isinstance" = some none := by kernel_rfl
theorem blLen : bootBuiltins "len" = some (.builtin "len") := by boot_fast
theorem blTuple : bootBuiltins "tuple" = some (.type "tuple") := by boot_fast
theorem blList : bootBuiltins "list" = some (.type "list") := by boot_fast
theorem blMax : bootBuiltins "max" = some (.builtin "max") := by boot_fast
theorem blMin : bootBuiltins "min" = some (.builtin "min") := by boot_fast
theorem blSum : bootBuiltins "sum" = some (.builtin "sum") := by boot_fast
theorem blAbs : bootBuiltins "abs" = some (.builtin "abs") := by boot_fast
theorem blInt : bootBuiltins "int" = some (.type "int") := by boot_fast
theorem blSorted : bootBuiltins "sorted" = some (.builtin "sorted") := by boot_fast
theorem blIsinstance : bootBuiltins "isinstance" = some (.builtin "isinstance") := by boot_fast

theorem aLen {px pos : Pos} {e : Expr} {P : V → List O → Prop} (hK : KK G) (ok : EnvOk env) (hx : env.kindOf "len" = some .globalImplicit)
    (h : AEval G A env e ls S fun v S₁ => ∃ vs, SeqV v S₁ vs ∧ vs.length < 2 ^ 60 ∧ P (.int vs.length) S₁) (h1 : starEach [e] env = (false, eval e env) :: starEach [] env := by rfl)
    (he : eval (.Call (.Name "len" px) [e] [] pos) env = (do callWith pos (← eval (.Name "len" px) env) [] (backTo pos (starEach [e] env)) []) := by rfl)
    (hp : (backTo pos (starEach [e] env)).any (·.1) = false := by rfl) : AEval G A env (.Call (.Name "len" px) [e] [] pos) ls S P :=
  aCallB hK ok hx nsLen blLen (by decide) (by decide) (by intro a e; cases e) (args_cons (h.mono fun v S' ⟨vs, a, b, q⟩ => args_nil (f_len a b q)) h1) he hp
theorem aTupleOf {px pos : Pos} {e : Expr} {P : V → List O → Prop} (hK : KK G) (ok : EnvOk env) (hx : env.kindOf "tuple" = some .globalImplicit)
    (h : AEval G A env e ls S fun v S₁ => ∃ n vs, v = .ref n ∧ S₁[n]? = some (.list vs) ∧ vs.length ≤ 2 ^ 20 ∧ P (.tup vs) S₁) (h1 : starEach [e] env = (false, eval e env) :: starEach [] env := by rfl)
    (he : eval (.Call (.Name "tuple" px) [e] [] pos) env = (do callWith pos (← eval (.Name "tuple" px) env) [] (backTo pos (starEach [e] env)) []) := by rfl)
    (hp : (backTo pos (starEach [e] env)).any (·.1) = false := by rfl) : AEval G A env (.Call (.Name "tuple" px) [e] [] pos) ls S P :=
  aCallB hK ok hx nsTuple blTuple (by decide) (by decide) (by intro a e; cases e) (args_cons (h.mono fun v S' ⟨n, vs, a, b, c, q⟩ => args_nil (a ▸ f_tuple b c q)) h1) he hp
theorem aListOf {px pos : Pos} {e : Expr} {P : V → List O → Prop} (hK : KK G) (ok : EnvOk env) (hx : env.kindOf "list" = some .globalImplicit)
    (h : AEval G A env e ls S fun v S₁ => ∃ vs, SeqV v S₁ vs ∧ vs.length ≤ 2 ^ 20 ∧ P (.ref S₁.length) (S₁ ++ [.list vs])) (h1 : starEach [e] env = (false, eval e env) :: starEach [] env := by rfl)
    (he : eval (.Call (.Name "list" px) [e] [] pos) env = (do callWith pos (← eval (.Name "list" px) env) [] (backTo pos (starEach [e] env)) []) := by rfl)
    (hp : (backTo pos (starEach [e] env)).any (·.1) = false := by rfl) : AEval G A env (.Call (.Name "list" px) [e] [] pos) ls S P :=
  aCallB hK ok hx nsList blList (by decide) (by decide) (by intro a e; cases e) (args_cons (h.mono fun v S' ⟨vs, a, b, q⟩ => args_nil (f_list a b q)) h1) he hp
end
end
-- F2
section
noncomputable def seqPost (G : Gx) (A : Around) (env : Env) (sts : List Stmt) (P : AFlow → List (Str × V) → List O → Prop) : AFlow → List (Str × V) → List O → Prop
  | .next, ls, S => AExecs G A env sts ls S P
  | .brk, ls, S => P .brk ls S
  | .cont, ls, S => P .cont ls S
  | .ret v, ls, S => P (.ret v) ls S
section
variable {G : Gx} {A : Around} {env : Env} {ls : List (Str × V)} {S : List O}
theorem x_seq {st : Stmt} {sts : List Stmt} {P : AFlow → List (Str × V) → List O → Prop} (h : AExec G A env st ls S (seqPost G A env sts P)) : AExecs G A env (st :: sts) ls S P := x_cons (h.mono fun f l S' q => by cases f <;> exact q)
theorem seq_next {sts : List Stmt} {P : AFlow → List (Str × V) → List O → Prop} (h : AExecs G A env sts ls S P) : seqPost G A env sts P .next ls S := h
theorem seq_ret {sts : List Stmt} {v : V} {P : AFlow → List (Str × V) → List O → Prop} (h : P (.ret v) ls S) : seqPost G A env sts P (.ret v) ls S := h
theorem seq_cont {sts : List Stmt} {P : AFlow → List (Str × V) → List O → Prop} (h : P .cont ls S) : seqPost G A env sts P .cont ls S := h
theorem loop_ret {P : AFlow → List (Str × V) → List O → Prop} {I : List (Str × V) → List O → Prop} {v : V} (h : P (.ret v) ls S) : loopPost P I (.ret v) ls S := h
theorem loop_nextG {P : AFlow → List (Str × V) → List O → Prop} {I I9 : Nat → List (Str × V) → List O → Prop} {i : Nat} (hI : ∀ i l S', I i l S' → I9 i l S') (h : ∃ ls₃, SubL ls₃ ls ∧ I i ls₃ S) : loopPost P (I9 i) .next ls S := let ⟨l, a, b⟩ := h; ⟨l, a, hI _ _ _ b⟩
theorem loop_contG {P : AFlow → List (Str × V) → List O → Prop} {I I9 : Nat → List (Str × V) → List O → Prop} {i : Nat} (hI : ∀ i l S', I i l S' → I9 i l S') (h : ∃ ls₃, SubL ls₃ ls ∧ I i ls₃ S) : loopPost P (I9 i) .cont ls S := let ⟨l, a, b⟩ := h; ⟨l, a, hI _ _ _ b⟩
theorem loop_nextW {P : AFlow → List (Str × V) → List O → Prop} {I I9 : Nat → List (Str × V) → List O → Prop} {n : Nat} (hI : ∀ i l S', I i l S' → I9 i l S') (h : ∃ ls₃, SubL ls₃ ls ∧ ∃ m, m < n ∧ I m ls₃ S) : loopPost P (fun l s => ∃ m, m < n ∧ I9 m l s) .next ls S := let ⟨l, a, m, b, c⟩ := h; ⟨l, a, m, b, hI _ _ _ c⟩
theorem retP {Post P : V → List O → Prop} {v : V} (hP : ∀ v S', Post v S' → P v S') (h : Post v S) : P v S := hP v S h
theorem AApp.gen {f : V} {args : List V} {Post : V → List O → Prop} (h : ∀ P : V → List O → Prop, (∀ v S', Post v S' → P v S') → AApp G A f args S P) : AApp G A f args S Post := h Post fun _ _ x => x
theorem AExecs.gen {sts : List Stmt} {Post : V → List O → Prop} (h : ∀ P : V → List O → Prop, (∀ v S', Post v S' → P v S') → AExecs G A env sts ls S (retPost P)) : AExecs G A env sts ls S (retPost Post) := h Post fun _ _ x => x
theorem ret_ret {P : V → List O → Prop} {v : V} (h : P v S) : retPost P (.ret v) ls S := h
end

theorem iteT {X Y : Prop} (h : X) : if true then X else Y := h
theorem iteF {X Y : Prop} (h : Y) : if false then X else Y := h
theorem iteD {p : Prop} [Decidable p] {X Y : Prop} (h1 : p → X) (h2 : ¬ p → Y) : if decide p = true then X else Y := by
  by_cases h : p
  · rw [if_pos (decide_eq_true h)]; exact h1 h
  · rw [if_neg (by simpa using h)]; exact h2 h
theorem iteE {a b : Int} {X Y : Prop} (h1 : a = b → X) (h2 : a ≠ b → Y) : if (a == b) = true then X else Y := by
  by_cases h : a = b
  · rw [if_pos (by simpa using h)]; exact h1 h
  · rw [if_neg (by simpa using h)]; exact h2 h
noncomputable abbrev bn (x : String) (v : V) : Str × V := (Str.ofString x, v)
noncomputable abbrev ivs (xs : List Int) : List V := xs.map V.int
theorem list_at_end {S : List O} {o : O} : (S ++ [o])[S.length]? = some o := by simp
theorem set_at_end {S : List O} {o o' : O} : (S ++ [o]).set S.length o' = S ++ [o'] := by simp

noncomputable def LenIs (v : V) (S : List O) (K : Nat → Prop) : Prop := ∃ vs, SeqV v S vs ∧ vs.length < 2 ^ 60 ∧ K vs.length
noncomputable def ItemIs (v i : V) (S : List O) (K : V → Prop) : Prop := ∃ (vs : List V) (k : Int) (j : Nat) (x : V), SeqV v S vs ∧ i = .int k ∧ vs[j]? = some x ∧ (k = j ∨ (k < 0 ∧ k + vs.length = j)) ∧ vs.length < 2 ^ 60 ∧ K x
noncomputable def RefIs (v : V) (S : List O) (K : Nat → Prop) : Prop := ∃ n, v = .ref n ∧ (∃ vs, S[n]? = some (.list vs)) ∧ K n
noncomputable def PutIs (n : Nat) (x : V) (S : List O) (K : List O → Prop) : Prop := ∃ vs, S[n]? = some (.list vs) ∧ vs.length ≤ 2 ^ 20 ∧ K (S.set n (.list (vs ++ [x])))
noncomputable def TupOf (v : V) (S : List O) (K : V → Prop) : Prop := ∃ n vs, v = .ref n ∧ S[n]? = some (.list vs) ∧ vs.length ≤ 2 ^ 20 ∧ K (.tup vs)
section
variable {G : Gx} {A : Around} {env : Env} {ls : List (Str × V)} {S : List O}
theorem wLenT {xs : List Int} {K : Nat → Prop} (hb : xs.length ≤ 1000) (h : K xs.length) : LenIs (V.tup (ivs xs)) S K := ⟨ivs xs, .inl rfl, by simp; omega, by simpa using h⟩
theorem wLenL {n : Nat} {vs : List V} {K : Nat → Prop} (hS : S[n]? = some (.list vs)) (hb : vs.length ≤ 100000) (h : K vs.length) : LenIs (V.ref n) S K := ⟨vs, .inr ⟨n, rfl, hS⟩, by omega, h⟩
theorem wItT {xs : List Int} {i : Nat} {K : V → Prop} (hi : i < xs.length) (hb : xs.length ≤ 1000) (h : K (.int xs[i])) : ItemIs (V.tup (ivs xs)) (.int i) S K :=
  ⟨ivs xs, i, i, .int xs[i], .inl rfl, rfl, by simp [hi], .inl rfl, by simp; omega, h⟩
theorem wItV {v : V} {vs : List V} {i : Nat} {x : V} {K : V → Prop} (hv : SeqV v S vs) (hx : vs[i]? = some x) (hb : vs.length ≤ 100000) (h : K x) : ItemIs v (.int i) S K :=
  ⟨vs, i, i, x, hv, rfl, hx, .inl rfl, by omega, h⟩
theorem wItN {v : V} {vs : List V} {k : Int} {j : Nat} {x : V} {K : V → Prop} (hv : SeqV v S vs) (hk : k < 0) (hj : k + vs.length = j) (hx : vs[j]? = some x) (hb : vs.length ≤ 100000) (h : K x) : ItemIs v (.int k) S K :=
  ⟨vs, k, j, x, hv, rfl, hx, .inr ⟨hk, hj⟩, by omega, h⟩
theorem wRef {n : Nat} {vs : List V} {K : Nat → Prop} (hS : S[n]? = some (.list vs)) (h : K n) : RefIs (V.ref n) S K := ⟨n, rfl, ⟨vs, hS⟩, h⟩
theorem wPut {n : Nat} {x : V} {vs : List V} {K : List O → Prop} (hS : S[n]? = some (.list vs)) (hb : vs.length ≤ 100000) (h : K (S.set n (.list (vs ++ [x])))) : PutIs n x S K := ⟨vs, hS, by omega, h⟩
theorem wTup {n : Nat} {vs : List V} {K : V → Prop} (hS : S[n]? = some (.list vs)) (hb : vs.length ≤ 100000) (h : K (.tup vs)) : TupOf (V.ref n) S K := ⟨n, vs, rfl, hS, by omega, h⟩

theorem aLen' {px pos : Pos} {e : Expr} {P : V → List O → Prop} (hK : KK G) (ok : EnvOk env) (hx : env.kindOf "len" = some .globalImplicit)
    (h : AEval G A env e ls S fun v S₁ => LenIs v S₁ fun n => P (.int n) S₁) (h1 : starEach [e] env = (false, eval e env) :: starEach [] env)
    (he : eval (.Call (.Name "len" px) [e] [] pos) env = (do callWith pos (← eval (.Name "len" px) env) [] (backTo pos (starEach [e] env)) []))
    (hp : (backTo pos (starEach [e] env)).any (·.1) = false) : AEval G A env (.Call (.Name "len" px) [e] [] pos) ls S P := aLen hK ok hx h h1 he hp
theorem aTupleOf' {px pos : Pos} {e : Expr} {P : V → List O → Prop} (hK : KK G) (ok : EnvOk env) (hx : env.kindOf "tuple" = some .globalImplicit)
    (h : AEval G A env e ls S fun v S₁ => TupOf v S₁ fun x => P x S₁) (h1 : starEach [e] env = (false, eval e env) :: starEach [] env)
    (he : eval (.Call (.Name "tuple" px) [e] [] pos) env = (do callWith pos (← eval (.Name "tuple" px) env) [] (backTo pos (starEach [e] env)) []))
    (hp : (backTo pos (starEach [e] env)).any (·.1) = false) : AEval G A env (.Call (.Name "tuple" px) [e] [] pos) ls S P := aTupleOf hK ok hx h h1 he hp
theorem aSub' {value slice : Expr} {pos : Pos} {P : V → List O → Prop} (h : AEval G A env value ls S fun v S₁ => AEval G A env slice ls S₁ fun i S₂ => ItemIs v i S₂ fun x => P x S₂)
    (hs : ∀ o i, subscripted slice false o i = operate [o, i] (getItem o i)) : AEval G A env (.Subscript value slice pos) ls S P := aSub h hs
theorem aAppend' {o elt : Expr} {apos pos : Pos} {P : V → List O → Prop}
    (h : AEval G A env o ls S fun v S₁ => RefIs v S₁ fun n => AEval G A env elt ls S₁ fun x S₂ => PutIs n x S₂ fun S₃ => P .none S₃)
    (hbase : attributeBase o "append" env (eval o env) = eval o env)
    (hfew : ((backTo pos (starEach [elt] env)).all (fun x => !x.1) && (backToKw pos (keywordEach [] env)).all (fun x => x.1.isSome)
      && decide (([elt] : List Expr).length + ([] : List Keyword).length + (if ([] : List Keyword).isEmpty then 0 else 1) < 30)) = true)
    (hline : (apos.endLine == pos.line) = true)
    (htrees : backTo pos (starEach [elt] env) = [(false, eval elt env)]) : AEval G A env (.Call (.Attribute o "append" apos) [elt] [] pos) ls S P := aAppend h hbase hfew hline htrees
end
end
-- F3
section
-- the class Aig
theorem kGa (p : Params) : findIn (hd.heap_39 p) (.ref 217) "__getattribute__" = some (some (.builtin "object.__getattribute__")) := by kernel_rfl
theorem kGt (p : Params) : findIn (hd.heap_39 p) (.ref 217) "__getattr__" = some none := by kernel_rfl
theorem kSa (p : Params) : findIn (hd.heap_39 p) (.ref 217) "__setattr__" = some (some (.builtin "object.__setattr__")) := by kernel_rfl
theorem kHd (p : Params) : hasDictIn (hd.heap_39 p) 217 = true := by kernel_rfl
theorem kPo (p : Params) : plainOver (hd.heap_39 p) 217 = true := by kernel_rfl
theorem clsAig {G : Gx} (hK : KK G) : ClsOk G.K 217 := ⟨by rw [hK]; exact kGa _, by rw [hK]; exact kGt _, by rw [hK]; exact kSa _, by rw [hK]; exact kHd _, by rw [hK]; exact kPo _⟩
theorem fNodes (p : Params) : findIn (hd.heap_39 p) (.ref 217) "nodes" = some none := by kernel_rfl
theorem fInputs (p : Params) : findIn (hd.heap_39 p) (.ref 217) "inputs" = some none := by kernel_rfl
theorem fOutputs (p : Params) : findIn (hd.heap_39 p) (.ref 217) "outputs" = some none := by kernel_rfl
theorem fTable (p : Params) : findIn (hd.heap_39 p) (.ref 217) "table" = some none := by kernel_rfl
theorem tNodes (p : Params) : takerIn (hd.heap_39 p) 217 "nodes" = some none := by kernel_rfl
theorem tInputs (p : Params) : takerIn (hd.heap_39 p) 217 "inputs" = some none := by kernel_rfl
theorem tOutputs (p : Params) : takerIn (hd.heap_39 p) 217 "outputs" = some none := by kernel_rfl
theorem tTable (p : Params) : takerIn (hd.heap_39 p) 217 "table" = some none := by kernel_rfl
theorem mIsAnd (p : Params) : findIn (hd.heap_39 p) (.ref 217) "is_and" = some (some (.ref 157)) := by kernel_rfl
theorem mUses (p : Params) : findIn (hd.heap_39 p) (.ref 217) "uses" = some (some (.ref 206)) := by kernel_rfl
theorem mAddInput (p : Params) : findIn (hd.heap_39 p) (.ref 217) "add_input" = some (some (.ref 143)) := by kernel_rfl
theorem mAddOutput (p : Params) : findIn (hd.heap_39 p) (.ref 217) "add_output" = some (some (.ref 150)) := by kernel_rfl
theorem mLand (p : Params) : findIn (hd.heap_39 p) (.ref 217) "land" = some (some (.ref 164)) := by kernel_rfl
theorem yIsAnd (p : Params) : typeIn (hd.heap_39 p) (.ref 157) = some (.type "function") := by kernel_rfl
theorem yUses (p : Params) : typeIn (hd.heap_39 p) (.ref 206) = some (.type "function") := by kernel_rfl
theorem yAddInput (p : Params) : typeIn (hd.heap_39 p) (.ref 143) = some (.type "function") := by kernel_rfl
theorem yAddOutput (p : Params) : typeIn (hd.heap_39 p) (.ref 150) = some (.type "function") := by kernel_rfl
theorem yLand (p : Params) : typeIn (hd.heap_39 p) (.ref 164) = some (.type "function") := by kernel_rfl
theorem pIsAnd (p : Params) : keepIn (hd.heap_39 p) (.ref 157) = true := by kernel_rfl
theorem pUses (p : Params) : keepIn (hd.heap_39 p) (.ref 206) = true := by kernel_rfl
theorem pAddInput (p : Params) : keepIn (hd.heap_39 p) (.ref 143) = true := by kernel_rfl
theorem pAddOutput (p : Params) : keepIn (hd.heap_39 p) (.ref 150) = true := by kernel_rfl
theorem pLand (p : Params) : keepIn (hd.heap_39 p) (.ref 164) = true := by kernel_rfl

noncomputable abbrev aigFs (nn ni no nt : Nat) : List (Str × V) := [bn "nodes" (.ref nn), bn "inputs" (.ref ni), bn "outputs" (.ref no), bn "table" (.ref nt)]
noncomputable def FieldOf (v : V) (attr : Str) (S : List O) (K : V → Prop) : Prop := ∃ x d fs u, v = .ref x ∧ IsInst 217 S x d fs ∧ fs.lookup attr = some u ∧ (∀ w, u ≠ .top w) ∧ K u
noncomputable def InstOf (v : V) (attr : Str) (S : List O) (K : Nat → Prop) : Prop := ∃ x d fs, v = .ref x ∧ IsInst 217 S x d fs ∧ fs.lookup attr = none ∧ K x
section
variable {G : Gx} {A : Around} {env : Env} {ls : List (Str × V)} {S : List O}
theorem wFld {x d : Nat} {fs : List (Str × V)} {attr : Str} {n : Nat} {K : V → Prop} (I : IsInst 217 S x d fs) (hu : fs.lookup attr = some (.ref n)) (h : K (.ref n)) : FieldOf (.ref x) attr S K := ⟨x, d, fs, _, rfl, I, hu, (by intro w e; cases e), h⟩
theorem wInst {x d : Nat} {fs : List (Str × V)} {attr : Str} {K : Nat → Prop} (I : IsInst 217 S x d fs) (hu : fs.lookup attr = none) (h : K x) : InstOf (.ref x) attr S K := ⟨x, d, fs, rfl, I, hu, h⟩
theorem aFld {value : Expr} {attr : Str} {pos : Pos} {P : V → List O → Prop} (hK : KK G) (ha : ∀ p, findIn (hd.heap_39 p) (.ref 217) attr = some none) (h : AEval G A env value ls S fun v S₁ => FieldOf v attr S₁ fun u => P u S₁)
    (he : eval (.Attribute value attr pos) env = (do
      let o ← eval value env
      standAt pos.atName
      let r ← holding [o] (getAttr o attr true)
      letTemporaryGo value o r
      pure r)) : AEval G A env (.Attribute value attr pos) ls S P := aAttr (clsAig hK) (by rw [hK]; exact ha _) h he
theorem aMeth {f : Addr} {o : Expr} {name : Str} {apos pos : Pos} {args : List Expr} {pl : Sem Bool} {P : V → List O → Prop} (hK : KK G) (hf : ∀ p, findIn (hd.heap_39 p) (.ref 217) name = some (some (.ref f))) (ht : ∀ p, typeIn (hd.heap_39 p) (.ref f) = some (.type "function")) (hk : ∀ p, keepIn (hd.heap_39 p) (.ref f) = true)
    (h : AEval G A env o ls S fun v S₁ => InstOf v name S₁ fun x => AArgs G A env pos args ls S₁ fun vs S₂ => AApp G A (.top (.ref f)) (.ref x :: vs) S₂ P)
    (he : eval (.Call (.Attribute o name apos) args [] pos) env = (do
      let ov ← eval o env
      standAt apos.atName
      let (f, first) ← holding [ov] (getMethod ov name pl)
      callWith pos f first (backTo pos (starEach args env)) []))
    (hp : (backTo pos (starEach args env)).any (·.1) = false) : AEval G A env (.Call (.Attribute o name apos) args [] pos) ls S P :=
  aMethod (clsAig hK) (by rw [hK]; exact hf _) (by rw [hK]; exact ht _) (by rw [hK]; exact hk _) (h.mono fun v S₁ ⟨x, d, fs, a, b, c, q⟩ => ⟨x, d, fs, a, b, c, q⟩) he hp
noncomputable def fldTab : List Str := ["nodes", "inputs", "outputs", "table"]
theorem fldTab_ok (p : Params) : ∀ a ∈ fldTab, findIn (hd.heap_39 p) (.ref 217) a = some none :=
  List.forall_mem_cons.mpr ⟨fNodes p, List.forall_mem_cons.mpr ⟨fInputs p, List.forall_mem_cons.mpr ⟨fOutputs p, List.forall_mem_cons.mpr ⟨fTable p, fun _ h => nomatch h⟩⟩⟩⟩
noncomputable def methTab : List (Str × Addr) := [("is_and", 157), ("uses", 206), ("add_input", 143), ("add_output", 150), ("land", 164)]
theorem methTab_ok (p : Params) : ∀ q ∈ methTab, findIn (hd.heap_39 p) (.ref 217) q.1 = some (some (.ref q.2)) ∧ typeIn (hd.heap_39 p) (.ref q.2) = some (.type "function") ∧ keepIn (hd.heap_39 p) (.ref q.2) = true :=
  List.forall_mem_cons.mpr ⟨⟨mIsAnd p, yIsAnd p, pIsAnd p⟩, List.forall_mem_cons.mpr ⟨⟨mUses p, yUses p, pUses p⟩, List.forall_mem_cons.mpr ⟨⟨mAddInput p, yAddInput p, pAddInput p⟩, List.forall_mem_cons.mpr ⟨⟨mAddOutput p, yAddOutput p, pAddOutput p⟩, List.forall_mem_cons.mpr ⟨⟨mLand p, yLand p, pLand p⟩, fun _ h => nomatch h⟩⟩⟩⟩⟩
theorem aFldT {value : Expr} {attr : Str} {pos : Pos} {P : V → List O → Prop} (hK : KK G) (ha : fldTab.contains attr = true) (h : AEval G A env value ls S fun v S₁ => FieldOf v attr S₁ fun u => P u S₁)
    (he : eval (.Attribute value attr pos) env = (do
      let o ← eval value env
      standAt pos.atName
      let r ← holding [o] (getAttr o attr true)
      letTemporaryGo value o r
      pure r)) : AEval G A env (.Attribute value attr pos) ls S P := aFld hK (fun p => fldTab_ok p _ (List.contains_iff_mem.mp ha)) h he
theorem aMethT {f : Addr} {o : Expr} {name : Str} {apos pos : Pos} {args : List Expr} {pl : Sem Bool} {P : V → List O → Prop} (hK : KK G) (hf : methTab.lookup name = some f)
    (h : AEval G A env o ls S fun v S₁ => InstOf v name S₁ fun x => AArgs G A env pos args ls S₁ fun vs S₂ => AApp G A (.top (.ref f)) (.ref x :: vs) S₂ P)
    (he : eval (.Call (.Attribute o name apos) args [] pos) env = (do
      let ov ← eval o env
      standAt apos.atName
      let (f, first) ← holding [ov] (getMethod ov name pl)
      callWith pos f first (backTo pos (starEach args env)) []))
    (hp : (backTo pos (starEach args env)).any (·.1) = false) : AEval G A env (.Call (.Attribute o name apos) args [] pos) ls S P :=
  aMeth hK (fun p => (methTab_ok p _ (mem_of_lookup hf)).1) (fun p => (methTab_ok p _ (mem_of_lookup hf)).2.1) (fun p => (methTab_ok p _ (mem_of_lookup hf)).2.2) h he hp
-- a call of a def of the top
theorem aCallD {x : Str} {f : Addr} {px pos : Pos} {args : List Expr} {P : V → List O → Prop} (hK : KK G) (e : ∀ p, nsIn (hd.heap_39 p) mainGlobals x = some (some (.ref f))) (hk : ∀ p, keepIn (hd.heap_39 p) (.ref f) = true) (hd : (x == ("__debug__" : Str)) = false)
    (ok : EnvOk env) (hx : env.kindOf x = some .globalImplicit) (h : AArgs G A env pos args ls S fun vs S₂ => AApp G A (.top (.ref f)) vs S₂ P)
    (he : eval (.Call (.Name x px) args [] pos) env = (do callWith pos (← eval (.Name x px) env) [] (backTo pos (starEach args env)) []))
    (hp : (backTo pos (starEach args env)).any (·.1) = false) : AEval G A env (.Call (.Name x px) args [] pos) ls S P :=
  aCall (aGlobal ok hx (by rw [hK]; exact e _) (h.mono fun vs S' q => ⟨keep_K (by rw [hK]; exact hk _), q⟩) hd) he hp
theorem b_shr1 {a : Int} {P : V → List O → Prop} (hh : A.handled = none) (h : P (.int (a / 2)) S) : ABin G A .RShift (.int a) (.int 1) S P := by
  have := b_shr (G := G) (S := S) (a := a) (n := 1) (P := P) hh
  refine this ?_
  rw [show a.fdiv (2 ^ 1) = a / 2 from by rw [Int.fdiv_eq_ediv_of_nonneg _ (by decide)]; rfl]
  exact h
noncomputable def SeqOf (v : V) (S : List O) (K : List V → Prop) : Prop := ∃ vs, SeqV v S vs ∧ vs.length ≤ 2 ^ 20 ∧ K vs
theorem wSeq {v : V} {vs : List V} {K : List V → Prop} (hv : SeqV v S vs) (hb : vs.length ≤ 100000) (h : K vs) : SeqOf v S K := ⟨vs, hv, by omega, h⟩
theorem aListOf' {px pos : Pos} {e : Expr} {P : V → List O → Prop} (hK : KK G) (ok : EnvOk env) (hx : env.kindOf "list" = some .globalImplicit)
    (h : AEval G A env e ls S fun v S₁ => SeqOf v S₁ fun vs => P (.ref S₁.length) (S₁ ++ [.list vs])) (h1 : starEach [e] env = (false, eval e env) :: starEach [] env)
    (he : eval (.Call (.Name "list" px) [e] [] pos) env = (do callWith pos (← eval (.Name "list" px) env) [] (backTo pos (starEach [e] env)) []))
    (hp : (backTo pos (starEach [e] env)).any (·.1) = false) : AEval G A env (.Call (.Name "list" px) [e] [] pos) ls S P := aListOf hK ok hx h h1 he hp
theorem aMax1 {px pos : Pos} {e : Expr} {P : V → List O → Prop} (hK : KK G) (hh : A.handled = none) (ok : EnvOk env) (hx : env.kindOf "max" = some .globalImplicit)
    (h : AEval G A env e ls S fun v S₁ => ∃ n ns, v = .ref n ∧ S₁[n]? = some (.list (ivs ns)) ∧ ns ≠ [] ∧ ∀ M, M ∈ ns → (∀ a ∈ ns, a ≤ M) → P (.int M) S₁) (h1 : starEach [e] env = (false, eval e env) :: starEach [] env)
    (he : eval (.Call (.Name "max" px) [e] [] pos) env = (do callWith pos (← eval (.Name "max" px) env) [] (backTo pos (starEach [e] env)) []))
    (hp : (backTo pos (starEach [e] env)).any (·.1) = false) : AEval G A env (.Call (.Name "max" px) [e] [] pos) ls S P :=
  aCallB hK ok hx nsMax blMax (by decide) (by decide) (by intro a e; cases e) (args_cons (h.mono fun v S' ⟨n, ns, a, b, c, q⟩ => args_nil (a ▸ f_max hh b c q)) h1) he hp
theorem aMax2 {px pos : Pos} {e e' : Expr} {P : V → List O → Prop} (hK : KK G) (hh : A.handled = none) (ok : EnvOk env) (hx : env.kindOf "max" = some .globalImplicit)
    (h : AArgs G A env pos [e, e'] ls S fun vs S₁ => AApp G A (.top (.builtin "max")) vs S₁ P)
    (he : eval (.Call (.Name "max" px) [e, e'] [] pos) env = (do callWith pos (← eval (.Name "max" px) env) [] (backTo pos (starEach [e, e'] env)) []))
    (hp : (backTo pos (starEach [e, e'] env)).any (·.1) = false) : AEval G A env (.Call (.Name "max" px) [e, e'] [] pos) ls S P :=
  aCallB hK ok hx nsMax blMax (by decide) (by decide) (by intro a e; cases e) h he hp
end
end
-- F4
section
theorem ns_merge_cuts (p : Params) : nsIn (hd.heap_39 p) mainGlobals "merge_cuts" = some (some (.ref 28)) := by kernel_rfl
theorem kp_merge_cuts (p : Params) : keepIn (hd.heap_39 p) (.ref 28) = true := by kernel_rfl
theorem ns_within (p : Params) : nsIn (hd.heap_39 p) mainGlobals "within" = some (some (.ref 35)) := by kernel_rfl
theorem kp_within (p : Params) : keepIn (hd.heap_39 p) (.ref 35) = true := by kernel_rfl
theorem ns_without_dominated (p : Params) : nsIn (hd.heap_39 p) mainGlobals "without_dominated" = some (some (.ref 42)) := by kernel_rfl
theorem kp_without_dominated (p : Params) : keepIn (hd.heap_39 p) (.ref 42) = true := by kernel_rfl
theorem ns_node_cuts (p : Params) : nsIn (hd.heap_39 p) mainGlobals "node_cuts" = some (some (.ref 49)) := by kernel_rfl
theorem kp_node_cuts (p : Params) : keepIn (hd.heap_39 p) (.ref 49) = true := by kernel_rfl
theorem ns_cut_sets (p : Params) : nsIn (hd.heap_39 p) mainGlobals "cut_sets" = some (some (.ref 56)) := by kernel_rfl
theorem kp_cut_sets (p : Params) : keepIn (hd.heap_39 p) (.ref 56) = true := by kernel_rfl
theorem ns_cut_depth (p : Params) : nsIn (hd.heap_39 p) mainGlobals "cut_depth" = some (some (.ref 94)) := by kernel_rfl
theorem kp_cut_depth (p : Params) : keepIn (hd.heap_39 p) (.ref 94) = true := by kernel_rfl
theorem ns_cut_flow (p : Params) : nsIn (hd.heap_39 p) mainGlobals "cut_flow" = some (some (.ref 101)) := by kernel_rfl
theorem kp_cut_flow (p : Params) : keepIn (hd.heap_39 p) (.ref 101) = true := by kernel_rfl
theorem ns_cover_cuts (p : Params) : nsIn (hd.heap_39 p) mainGlobals "cover_cuts" = some (some (.ref 108)) := by kernel_rfl
theorem kp_cover_cuts (p : Params) : keepIn (hd.heap_39 p) (.ref 108) = true := by kernel_rfl
theorem ns_check_size (p : Params) : nsIn (hd.heap_39 p) mainGlobals "check_size" = some (some (.ref 115)) := by kernel_rfl
theorem kp_check_size (p : Params) : keepIn (hd.heap_39 p) (.ref 115) = true := by kernel_rfl
theorem ns_lut_cover (p : Params) : nsIn (hd.heap_39 p) mainGlobals "lut_cover" = some (some (.ref 122)) := by kernel_rfl
theorem kp_lut_cover (p : Params) : keepIn (hd.heap_39 p) (.ref 122) = true := by kernel_rfl
theorem ns_law_dealer (p : Params) : nsIn (hd.heap_39 p) mainGlobals "_law_dealer" = some (some (.ref 226)) := by kernel_rfl
theorem kp_law_dealer (p : Params) : keepIn (hd.heap_39 p) (.ref 226) = true := by kernel_rfl
theorem ns_law_open (p : Params) : nsIn (hd.heap_39 p) mainGlobals "_law_open" = some (some (.ref 233)) := by kernel_rfl
theorem kp_law_open (p : Params) : keepIn (hd.heap_39 p) (.ref 233) = true := by kernel_rfl
theorem ns_law_can_close (p : Params) : nsIn (hd.heap_39 p) mainGlobals "_law_can_close" = some (some (.ref 240)) := by kernel_rfl
theorem kp_law_can_close (p : Params) : keepIn (hd.heap_39 p) (.ref 240) = true := by kernel_rfl
theorem ns_law_least_depths (p : Params) : nsIn (hd.heap_39 p) mainGlobals "_law_least_depths" = some (some (.ref 247)) := by kernel_rfl
theorem kp_law_least_depths (p : Params) : keepIn (hd.heap_39 p) (.ref 247) = true := by kernel_rfl
theorem ns_law_is_cover (p : Params) : nsIn (hd.heap_39 p) mainGlobals "_law_is_cover" = some (some (.ref 252)) := by kernel_rfl
theorem kp_law_is_cover (p : Params) : keepIn (hd.heap_39 p) (.ref 252) = true := by kernel_rfl
theorem ns_Aig (p : Params) : nsIn (hd.heap_39 p) mainGlobals "Aig" = some (some (.ref 217)) := by kernel_rfl
theorem kp_Aig (p : Params) : keepIn (hd.heap_39 p) (.ref 217) = true := by kernel_rfl

-- the names of the defs and their places
noncomputable def defTab : List (Str × Addr) := [("merge_cuts", 28), ("within", 35), ("without_dominated", 42), ("node_cuts", 49), ("cut_sets", 56), ("cut_depth", 94), ("cut_flow", 101), ("cover_cuts", 108), ("check_size", 115), ("lut_cover", 122), ("_law_dealer", 226), ("_law_open", 233), ("_law_can_close", 240), ("_law_least_depths", 247), ("_law_is_cover", 252), ("Aig", 217)]
theorem defTab_ok (p : Params) : ∀ q ∈ defTab, nsIn (hd.heap_39 p) mainGlobals q.1 = some (some (.ref q.2)) ∧ keepIn (hd.heap_39 p) (.ref q.2) = true := by
  unfold defTab
  repeat' (first | exact List.forall_mem_nil _ | refine List.forall_mem_cons.mpr ⟨?_, ?_⟩)
  · exact ⟨ns_merge_cuts p, kp_merge_cuts p⟩
  · exact ⟨ns_within p, kp_within p⟩
  · exact ⟨ns_without_dominated p, kp_without_dominated p⟩
  · exact ⟨ns_node_cuts p, kp_node_cuts p⟩
  · exact ⟨ns_cut_sets p, kp_cut_sets p⟩
  · exact ⟨ns_cut_depth p, kp_cut_depth p⟩
  · exact ⟨ns_cut_flow p, kp_cut_flow p⟩
  · exact ⟨ns_cover_cuts p, kp_cover_cuts p⟩
  · exact ⟨ns_check_size p, kp_check_size p⟩
  · exact ⟨ns_lut_cover p, kp_lut_cover p⟩
  · exact ⟨ns_law_dealer p, kp_law_dealer p⟩
  · exact ⟨ns_law_open p, kp_law_open p⟩
  · exact ⟨ns_law_can_close p, kp_law_can_close p⟩
  · exact ⟨ns_law_least_depths p, kp_law_least_depths p⟩
  · exact ⟨ns_law_is_cover p, kp_law_is_cover p⟩
  · exact ⟨ns_Aig p, kp_Aig p⟩
theorem aCallT {G : Gx} {A : Around} {env : Env} {ls : List (Str × V)} {S : List O} {x : Str} {f : Addr} {px pos : Pos} {args : List Expr} {P : V → List O → Prop} (hK : KK G) (e : defTab.lookup x = some f) (hd : (x == ("__debug__" : Str)) = false)
    (ok : EnvOk env) (hx : env.kindOf x = some .globalImplicit) (h : AArgs G A env pos args ls S fun vs S₂ => AApp G A (.top (.ref f)) vs S₂ P)
    (he : eval (.Call (.Name x px) args [] pos) env = (do callWith pos (← eval (.Name x px) env) [] (backTo pos (starEach args env)) []))
    (hp : (backTo pos (starEach args env)).any (·.1) = false) : AEval G A env (.Call (.Name x px) args [] pos) ls S P :=
  aCallD hK (fun p => (defTab_ok p _ (mem_of_lookup e)).1) (fun p => (defTab_ok p _ (mem_of_lookup e)).2) hd ok hx h he hp
-- a call of a def of the top
end
-- F5
section
noncomputable def IntOf (v : V) (K : Int → Prop) : Prop := ∃ i, v = .int i ∧ K i
theorem wInt {i : Int} {K : Int → Prop} (h : K i) : IntOf (.int i) K := ⟨i, rfl, h⟩
section
variable {G : Gx} {A : Around} {env : Env} {ls : List (Str × V)} {S : List O}
theorem aInt1 {px pos : Pos} {e : Expr} {P : V → List O → Prop} (hK : KK G) (ok : EnvOk env) (hx : env.kindOf "int" = some .globalImplicit)
    (h : AEval G A env e ls S fun v S₁ => IntOf v fun i => P (.int i) S₁) (h1 : starEach [e] env = (false, eval e env) :: starEach [] env)
    (he : eval (.Call (.Name "int" px) [e] [] pos) env = (do callWith pos (← eval (.Name "int" px) env) [] (backTo pos (starEach [e] env)) []))
    (hp : (backTo pos (starEach [e] env)).any (·.1) = false) : AEval G A env (.Call (.Name "int" px) [e] [] pos) ls S P :=
  aCallB hK ok hx nsInt blInt (by decide) (by decide) (by intro a e; cases e) (args_cons (h.mono fun v S' ⟨i, a, q⟩ => args_nil (a ▸ f_int q)) h1) he hp
theorem aAbs1 {px pos : Pos} {e : Expr} {P : V → List O → Prop} (hK : KK G) (ok : EnvOk env) (hx : env.kindOf "abs" = some .globalImplicit)
    (h : AEval G A env e ls S fun v S₁ => IntOf v fun i => P (.int (if i < 0 then -i else i)) S₁) (h1 : starEach [e] env = (false, eval e env) :: starEach [] env)
    (he : eval (.Call (.Name "abs" px) [e] [] pos) env = (do callWith pos (← eval (.Name "abs" px) env) [] (backTo pos (starEach [e] env)) []))
    (hp : (backTo pos (starEach [e] env)).any (·.1) = false) : AEval G A env (.Call (.Name "abs" px) [e] [] pos) ls S P :=
  aCallB hK ok hx nsAbs blAbs (by decide) (by decide) (by intro a e; cases e) (args_cons (h.mono fun v S' ⟨i, a, q⟩ => args_nil (a ▸ f_abs q)) h1) he hp
theorem aSum1 {px pos : Pos} {e : Expr} {P : V → List O → Prop} (hK : KK G) (hh : A.handled = none) (ok : EnvOk env) (hx : env.kindOf "sum" = some .globalImplicit)
    (h : AEval G A env e ls S fun v S₁ => ∃ n ns, v = .ref n ∧ S₁[n]? = some (.list (ivs ns)) ∧ P (.int ns.sum) S₁) (h1 : starEach [e] env = (false, eval e env) :: starEach [] env)
    (he : eval (.Call (.Name "sum" px) [e] [] pos) env = (do callWith pos (← eval (.Name "sum" px) env) [] (backTo pos (starEach [e] env)) []))
    (hp : (backTo pos (starEach [e] env)).any (·.1) = false) : AEval G A env (.Call (.Name "sum" px) [e] [] pos) ls S P :=
  aCallB hK ok hx nsSum blSum (by decide) (by decide) (by intro a e; cases e) (args_cons (h.mono fun v S' ⟨n, ns, a, b, q⟩ => args_nil (a ▸ f_sum hh b q)) h1) he hp
theorem aListTop {px pos : Pos} {e : Expr} {P : V → List O → Prop} (hK : KK G) (ok : EnvOk env) (hx : env.kindOf "list" = some .globalImplicit)
    (h : AEval G A env e ls S fun v S₁ => ∃ a items vs, v = .top (.ref a) ∧ G.h₀.IsList a items ∧ (∀ ρ h, VRs ρ h vs items.toList) ∧ vs.length ≤ 100000 ∧ P (.ref S₁.length) (S₁ ++ [.list vs])) (h1 : starEach [e] env = (false, eval e env) :: starEach [] env)
    (he : eval (.Call (.Name "list" px) [e] [] pos) env = (do callWith pos (← eval (.Name "list" px) env) [] (backTo pos (starEach [e] env)) []))
    (hp : (backTo pos (starEach [e] env)).any (·.1) = false) : AEval G A env (.Call (.Name "list" px) [e] [] pos) ls S P :=
  aCallB hK ok hx nsList blList (by decide) (by decide) (by intro a e; cases e) (args_cons (h.mono fun v S' ⟨a, items, vs, h1, h2, h3, h4, q⟩ => args_nil (h1 ▸ f_listTop h2 h3 (by omega) q)) h1) he hp
end
end
local macro_rules | `(tactic| walk_at "mine sd") => `(tactic| k_dflt (try (first | assumption | exact ⟨rfl, rfl, rfl⟩ | exact rfl | exact .inl rfl | exact .inr ⟨rfl, rfl, by decide⟩)))
local macro_rules | `(tactic| walk_at "mine aw") => `(tactic| with_reducible (first
  | refine' x_seq ?_
  | refine' seq_next ?_
  | refine' x_nil ?_
  | refine' s_assign ?_ ?_ ?_ ?_ <;> walk_at "mine sd"
  | refine' s_if ?_
  | refine' s_return ?_
  | refine' s_aug ?_ ?_ ?_ ?_ <;> walk_at "mine sd"
  | refine' s_expr ?_ ?_ ?_ <;> walk_at "mine sd"
  | refine' seq_ret ?_
  | refine' seq_cont ?_
  | refine' ret_ret ?_
  | ((refine' aName ?k1 ?k2 ?_ ?k3); (case k1 => k_dflt (exact ⟨rfl, rfl, rfl⟩)); (case k2 => k_dflt (exact rfl)); (case k3 => k_dflt (decide)))
  | refine' aInt ?_
  | refine' aNone ?_
  | refine' aBool ?_
  | refine' aLen' ?_ ?_ ?_ ?_ ?_ ?_ ?_ <;> walk_at "mine sd"
  | refine' aTupleOf' ?_ ?_ ?_ ?_ ?_ ?_ ?_ <;> walk_at "mine sd"
  | ((refine' aSub' ?_ ?k1); (case k1 => k_dflt (intro _ _; exact rfl)))
  | refine' aAppend' ?_ ?_ ?_ ?_ ?_ <;> walk_at "mine sd"
  | refine' aList ?_
  | refine' aTuple ?_
  | refine' tCompare ?_ ?_ <;> walk_at "mine sd"
  | refine' tBoolOp ?_
  | refine' all_or ?_
  | refine' all_and ?_
  | refine' all_or_nil ?_
  | refine' all_and_nil ?_
  | refine' tNot ?_
  | refine' truth_bool ?_
  | refine' args_nil ?_
  | refine' args_cons ?_ ?_ <;> walk_at "mine sd"
  | refine' c_lt ?_
  | refine' c_gt ?_
  | refine' c_eq ?_
  | refine' c_ge ?_
  | refine' c_ne ?_
  | refine' b_add ?_
  | refine' b_sub ?_
  | refine' i_add ?_
  | refine' aBinOp ?_
  | refine' aCompare ?_ ?_ <;> walk_at "mine sd"
  | refine' iteT ?_
  | refine' iteF ?_
  | (refine' iteD (fun _ => ?_) (fun _ => ?_)) <;> k_dflt (try (exfalso; omega))
  | (refine' iteE (fun _ => ?_) (fun _ => ?_)) <;> k_dflt (try (exfalso; omega))
  | refine' iteB (fun _ => ?_) (fun _ => ?_)
  | ((refine' wLenT ?k1 ?_); (case k1 => k_dflt (omega)))
  | ((refine' wItT ?k1 ?k2 ?_); (case k1 => k_dflt (omega)); (case k2 => k_dflt (omega)))
  | ((refine' loop_nextG ?k0 ?_); (case k0 => k_dflt (assumption)))
  | ((refine' loop_contG ?k0 ?_); (case k0 => k_dflt (assumption)))
  | ((refine' loop_nextW ?k0 ?_); (case k0 => k_dflt (assumption)))
  | ((refine' retP ?k0 ?_); (case k0 => k_dflt (assumption)))
  | refine' loop_ret ?_
  | ((refine' aFldT ?k0 ?k1 ?_ ?k2); (case k0 => k_dflt (assumption)); (case k1 => k_dflt (exact rfl)); (case k2 => k_dflt (exact rfl)))
  | ((refine' aMethT ?k0 ?k1 ?_ ?k2 ?k3); (case k0 => k_dflt (assumption)); (case k1 => k_dflt (exact rfl)); (case k2 => k_dflt (exact rfl)); (case k3 => k_dflt (exact rfl)))
  | refine' c_isNone ?_
  | refine' c_isNotNone ?_
  | refine' b_xor ?_
  | refine' s_continue ?_
  | refine' aIf ?_
  | refine' aUnary ?_
  | refine' u_neg ?_
  | ((refine' b_mul ?_ ?k1); (case k1 => k_dflt (first | exact IntMulOk.of_left (by decide) | exact IntMulOk.of_right (by decide))))
  | refine' aListOf' ?_ ?_ ?_ ?_ ?_ ?_ ?_ <;> walk_at "mine sd"
  | refine' aInt1 ?_ ?_ ?_ ?_ ?_ ?_ ?_ <;> walk_at "mine sd"
  | refine' aAbs1 ?_ ?_ ?_ ?_ ?_ ?_ ?_ <;> walk_at "mine sd"
  | refine' wInt ?_))
local macro_rules | `(tactic| walk_at "mine aws") => `(tactic| try (walk_at "mine aw" <;> walk_at "mine aws"))
-- W1
section
noncomputable def mergeL : List Int → List Int → List Int
  | [], ys => ys
  | x :: xs, [] => x :: xs
  | x :: xs, y :: ys => if x < y then x :: mergeL xs (y :: ys) else if y < x then y :: mergeL (x :: xs) ys else x :: mergeL xs ys
theorem mergeL_nil : ∀ xs, mergeL xs [] = xs
  | [] => by simp [mergeL]
  | x :: xs => by simp [mergeL]

theorem m_left {xs ys : List Int} {i j : Nat} (hi : i < xs.length) (h : j = ys.length ∨ ∃ hj : j < ys.length, xs[i] < ys[j]) : mergeL (xs.drop i) (ys.drop j) = xs[i] :: mergeL (xs.drop (i + 1)) (ys.drop j) := by
  rw [List.drop_eq_getElem_cons hi]
  rcases h with rfl | ⟨hj, h⟩
  · rw [List.drop_length, mergeL_nil, mergeL_nil]
  · rw [List.drop_eq_getElem_cons hj, mergeL, if_pos h]
theorem m_right {xs ys : List Int} {i j : Nat} (hj : j < ys.length) (h : i = xs.length ∨ ∃ hi : i < xs.length, ¬ xs[i] < ys[j] ∧ ys[j] < xs[i]) : mergeL (xs.drop i) (ys.drop j) = ys[j] :: mergeL (xs.drop i) (ys.drop (j + 1)) := by
  rw [List.drop_eq_getElem_cons hj]
  rcases h with rfl | ⟨hi, h, h'⟩
  · rw [List.drop_length, mergeL, mergeL]
  · rw [List.drop_eq_getElem_cons hi, mergeL, if_neg h, if_pos h']
theorem m_both {xs ys : List Int} {i j : Nat} (hi : i < xs.length) (hj : j < ys.length) (h : ¬ xs[i] < ys[j]) (h' : ¬ ys[j] < xs[i]) : mergeL (xs.drop i) (ys.drop j) = xs[i] :: mergeL (xs.drop (i + 1)) (ys.drop (j + 1)) := by
  rw [List.drop_eq_getElem_cons hi, List.drop_eq_getElem_cons hj, mergeL, if_neg h, if_neg h']

set_option maxHeartbeats 2000000 in
theorem merge_walk (G : Gx) (hK : KK G) (A : Around) (room : Room A 1) (xs ys : List Int) (k : Int) (S : List O) (hx : xs.length ≤ 1000) (hy : ys.length ≤ 1000) :
    AApp G A (.top (.ref 28)) [V.tup (ivs xs), V.tup (ivs ys), V.int k] S fun v S' => (∃ X, S' = S ++ X) ∧ v = if ((mergeL xs ys).length : Int) > k then V.none else V.tup (ivs (mergeL xs ys)) := by
  refine AApp.gen fun P9 hP9 => ?_
  refine aDef (ps := ["c1", "c2", "k"]) (f := 28) (by rw [hK]; rfl) (by rw [hK]; kernel_rfl) room.depth rfl ?hbind (by decide) (by decide) (by decide) rfl rfl rfl ?_
  case hbind => intro vals h; obtain ⟨a, b, c, rfl⟩ := vals3 h; rfl
  intro L
  iterate 4 walk_at "mine aw"
  refine ⟨by simp, ?_⟩
  all_goals (walk_at "mine aws")
  refine s_while (fun n ls' S' => ∃ (i j : Nat) (mg : List Int), i ≤ xs.length ∧ j ≤ ys.length ∧ mg ++ mergeL (xs.drop i) (ys.drop j) = mergeL xs ys ∧ n = (xs.length - i) + (ys.length - j) ∧ mg.length ≤ i + j ∧
    ls' = [bn "c1" (.tup (ivs xs)), bn "c2" (.tup (ivs ys)), bn "k" (.int k), bn "merged" (.ref S.length), bn "i" (.int i), bn "j" (.int j)] ∧ S' = S ++ [O.list (ivs mg)]) (n := xs.length + ys.length) ?_ ?_
  · refine ⟨_, ?_, 0, 0, [], by simp, by simp, by simp, by simp, by simp, rfl, rfl⟩
    exact ⟨rfl, rfl, rfl, rfl, rfl, rfl, trivial⟩
  · rintro Inv9 hI9 n ls' S' ⟨i, j, mg, hi, hj, hm, rfl, hl, rfl, rfl⟩
    repeat' first | walk_at "mine aw" | refine wRef list_at_end ?_ | (refine wPut list_at_end (by simp; omega) ?_; rw [set_at_end]) | (refine And.intro rfl ?_)
    · refine ⟨_, ?_, _, ?_, i + 1, j, mg ++ [xs[i]], by omega, hj, ?_, rfl, by simp; omega, rfl, by simp⟩
      · exact ⟨rfl, rfl, rfl, rfl, rfl, rfl, trivial⟩
      · omega
      · rw [← hm, m_left (xs := xs) (ys := ys) (i := i) (j := j) (by omega) (.inl (by omega))]; simp
    · refine ⟨_, ?_, _, ?_, i + 1, j, mg ++ [xs[i]], by omega, hj, ?_, rfl, by simp; omega, rfl, by simp⟩
      · exact ⟨rfl, rfl, rfl, rfl, rfl, rfl, trivial⟩
      · omega
      · rw [← hm, m_left (xs := xs) (ys := ys) (i := i) (j := j) (by omega) (.inr ⟨by omega, by assumption⟩)]; simp
    · refine ⟨_, ?_, _, ?_, i, j + 1, mg ++ [ys[j]], hi, by omega, ?_, rfl, by simp; omega, rfl, by simp⟩
      · exact ⟨rfl, rfl, rfl, rfl, rfl, rfl, trivial⟩
      · omega
      · rw [← hm, m_right (xs := xs) (ys := ys) (i := i) (j := j) (by omega) (.inr ⟨by omega, by assumption, by assumption⟩)]; simp
    · refine ⟨_, ?_, _, ?_, i + 1, j + 1, mg ++ [xs[i]], by omega, by omega, ?_, rfl, by simp; omega, rfl, by simp⟩
      · exact ⟨rfl, rfl, rfl, rfl, rfl, rfl, trivial⟩
      · omega
      · rw [← hm, m_both (xs := xs) (ys := ys) (i := i) (j := j) (by omega) (by omega) (by assumption) (by assumption)]; simp
    · refine ⟨_, ?_, _, ?_, i, j + 1, mg ++ [ys[j]], hi, by omega, ?_, rfl, by simp; omega, rfl, by simp⟩
      · exact ⟨rfl, rfl, rfl, rfl, rfl, rfl, trivial⟩
      · omega
      · rw [← hm, m_right (xs := xs) (ys := ys) (i := i) (j := j) (by omega) (.inl (by omega))]; simp
    · have e : mg = mergeL xs ys := by
        rw [← hm, List.drop_of_length_le (by omega), List.drop_of_length_le (by omega)]; simp [mergeL]
      refine wLenL list_at_end (by simp; omega) ?_
      all_goals (walk_at "mine aws")
      · exact ⟨⟨_, rfl⟩, by rw [← e, if_pos (by simp at *; omega)]⟩
      · refine wTup list_at_end (by simp; omega) ?_
        all_goals (walk_at "mine aws")
        exact ⟨⟨_, rfl⟩, by rw [← e, if_neg (by simp at *; omega)]⟩
end
-- W2
section
theorem ivs_get {xs : List Int} {i : Nat} {v : V} (h : (ivs xs)[i]? = some v) : ∃ hi : i < xs.length, v = .int xs[i] := by
  have hi : i < xs.length := by simpa using (List.getElem?_eq_some_iff.mp h).1
  refine ⟨hi, ?_⟩
  simpa [hi] using h.symm
end
section
set_option maxHeartbeats 2000000 in
theorem within_walk (G : Gx) (hK : KK G) (A : Around) (room : Room A 1) (xs ys : List Int) (S : List O) :
    AApp G A (.top (.ref 35)) [V.tup (ivs xs), V.tup (ivs ys)] S fun v S' => S' = S ∧ v = .bool (xs.all fun x => ys.contains x) := by
  refine AApp.gen fun P9 hP9 => ?_
  refine aDef (ps := ["small", "large"]) (f := 35) (by rw [hK]; rfl) (by rw [hK]; kernel_rfl) room.depth rfl ?hbind (by decide) (by decide) (by decide) rfl rfl rfl ?_
  case hbind => intro vals h; obtain ⟨a, b, rfl⟩ := vals2 h; rfl
  intro L
  walk_at "mine aw"
  refine s_for ⟨rfl, rfl, rfl⟩ (.inl rfl) (room.deeper _).1 ?_
  walk_at "mine aw"
  refine ⟨ivs xs, fun i ls' S' => S' = S ∧ ls' = [bn "small" (.tup (ivs xs)), bn "large" (.tup (ivs ys))] ∧ (xs.take i).all (fun x => ys.contains x) = true, .inl rfl, ?_, ?_, ?_, ?_⟩
  · refine ⟨_, ?_, rfl, rfl, by simp⟩
    ((repeat (refine ⟨rfl, ?_⟩)); exact trivial)
  · rintro i l S' ⟨rfl, _⟩; exact .inl rfl
  · rintro Inv9 hI9 i l S' v ⟨rfl, rfl, ha⟩ hv
    obtain ⟨hi, rfl⟩ := ivs_get hv
    all_goals (walk_at "mine aws")
    refine c_notIn (vs := ys) (.inl rfl) ?_
    all_goals (walk_at "mine aws")
    · exact ⟨rfl, by rw [List.all_eq_false.mpr ⟨xs[i], by simp, by simp_all⟩]⟩
    · refine ⟨_, ?_, rfl, rfl, ?_⟩
      · ((repeat (refine ⟨rfl, ?_⟩)); exact trivial)
      rw [List.take_succ_eq_append_getElem hi, List.all_append, ha]
      simp_all
  · rintro l S' ⟨rfl, rfl, ha⟩
    all_goals (walk_at "mine aws")
    refine ⟨rfl, ?_⟩
    rw [← ha]; simp
end
-- W3
section
theorem wItZ {S : List O} {v : V} {vs : List V} {z : Int} {x : V} {K : V → Prop} (hz : 0 ≤ z) (hv : SeqV v S vs) (hx : vs[z.toNat]? = some x) (hb : vs.length ≤ 100000) (h : K x) : ItemIs v (.int z) S K :=
  ⟨vs, z, z.toNat, x, hv, rfl, hx, .inl (by omega), by omega, h⟩
theorem cl1 {env : Env} {scope : Scope} {x0 : Str} {c0 : Addr} (h1 : env.cells.lookup x0 = some c0) (h2 : env.kindOf x0 = some .cell) (h3 : (relabel scope env).names.lookup x0 = some .cell) :
    ∀ y c, [(x0, c0)].lookup y = some c → env.cells.lookup y = some c ∧ env.kindOf y = some .cell ∧ (relabel scope env).names.lookup y = some .cell := by
  intro y c e
  by_cases q : y = x0
  · subst q; simp at e; subst e; exact ⟨h1, h2, h3⟩
  · simp only [List.lookup, beq_eq_false_iff_ne.mpr q] at e; cases e

noncomputable def flowSum (fl xs : List Int) : Int := xs.foldl (fun t x => t + fl.getD x.toNat 0) 60
set_option maxHeartbeats 2000000 in
theorem flow_walk (G : Gx) (hK : KK G) (A : Around) (room : Room A 1) (fl xs : List Int) (n : Nat) (S : List O) (hn : S[n]? = some (.list (ivs fl))) (hb : fl.length ≤ 1000) (hx : ∀ x ∈ xs, 0 ≤ x ∧ x.toNat < fl.length) :
    AApp G A (.top (.ref 101)) [V.ref n, V.tup (ivs xs)] S fun v S' => S' = S ∧ v = .int (flowSum fl xs) := by
  refine AApp.gen fun P9 hP9 => ?_
  refine aDef (ps := ["flow", "cut"]) (f := 101) (by rw [hK]; rfl) (by rw [hK]; kernel_rfl) room.depth rfl ?hbind (by decide) (by decide) (by decide) rfl rfl rfl ?_
  case hbind => intro vals h; obtain ⟨a, b, rfl⟩ := vals2 h; rfl
  intro L
  all_goals (walk_at "mine aws")
  refine s_for ⟨rfl, rfl, rfl⟩ (.inl rfl) (room.deeper _).1 ?_
  walk_at "mine aw"
  refine ⟨ivs xs, fun i ls' S' => S' = S ∧ ls' = [bn "flow" (.ref n), bn "cut" (.tup (ivs xs)), bn "total" (.int (flowSum fl (xs.take i)))], .inl rfl, ?_, ?_, ?_, ?_⟩
  · refine ⟨_, ?_, rfl, rfl⟩
    ((repeat (refine ⟨rfl, ?_⟩)); exact trivial)
  · rintro i l S' ⟨rfl, _⟩; exact .inl rfl
  · rintro Inv9 hI9 i l S' v ⟨rfl, rfl⟩ hv
    obtain ⟨hi, rfl⟩ := ivs_get hv
    all_goals (walk_at "mine aws")
    obtain ⟨h0, h1⟩ := hx xs[i] (by simp)
    refine wItZ h0 (.inr ⟨n, rfl, hn⟩) (x := .int (fl.getD xs[i].toNat 0)) (by simp [h1]) (by simp; omega) ?_
    all_goals (walk_at "mine aws")
    refine ⟨_, ?_, rfl, rfl⟩
    have : flowSum fl (xs.take (i + 1)) = flowSum fl (xs.take i) + fl.getD xs[i].toNat 0 := by
      unfold flowSum; rw [List.take_succ_eq_append_getElem hi, List.foldl_append]; rfl
    rw [this]
    ((repeat (refine ⟨rfl, ?_⟩)); exact trivial)
  · rintro l S' ⟨rfl, rfl⟩
    all_goals (walk_at "mine aws")
    exact ⟨rfl, by simp⟩

set_option maxHeartbeats 4000000 in
theorem depth_walk (G : Gx) (hK : KK G) (A : Around) (room : Room A 1) (dl xs : List Int) (n : Nat) (S : List O) (hn : S[n]? = some (.list (ivs dl))) (hb : dl.length ≤ 1000) (hx : ∀ x ∈ xs, 0 ≤ x ∧ x.toNat < dl.length) (hxl : xs.length ≤ 1000) :
    AApp G A (.top (.ref 94)) [V.ref n, V.tup (ivs xs)] S fun v S' => (∃ X, S' = S ++ X) ∧ ∃ D, v = .int D ∧ (xs = [] → D = 0) ∧ (xs ≠ [] → ∃ x ∈ xs, D = 1 + dl.getD x.toNat 0 ∧ ∀ y ∈ xs, dl.getD y.toNat 0 ≤ dl.getD x.toNat 0) := by
  refine AApp.gen fun P9 hP9 => ?_
  refine aDefC (ps := ["depth", "cut"]) (f := 94) (by rw [hK]; rfl) (by rw [hK]; kernel_rfl) room.depth rfl ?hbind ?hkind (by decide) ?hcells rfl rfl rfl ?_
  case hbind => intro vals h; obtain ⟨a, b, rfl⟩ := vals2 h; rfl
  case hkind =>
    intro n x hx
    rcases List.mem_cons.mp hx with rfl | hx
    · exact .inr ⟨rfl, rfl⟩
    · rcases List.mem_cons.mp hx with rfl | hx
      · exact .inl rfl
      · cases hx
  case hcells =>
    intro n x c e
    by_cases q : x = ("depth" : Str)
    · subst q; rfl
    · exfalso
      have : (cellsFrom n [(("depth" : Str), NameKind.cell)] []).lookup x = some c := e
      simp [cellsFrom, List.lookup, beq_eq_false_iff_ne.mpr q] at this
  intro L
  all_goals (walk_at "mine aws")
  · exact ⟨⟨[], by simp⟩, 0, rfl, fun _ => rfl, fun h => absurd (List.length_eq_zero_iff.mp (by omega)) h⟩
  · refine aMax1 hK (room.deeper _).1 ⟨rfl, rfl, rfl⟩ rfl ?_ rfl rfl rfl
    refine aComp [(("depth" : Str), L + 1)] [bn "depth" (.ref n)] ⟨rfl, rfl, rfl⟩ rfl (cl1 rfl rfl rfl) (by decide) rfl (by decide) rfl ⟨⟨rfl, rfl, rfl, rfl⟩, trivial⟩ rfl ?_
    refine iter_seq (room.deeper _).1 ?_
    walk_at "mine aw"
    refine ⟨ivs xs, .inl rfl, fun Held hH => ⟨fun i S' => S' = S ++ [.list (ivs ((xs.take i).map fun x => dl.getD x.toNat 0))], by simp, fun i S' _ => hH S' (.inl rfl), ?_, by simp; omega, ?_, ?_⟩⟩
    · rintro i S' rfl
      exact ⟨_, list_at_end, by simp; omega⟩
    · rintro C i S' v ys rfl hv hys
      obtain ⟨hi, rfl⟩ := ivs_get hv
      rw [list_at_end] at hys
      cases hys
      obtain ⟨h0, h1⟩ := hx xs[i] (by simp)
      all_goals (walk_at "mine aws")
      refine wItZ (vs := ivs dl) h0 (.inr ⟨n, rfl, ?_⟩) (x := .int (dl.getD xs[i].toNat 0)) (by simp [h1]) (by simp; omega) ?_
      · rw [List.getElem?_append_left (List.getElem?_eq_some_iff.mp hn).1]; exact hn
      · exact ⟨list_at_end, by rw [set_at_end]; dsimp only; rw [List.take_succ_eq_append_getElem hi, List.map_append]; simp [ivs, -List.map_take]⟩
    · rintro S' rfl
      have e : (xs.take (ivs xs).length) = xs := by simp
      rw [e]
      have hne : xs ≠ [] := fun q => by subst q; simp at *
      refine ⟨S.length, _, rfl, list_at_end, by simpa using hne, fun M hM hle => ?_⟩
      all_goals (walk_at "mine aws")
      refine ⟨⟨_, rfl⟩, 1 + M, rfl, fun q => absurd q hne, fun _ => ?_⟩
      obtain ⟨x, hx', rfl⟩ := List.mem_map.mp hM
      exact ⟨x, hx', rfl, fun y hy => hle _ (List.mem_map_of_mem hy)⟩
end
-- W4
section
noncomputable abbrev Nd := Option (Int × Int)
noncomputable def nodeV : Nd → V
  | none => .none
  | some (a, b) => .tup (ivs [a, b])
-- the graph object in the store
structure AigAt (S : List O) (x d nn ni no nt : Nat) (nds : List Nd) (ins outs : List Int) (tbl : List (List Int × V)) : Prop where
  inst : IsInst 217 S x d (aigFs nn ni no nt)
  nodes : S[nn]? = some (.list (nds.map nodeV))
  inputs : S[ni]? = some (.list (ivs ins))
  outputs : S[no]? = some (.list (ivs outs))
  table : S[nt]? = some (.dict tbl)
  ne1 : nn ≠ ni
  ne2 : nn ≠ no
  ne3 : ni ≠ no
theorem getElem?_app {S X : List O} {n : Nat} {o : O} (h : S[n]? = some o) : (S ++ X)[n]? = some o := by
  rw [List.getElem?_append_left (List.getElem?_eq_some_iff.mp h).1]; exact h
theorem IsInst.app {C x d fs} {S : List O} (I : IsInst C S x d fs) (X : List O) : IsInst C (S ++ X) x d fs := ⟨getElem?_app I.x, getElem?_app I.d⟩
theorem AigAt.app {S x d nn ni no nt nds ins outs tbl} (I : AigAt S x d nn ni no nt nds ins outs tbl) (X : List O) : AigAt (S ++ X) x d nn ni no nt nds ins outs tbl :=
  ⟨I.inst.app X, getElem?_app I.nodes, getElem?_app I.inputs, getElem?_app I.outputs, getElem?_app I.table, I.ne1, I.ne2, I.ne3⟩
theorem set_other {S : List O} {n k : Nat} {o o' : O} (h : S[k]? = some o) (hne : n ≠ k) : (S.set n o')[k]? = some o := by
  rw [List.getElem?_set_ne hne]; exact h
theorem set_self {S : List O} {n : Nat} {o o' : O} (h : S[n]? = some o) : (S.set n o')[n]? = some o' := by
  rw [List.getElem?_set_self (List.getElem?_eq_some_iff.mp h).1]
theorem IsInst.setL {C x d fs} {S : List O} {n : Nat} {vs : List V} (I : IsInst C S x d fs) (h : S[n]? = some (.list vs)) (o : O) : IsInst C (S.set n o) x d fs := by
  refine ⟨set_other I.x fun q => ?_, set_other I.d fun q => ?_⟩
  · subst q; rw [I.x] at h; cases h
  · subst q; rw [I.d] at h; cases h

set_option maxHeartbeats 2000000 in
theorem isAnd_walk (G : Gx) (hK : KK G) (A : Around) (room : Room A 1) {S x d nn ni no nt nds ins outs tbl} (I : AigAt S x d nn ni no nt nds ins outs tbl) (k : Nat) (hk : k < nds.length) (hb : nds.length ≤ 1000) :
    AApp G A (.top (.ref 157)) [V.ref x, V.int k] S fun v S' => S' = S ∧ v = .bool (nds[k]).isSome := by
  refine AApp.gen fun P9 hP9 => ?_
  refine aDef (ps := ["self", "node"]) (f := 157) (by rw [hK]; rfl) (by rw [hK]; kernel_rfl) room.depth rfl ?hbind (by decide) (by decide) (by decide) rfl rfl rfl ?_
  case hbind => intro vals h; obtain ⟨a, b, rfl⟩ := vals2 h; rfl
  intro L
  all_goals (walk_at "mine aws")
  refine wFld I.inst rfl ?_
  all_goals (walk_at "mine aws")
  refine wItV (.inr ⟨nn, rfl, I.nodes⟩) (x := nodeV nds[k]) (by simp [hk]) (by simp; omega) ?_
  all_goals (walk_at "mine aws")
  refine ⟨rfl, ?_⟩
  cases nds[k] <;> rfl

set_option maxHeartbeats 2000000 in
theorem addOutput_walk (G : Gx) (hK : KK G) (A : Around) (room : Room A 1) {S x d nn ni no nt nds ins outs tbl} (I : AigAt S x d nn ni no nt nds ins outs tbl) (l : Int) (hb : outs.length ≤ 1000) :
    AApp G A (.top (.ref 150)) [V.ref x, V.int l] S fun v S' => v = .none ∧ S' = S.set no (.list (ivs (outs ++ [l]))) := by
  refine AApp.gen fun P9 hP9 => ?_
  refine aDef (ps := ["self", "literal"]) (f := 150) (by rw [hK]; rfl) (by rw [hK]; kernel_rfl) room.depth rfl ?hbind (by decide) (by decide) (by decide) rfl rfl rfl ?_
  case hbind => intro vals h; obtain ⟨a, b, rfl⟩ := vals2 h; rfl
  intro L
  all_goals (walk_at "mine aws")
  refine wFld I.inst rfl ?_
  refine wRef I.outputs ?_
  all_goals (walk_at "mine aws")
  refine wPut I.outputs (by simp; omega) ?_
  refine ⟨rfl, ?_⟩
  all_goals (walk_at "mine aws")
  exact hP9 _ _ ⟨rfl, by simp⟩

set_option maxHeartbeats 2000000 in
theorem addInput_walk (G : Gx) (hK : KK G) (A : Around) (room : Room A 1) {S x d nn ni no nt nds ins outs tbl} (I : AigAt S x d nn ni no nt nds ins outs tbl) (hb : nds.length ≤ 1000) (hb' : ins.length ≤ 1000) :
    AApp G A (.top (.ref 143)) [V.ref x] S fun v S' => v = .int (2 * nds.length) ∧ S' = (S.set nn (.list ((nds ++ [none]).map nodeV))).set ni (.list (ivs (ins ++ [(nds.length : Int)]))) := by
  refine AApp.gen fun P9 hP9 => ?_
  refine aDef (ps := ["self"]) (f := 143) (by rw [hK]; rfl) (by rw [hK]; kernel_rfl) room.depth rfl ?hbind (by decide) (by decide) (by decide) rfl rfl rfl ?_
  case hbind => intro vals h; obtain ⟨a, rfl⟩ := vals1 h; rfl
  intro L
  all_goals (walk_at "mine aws")
  refine wFld I.inst rfl ?_
  refine wLenL I.nodes (by simp; omega) ?_
  all_goals (walk_at "mine aws")
  refine wFld I.inst rfl ?_
  refine wRef I.nodes ?_
  all_goals (walk_at "mine aws")
  refine wPut I.nodes (by simp; omega) ?_
  refine ⟨rfl, ?_⟩
  all_goals (walk_at "mine aws")
  refine wFld (I.inst.setL I.nodes _) rfl ?_
  have hi := set_other (o' := .list (nds.map nodeV ++ [.none])) I.inputs I.ne1
  refine wRef hi ?_
  all_goals (walk_at "mine aws")
  refine wPut hi (by simp; omega) ?_
  refine ⟨rfl, ?_⟩
  all_goals (walk_at "mine aws")
  refine ⟨?_, ?_⟩
  · simp
  · simp [nodeV]
end
-- W5
section
section
variable {G : Gx} {A : Around} {env : Env} {ls : List (Str × V)} {S : List O}
theorem getZ {v : V} {vs : List V} {z : Int} {x : V} {P : V → List O → Prop} (hz : 0 ≤ z) (hv : SeqV v S vs) (hx : vs[z.toNat]? = some x) (hb : vs.length ≤ 100000) (h : P x S) : AGet G A v (.int z) S P := by
  obtain ⟨k, rfl⟩ : ∃ k : Nat, z = k := ⟨z.toNat, by omega⟩
  exact get_seq hv (by simpa using hx) (by omega) h
theorem setZ {n : Nat} {vs : List V} {z : Int} {x : V} {P : Unit → List O → Prop} (hz : 0 ≤ z) (hS : S[n]? = some (.list vs)) (hk : z.toNat < vs.length) (hb : vs.length ≤ 100000) (h : P () (S.set n (.list (vs.set z.toNat x)))) : ASet G A (.ref n) (.int z) x S P := by
  obtain ⟨k, rfl⟩ : ∃ k : Nat, z = k := ⟨z.toNat, by omega⟩
  exact set_list hS (by simpa using hk) (by omega) (by simpa using h)
end
noncomputable def LitOk (n : Nat) (l : Int) : Prop := 0 ≤ l ∧ l / 2 < n
noncomputable def NdOk (n : Nat) : Nd → Prop
  | none => True
  | some (a, b) => LitOk n a ∧ LitOk n b

-- counts between 0 and m
noncomputable def Cnt (n m : Nat) (cs : List Int) : Prop := cs.length = n ∧ ∀ c ∈ cs, 0 ≤ c ∧ c ≤ m
theorem Cnt.add {n m : Nat} {cs : List Int} (h : Cnt n m cs) (k : Nat) (hk : k < cs.length) : Cnt n (m + 1) (cs.set k (cs[k] + 1)) := by
  refine ⟨by simpa using h.1, fun c hc => ?_⟩
  rcases List.mem_or_eq_of_mem_set hc with hc | rfl
  · have := h.2 c hc; omega
  · have := h.2 cs[k] (by simp); omega
theorem Cnt.le {n m m' : Nat} {cs : List Int} (h : Cnt n m cs) (k : m ≤ m') : Cnt n m' cs := ⟨h.1, fun c hc => by have := h.2 c hc; omega⟩
theorem ivs_set {xs : List Int} {k : Nat} {v : Int} : (ivs xs).set k (.int v) = ivs (xs.set k v) := by simp [ivs, List.map_set]
theorem two_end {S : List O} {a b : O} : (S ++ [a, b])[S.length + 1]? = some b := by simp
theorem two_set {S : List O} {a b c : O} : (S ++ [a, b]).set (S.length + 1) c = S ++ [a, c] := by
  simp

set_option maxHeartbeats 4000000 in
theorem uses_walk (G : Gx) (hK : KK G) (A : Around) (room : Room A 1) {S x d nn ni no nt nds ins outs tbl} (I : AigAt S x d nn ni no nt nds ins outs tbl) (hb : nds.length ≤ 1000) (hb' : outs.length ≤ 1000) (hn : ∀ nd ∈ nds, NdOk nds.length nd) (ho : ∀ l ∈ outs, LitOk nds.length l) :
    AApp G A (.top (.ref 206)) [V.ref x] S fun v S' => ∃ cs, v = .ref (S.length + 1) ∧ S' = S ++ [.list [.int 0], .list (ivs cs)] ∧ Cnt nds.length (2 * nds.length + outs.length) cs := by
  refine AApp.gen fun P9 hP9 => ?_
  refine aDef (ps := ["self"]) (f := 206) (by rw [hK]; rfl) (by rw [hK]; kernel_rfl) room.depth rfl ?hbind (by decide) (by decide) (by decide) rfl rfl rfl ?_
  case hbind => intro vals h; obtain ⟨a, rfl⟩ := vals1 h; rfl
  intro L
  all_goals (walk_at "mine aws")
  refine ⟨by simp, ?_⟩
  all_goals (walk_at "mine aws")
  refine wFld (I.inst.app _) rfl ?_
  refine wLenL (I.app _).nodes (by simp; omega) ?_
  refine b_mulL list_at_end (by simp; omega) ?_
  have e0 : (S ++ [O.list [V.int 0]] ++ [O.list (List.replicate (nds.map nodeV).length (V.int 0))]) = S ++ [.list [.int 0], .list (ivs (List.replicate nds.length 0))] := by simp [ivs]
  rw [e0]
  have el : (S ++ [O.list [V.int 0]]).length = S.length + 1 := by simp
  rw [el]
  walk_at "mine aw"; walk_at "mine aw"
  refine s_for ⟨rfl, rfl, rfl⟩ (.inl rfl) (room.deeper _).1 ?_
  all_goals (walk_at "mine aws")
  refine wFld (I.inst.app _) rfl ?_
  refine ⟨nds.map nodeV, fun i ls' S' => ∃ cs, S' = S ++ [.list [.int 0], .list (ivs cs)] ∧ Cnt nds.length (2 * i) cs ∧ ls' = [bn "self" (.ref x), bn "counts" (.ref (S.length + 1))], .inr ⟨nn, rfl, (I.app _).nodes⟩, ?_, ?_, ?_, ?_⟩
  · refine ⟨_, ?_, _, rfl, ⟨by simp, fun c hc => by have := (List.mem_replicate.mp hc).2; omega⟩, rfl⟩
    ((repeat (refine ⟨rfl, ?_⟩)); exact trivial)
  · rintro i l S' ⟨cs, rfl, _⟩; exact .inr ⟨nn, rfl, (I.app _).nodes⟩
  · rintro Inv9 hI9 i l S' v ⟨cs, rfl, hc, rfl⟩ hv
    rw [List.getElem?_map] at hv
    obtain ⟨nd, hnd, rfl⟩ := Option.map_eq_some_iff.mp hv
    have hok := hn nd (List.mem_of_getElem? hnd)
    cases nd with
    | none =>
      walk_at "mine aw"; walk_at "mine aw"; walk_at "mine aw"; walk_at "mine aw"; walk_at "mine aw"; walk_at "mine aw"; walk_at "mine aw"
      refine iteF ?_
      all_goals (walk_at "mine aws")
      refine ⟨_, ?_, _, rfl, hc.le (by omega), rfl⟩
      ((repeat (refine ⟨rfl, ?_⟩)); exact trivial)
    | some p =>
      obtain ⟨a, b⟩ := p
      walk_at "mine aw"; walk_at "mine aw"; walk_at "mine aw"; walk_at "mine aw"; walk_at "mine aw"; walk_at "mine aw"; walk_at "mine aw"
      refine iteT ?_
      walk_at "mine aw"
      refine s_for ⟨rfl, rfl, rfl⟩ (.inl rfl) (room.deeper _).1 ?_
      walk_at "mine aw"
      refine ⟨ivs [a, b], fun j ls' S' => ∃ cs, S' = S ++ [.list [.int 0], .list (ivs cs)] ∧ Cnt nds.length (2 * i + j) cs ∧ ls' = [bn "self" (.ref x), bn "counts" (.ref (S.length + 1))], .inl rfl, ?_, ?_, ?_, ?_⟩
      · refine ⟨_, ?_, _, rfl, hc, rfl⟩
        ((repeat (refine ⟨rfl, ?_⟩)); exact trivial)
      · rintro j l S' ⟨cs, rfl, _⟩; exact .inl rfl
      · rintro Inv9 hI9 j l S' v ⟨cs, rfl, hc, rfl⟩ hv
        obtain ⟨hj, rfl⟩ := ivs_get hv
        have hl : LitOk nds.length ([a, b][j]) := by
          match j, hj with
          | 0, _ => exact hok.1
          | 1, _ => exact hok.2
        generalize [a, b][j] = z at *
        obtain ⟨h0, h1⟩ := hl
        have hz : (z / 2).toNat < cs.length := by rw [hc.1]; omega
        walk_at "mine aw"
        refine s_augSub ?_ (by intros; rfl)
        walk_at "mine aw"
        walk_at "mine aw"; walk_at "mine aw"; walk_at "mine aw"
        refine b_shr1 (room.deeper _).1 ?_
        refine getZ (by omega) (.inr ⟨_, rfl, two_end⟩) (x := .int cs[(z / 2).toNat]) (by simp [hz]) (by simp; rw [hc.1]; omega) ?_
        walk_at "mine aw"; walk_at "mine aw"
        refine setZ (by omega) two_end (by simpa using hz) (by simp; rw [hc.1]; omega) ?_
        rw [two_set, ivs_set]
        all_goals (walk_at "mine aws")
        refine ⟨_, ?_, _, rfl, hc.add _ hz, rfl⟩
        ((repeat (refine ⟨rfl, ?_⟩)); exact trivial)
      · rintro l S' ⟨cs, rfl, hc, rfl⟩
        all_goals (walk_at "mine aws")
        refine ⟨_, ?_, _, rfl, hc, rfl⟩
        ((repeat (refine ⟨rfl, ?_⟩)); exact trivial)
  · rintro l S' ⟨cs, rfl, hc, rfl⟩
    simp only [List.length_map] at hc
    walk_at "mine aw"
    walk_at "mine aw"
    refine s_for ⟨rfl, rfl, rfl⟩ (.inl rfl) (room.deeper _).1 ?_
    all_goals (walk_at "mine aws")
    refine wFld (I.inst.app _) rfl ?_
    refine ⟨ivs outs, fun j ls' S' => ∃ cs, S' = S ++ [.list [.int 0], .list (ivs cs)] ∧ Cnt nds.length (2 * nds.length + j) cs ∧ ls' = [bn "self" (.ref x), bn "counts" (.ref (S.length + 1))], .inr ⟨no, rfl, (I.app _).outputs⟩, ?_, ?_, ?_, ?_⟩
    · refine ⟨_, ?_, _, rfl, hc, rfl⟩
      ((repeat (refine ⟨rfl, ?_⟩)); exact trivial)
    · rintro j l S' ⟨cs, rfl, _⟩; exact .inr ⟨no, rfl, (I.app _).outputs⟩
    · rintro Inv9 hI9 j l S' v ⟨cs, rfl, hc, rfl⟩ hv
      obtain ⟨hj, rfl⟩ := ivs_get hv
      have hl := ho outs[j] (by simp)
      generalize outs[j] = z at *
      obtain ⟨h0, h1⟩ := hl
      have hz : (z / 2).toNat < cs.length := by rw [hc.1]; omega
      walk_at "mine aw"
      refine s_augSub ?_ (by intros; rfl)
      walk_at "mine aw"
      walk_at "mine aw"; walk_at "mine aw"; walk_at "mine aw"
      refine b_shr1 (room.deeper _).1 ?_
      refine getZ (by omega) (.inr ⟨_, rfl, two_end⟩) (x := .int cs[(z / 2).toNat]) (by simp [hz]) (by simp; rw [hc.1]; omega) ?_
      walk_at "mine aw"; walk_at "mine aw"
      refine setZ (by omega) two_end (by simpa using hz) (by simp; rw [hc.1]; omega) ?_
      rw [two_set, ivs_set]
      all_goals (walk_at "mine aws")
      refine ⟨_, ?_, _, rfl, hc.add _ hz, rfl⟩
      ((repeat (refine ⟨rfl, ?_⟩)); exact trivial)
    · rintro l S' ⟨cs, rfl, hc, rfl⟩
      simp only [List.length_map] at hc
      all_goals (walk_at "mine aws")
      exact ⟨cs, rfl, rfl, hc⟩
end
-- W6
section
noncomputable abbrev Tbl := List (List Int × Int)
noncomputable abbrev tblV (t : Tbl) : List (List Int × V) := t.map fun e => (e.1, V.int e.2)
noncomputable def tget (t : Tbl) (k : List Int) : Option Int := (t.find? fun x => decide (x.1 = k)).map (·.2)
theorem dget_tbl (t : Tbl) (k : List Int) : dget (tblV t) k = (tget t k).map V.int := by
  unfold dget tget
  induction t with
  | nil => rfl
  | cons e r ih =>
    by_cases q : e.1 = k
    · simp [q]
    · rw [show tblV (e :: r) = (e.1, V.int e.2) :: tblV r from rfl, List.find?_cons_of_neg (by simpa using q), List.find?_cons_of_neg (by simpa using q)]; exact ih
theorem Room.u1 {A : Around} {n : Nat} (r : Room A (n + 1)) : A.units + 1 < cLine := by have := r.2.2; omega
-- the graph: nodes and table
structure Gr where
  nds : List Nd
  tbl : Tbl
noncomputable def xor1 (r : Int) : Int := Builtin.bitXor r 1
noncomputable def landN (g : Gr) (l r : Int) : Gr × Int :=
  if l = 0 ∨ l = xor1 r then (g, 0)
  else if l = 1 ∨ l = r then (g, r)
  else match tget g.tbl [l, r] with
    | some n => (g, 2 * n)
    | none => (⟨g.nds ++ [some (l, r)], g.tbl ++ [([l, r], (g.nds.length : Int))]⟩, 2 * (g.nds.length : Int))
noncomputable def land (g : Gr) (l r : Int) : Gr × Int := landN g (min l r) (max l r)

set_option maxHeartbeats 4000000 in
theorem land_walk (G : Gx) (hK : KK G) (A : Around) (room : Room A 2) {S x d nn ni no nt g ins outs} (I : AigAt S x d nn ni no nt g.nds ins outs (tblV g.tbl)) (l r : Int) (hb : g.nds.length ≤ 1000) (hb' : g.tbl.length ≤ 1000) (hn : ∀ e ∈ g.tbl, 0 ≤ e.2) :
    AApp G A (.top (.ref 164)) [V.ref x, V.int l, V.int r] S fun v S' => v = .int (land g l r).2 ∧ ((land g l r).1 = g ∧ S' = S ∨ S' = (S.set nn (.list ((land g l r).1.nds.map nodeV))).set nt (.dict (tblV (land g l r).1.tbl))) := by
  refine aDef (ps := ["self", "l", "r"]) (f := 164) (by rw [hK]; rfl) (by rw [hK]; kernel_rfl) room.depth rfl ?hbind (by decide) (by decide) (by decide) rfl rfl rfl ?_
  case hbind => intro vals h; obtain ⟨a, b, c, rfl⟩ := vals3 h; rfl
  intro L
  refine x_seq (AStm.mono (P := fun f ls' S' => f = .next ∧ SubL [bn "self" (.ref x), bn "l" (.int (min l r)), bn "r" (.int (max l r))] ls' ∧ S' = S) ?_ ?_)
  · walk_at "mine aw"; walk_at "mine aw"; walk_at "mine aw"; walk_at "mine aw"; walk_at "mine aw"; walk_at "mine aw"
    refine iteD (fun hlt => ?_) (fun hlt => ?_)
    · walk_at "mine aw"
      refine s_swap ⟨rfl, rfl, rfl⟩ (room.deeper _).1 (.inl rfl) (.inl rfl) ?_ (by rfl) (by rfl)
      all_goals (walk_at "mine aws")
      refine ⟨by simp, _, _, rfl, ?_⟩
      all_goals (walk_at "mine aws")
      refine ⟨rfl, ?_, rfl⟩
      rw [show min l r = r by omega, show max l r = l by omega]
      ((repeat (refine ⟨rfl, ?_⟩)); exact trivial)
    · all_goals (walk_at "mine aws")
      refine ⟨rfl, ?_, rfl⟩
      rw [show min l r = l by omega, show max l r = r by omega]
      ((repeat (refine ⟨rfl, ?_⟩)); exact trivial)
  · rintro f ls' S' ⟨rfl, hsub, rfl⟩
    show AExecs _ _ _ _ _ _ _
    refine x_sub hsub ?_
    unfold land
    generalize min l r = a at *
    generalize max l r = b at *
    clear l r
    obtain ⟨l, rfl⟩ : ∃ l, l = a := ⟨a, rfl⟩
    obtain ⟨r, rfl⟩ : ∃ r, r = b := ⟨b, rfl⟩
    clear hsub
    have fin : ∀ {P : Prop}, P → P := fun h => h
    unfold landN
    all_goals (walk_at "mine aws")
    · rw [if_pos (.inl ‹_›)]; exact ⟨rfl, .inl ⟨rfl, rfl⟩⟩
    · rw [if_pos (.inr ‹_›)]; exact ⟨rfl, .inl ⟨rfl, rfl⟩⟩
    · rw [if_neg (by rintro (h | h) <;> contradiction), if_pos (.inl ‹_›)]; exact ⟨rfl, .inl ⟨rfl, rfl⟩⟩
    · rw [if_neg (by rintro (h | h) <;> contradiction), if_pos (.inr ‹_›)]; exact ⟨rfl, .inl ⟨rfl, rfl⟩⟩
    · rw [if_neg (by rintro (h | h) <;> contradiction), if_neg (by rintro (h | h) <;> contradiction)]
      refine aDictGet (room.deeper _).u1 ?_ (by rfl) (by rfl)
      all_goals (walk_at "mine aws")
      refine wFld I.inst rfl ?_
      refine ⟨nt, rfl, ⟨_, I.table⟩, ?_⟩
      all_goals (walk_at "mine aws")
      refine ⟨by simp, ?_⟩
      all_goals (walk_at "mine aws")
      refine ⟨[l, r], _, _, rfl, I.table, ?_⟩
      rw [dget_tbl]
      cases hg : tget g.tbl [l, r] with
      | some n =>
        have h0 : 0 ≤ n := by
          unfold tget at hg
          obtain ⟨e, he, rfl⟩ := Option.map_eq_some_iff.mp hg
          exact hn e (List.mem_of_find?_eq_some he)
        simp only [Option.map_some, Option.getD_some]
        all_goals (walk_at "mine aws")
        exact ⟨rfl, .inl ⟨trivial, rfl⟩⟩
      | none =>
        simp only [Option.map_none, Option.getD_none]
        have hdn : dget (tblV g.tbl) [l, r] = none := by rw [dget_tbl, hg]; rfl
        all_goals (walk_at "mine aws")
        refine wFld I.inst rfl ?_
        refine wLenL I.nodes (by simp; omega) ?_
        all_goals (walk_at "mine aws")
        refine wFld I.inst rfl ?_
        refine wRef I.nodes ?_
        all_goals (walk_at "mine aws")
        refine ⟨by simp, ?_⟩
        refine wPut I.nodes (by simp; omega) ?_
        refine ⟨rfl, ?_⟩
        walk_at "mine aw"
        walk_at "mine aw"
        refine s_assignSub ?_ (by rfl)
        all_goals (walk_at "mine aws")
        refine wFld (I.inst.setL I.nodes _) rfl ?_
        all_goals (walk_at "mine aws")
        refine ⟨by simp, ?_⟩
        have hne : nn ≠ nt := fun q => by subst q; have h1 := I.nodes; rw [I.table] at h1; cases h1
        refine set_dict_new (ks := [l, r]) (room.deeper _).u1 (set_other I.table hne) hdn (by simp; omega) ?_
        all_goals (walk_at "mine aws")
        refine ⟨by simp, .inr ?_⟩
        simp [nodeV]
end
-- W7
section
-- everything but place t stays
structure Grow (t : Nat) (S S' : List O) : Prop where
  keep : ∀ (i : Nat) o, i ≠ t → S[i]? = some o → S'[i]? = some o
  len : S.length ≤ S'.length
theorem Grow.refl {t S} : Grow t S S := ⟨fun _ _ _ e => e, Nat.le_refl _⟩
theorem Grow.trans {t S S' S''} (a : Grow t S S') (b : Grow t S' S'') : Grow t S S'' := ⟨fun i o h e => b.keep i o h (a.keep i o h e), Nat.le_trans a.len b.len⟩
theorem Grow.app {t S} (X : List O) : Grow t S (S ++ X) := ⟨fun _ _ _ e => getElem?_app e, by simp⟩
theorem Grow.set {t S o} : Grow t S (S.set t o) := ⟨fun i _ h e => set_other e (Ne.symm h), by simp⟩

noncomputable def dominated (kept : List (List Int)) (c : List Int) : Bool := kept.any fun o => o.all fun x => c.contains x
noncomputable def domFold : List (List Int) → List (List Int) → List (List Int)
  | kept, [] => kept
  | kept, c :: cs => domFold (if dominated kept c then kept else kept ++ [c]) cs
theorem domFold_snoc : ∀ (cs kept : List (List Int)) (c : List Int), domFold kept (cs ++ [c]) = if dominated (domFold kept cs) c then domFold kept cs else domFold kept cs ++ [c]
  | [], kept, c => rfl
  | d :: cs, kept, c => domFold_snoc cs _ c
noncomputable abbrev lamP : Pos := ⟨30, 32, 30, 59⟩
noncomputable abbrev lamQ : Str := Str.ofString "without_dominated" ++ Str.ofString ".<locals>." ++ Str.ofString "<lambda>"
theorem Room.u2 {A : Around} {n : Nat} (r : Room A (n + 1)) : A.units + 2 < cLine := by have := r.2.2; omega
theorem set_same {S : List O} {n : Nat} {o : O} (h : S[n]? = some o) : S.set n o = S := by
  apply List.ext_getElem?
  intro i
  by_cases q : n = i
  · subst q; rw [set_self h, h]
  · rw [List.getElem?_set_ne q]
theorem LamAt.app {S : List O} {t k oc pos q} (h : LamAt S t k oc pos q) (X : List O) : LamAt (S ++ X) t k oc pos q := ⟨getElem?_app h.tab, getElem?_app h.code, h.record⟩
theorem LamAt.setL {S : List O} {t k oc pos q n vs o} (h : LamAt S t k oc pos q) (hn : S[n]? = some (.list vs)) : LamAt (S.set n o) t k oc pos q :=
  ⟨set_other h.tab (fun e => by subst e; rw [h.tab] at hn; cases hn), set_other h.code (fun e => by subst e; rw [h.code] at hn; cases hn), h.record⟩
theorem LamTab.of {S : List O} {t k oc pos q} (h : LamAt S t k oc pos q) : LamTab S t pos q := .inr ⟨k, oc, h⟩
theorem LamTab.app {S : List O} {t pos q} (h : LamTab S t pos q) (X : List O) : LamTab (S ++ X) t pos q := by
  rcases h with h | ⟨k, oc, h⟩
  · exact .inl (getElem?_app h)
  · exact .of (h.app X)
theorem LamTab.ne {S : List O} {t pos q n vs} (h : LamTab S t pos q) (hn : S[n]? = some (.list vs)) : n ≠ t := fun e => by
  subst e
  rcases h with h | ⟨k, oc, h⟩
  · rw [h] at hn; cases hn
  · rw [h.tab] at hn; cases hn

set_option maxHeartbeats 4000000 in
theorem dom_walk (G : Gx) (hK : KK G) (A : Around) (room : Room A 3) {t : Nat} (hp : (t, 37) ∈ G.pin) (C : CodeHd G.h₀ 41 37) (rows : List (List Int)) (n : Nat) (S : List O) (hT : LamTab S t lamP lamQ) (hn : S[n]? = some (.list (rows.map rowV))) (hz : rows.length < 64) (hr : ∀ r ∈ rows, r.length ≤ 1000) :
    AApp G A (.top (.ref 42)) [V.ref n] S fun v S' => ∃ k rows', rows'.Perm rows ∧ v = .ref k ∧ S'[k]? = some (.list ((domFold [] rows').map rowV)) ∧ S.length ≤ k ∧ Grow t S S' ∧ LamTab S' t lamP lamQ := by
  refine AApp.gen fun P9 hP9 => ?_
  refine aDef (ps := ["cuts"]) (f := 42) (by rw [hK]; rfl) (by rw [hK]; kernel_rfl) room.depth rfl ?hbind (by decide) (by decide) (by decide) rfl rfl rfl ?_
  case hbind => intro vals h; obtain ⟨a, rfl⟩ := vals1 h; rfl
  intro L
  all_goals (walk_at "mine aws")
  refine ⟨by simp, ?_⟩
  walk_at "mine aw"; walk_at "mine aw"
  refine s_for ⟨rfl, rfl, rfl⟩ (.inl rfl) (room.deeper _).1 ?_
  refine aSortedKey ⟨rfl, rfl, rfl⟩ rfl (by rw [hK]; exact nsSorted _) blSorted (room.deeper _).u2 ?_ (by rfl) (by rfl)
  walk_at "mine aw"
  refine ⟨n, rows, rfl, hz, ?_⟩
  have htl : t < S.length := by
    rcases hT with h | ⟨k, oc, h⟩
    · exact (List.getElem?_eq_some_iff.mp h).1
    · exact (List.getElem?_eq_some_iff.mp h.tab).1
  refine aLambda (t := t) (c := 41) (P := 37) rfl rfl C hp rfl rfl (hT.app _) fun S₁ kc oc ctv hS₁ hL => ?_
  have g01 : Grow t (S ++ [O.list []]) S₁ := by
    rcases hS₁ with rfl | ⟨oc', rfl⟩
    · exact .refl
    · exact Grow.set.trans (.app _)
  have hkS : S₁[S.length]? = some (.list []) := g01.keep _ _ (Nat.ne_of_gt htl) list_at_end
  refine ⟨_, rfl, getElem?_app (g01.keep n _ (hT.ne hn) (getElem?_app hn)), fun r hrm => ?_, fun rows' hperm => ?_⟩
  · refine aLamCall (ps := ["row"]) list_at_end (hL.app _) (Room.in1 (room.deeper _)).depth rfl ?_ (by decide) (by decide) (by decide) rfl rfl rfl ?_
    · intro c vals h; obtain ⟨a, rfl⟩ := vals1 h; rfl
    intro c a L'
    have hrl := hr r hrm
    all_goals (walk_at "mine aws")
    exact ⟨by simp, rfl, rfl⟩
  · have hS2 : ∀ X : List O, (S₁ ++ X)[S.length]? = some (.list []) := fun X => getElem?_app hkS
    generalize hF : O.raw (lamF (Str.ofString "<lambda>") _ _ _ _ _ ctv) [kc] = fO
    have hlen : (S₁ ++ [fO]).length = S₁.length + 1 := by simp
    have hkeep : (S₁ ++ [fO] ++ [O.list (rows'.map rowV)])[S.length]? = some (.list []) := getElem?_app (getElem?_app hkS)
    have hsort : (S₁ ++ [fO] ++ [O.list (rows'.map rowV)])[S₁.length + 1]? = some (.list (rows'.map rowV)) := by simp
    have hL2 := (hL.app [fO]).app [O.list (rows'.map rowV)]
    have g2 : Grow t S (S₁ ++ [fO] ++ [O.list (rows'.map rowV)]) := ((Grow.app _).trans g01).trans ((Grow.app _).trans (Grow.app _))
    have hne : S.length ≠ S₁.length + 1 := by have := g01.len; simp at this; omega
    have hrl : ∀ r ∈ rows', r.length ≤ 1000 := fun r h => hr r (hperm.mem_iff.mp h)
    have hz' : rows'.length < 64 := by have := hperm.length_eq; omega
    rw [hlen]
    generalize S₁ ++ [fO] ++ [O.list (rows'.map rowV)] = S₂ at *
    have kl : ∀ (cs kept : List (List Int)), (domFold kept cs).length ≤ kept.length + cs.length := by
      intro cs
      induction cs with
      | nil => intro kept; simp [domFold]
      | cons c cs ih =>
        intro kept
        show (domFold (if dominated kept c then kept else kept ++ [c]) cs).length ≤ _
        rw [List.length_cons]
        have h1 := ih kept
        have h2 := ih (kept ++ [c])
        rw [List.length_append, List.length_singleton] at h2
        cases dominated kept c with
        | true => rw [if_pos rfl]; omega
        | false => rw [if_neg Bool.false_ne_true]; omega
    refine ⟨rows'.map rowV, fun i ls' S' => S' = S₂.set S.length (.list ((domFold [] (rows'.take i)).map rowV)) ∧ ls' = [bn "cuts" (.ref n), bn "kept" (.ref S.length)], .inr ⟨_, rfl, hsort⟩, ?_, ?_, ?_, ?_⟩
    · refine ⟨_, ?_, ?_, rfl⟩
      · ((repeat (refine ⟨rfl, ?_⟩)); exact trivial)
      · simp only [List.take_zero, domFold, List.map_nil]
        exact (set_same hkeep).symm
    · rintro i l S' ⟨rfl, _⟩; exact .inr ⟨_, rfl, set_other hsort hne⟩
    · rintro Inv9 hI9 i l S' v ⟨rfl, rfl⟩ hv
      rw [List.getElem?_map] at hv
      obtain ⟨c, hc, rfl⟩ := Option.map_eq_some_iff.mp hv
      have hi : i < rows'.length := (List.getElem?_eq_some_iff.mp hc).1
      have ec : rows'[i] = c := (List.getElem?_eq_some_iff.mp hc).2
      have hself : (S₂.set S.length (.list ((domFold [] (rows'.take i)).map rowV)))[S.length]? = some (.list ((domFold [] (rows'.take i)).map rowV)) := set_self hkeep
      generalize hkp : domFold [] (rows'.take i) = kept at *
      have hkl : kept.length ≤ 64 := by have := kl (rows'.take i) []; rw [hkp] at this; simp at this; omega
      walk_at "mine aw"; walk_at "mine aw"; walk_at "mine aw"; walk_at "mine aw"
      walk_at "mine aw"
      refine s_for ⟨rfl, rfl, rfl⟩ (.inl rfl) (room.deeper _).1 ?_
      walk_at "mine aw"
      refine ⟨kept.map rowV, fun j ls' S' => S' = S₂.set S.length (.list (kept.map rowV)) ∧ ls' = [bn "cuts" (.ref n), bn "kept" (.ref S.length), bn "cut" (rowV c), bn "free" (.bool (!dominated (kept.take j) c))], .inr ⟨_, rfl, hself⟩, ?_, ?_, ?_, ?_⟩
      · refine ⟨_, ?_, rfl, rfl⟩
        ((repeat (refine ⟨rfl, ?_⟩)); exact trivial)
      · rintro j l S' ⟨rfl, _⟩; exact .inr ⟨_, rfl, hself⟩
      · rintro Inv9 hI9 j l S' v ⟨rfl, rfl⟩ hv
        rw [List.getElem?_map] at hv
        obtain ⟨o, ho, rfl⟩ := Option.map_eq_some_iff.mp hv
        have hj : j < kept.length := (List.getElem?_eq_some_iff.mp ho).1
        have eo : kept[j] = o := (List.getElem?_eq_some_iff.mp ho).2
        have hdom : dominated (kept.take (j + 1)) c = (dominated (kept.take j) c || o.all fun x => c.contains x) := by
          rw [List.take_succ_eq_append_getElem hj, eo]; simp [dominated]
        walk_at "mine aw"
        walk_at "mine aw"
        refine tValue ?_ (by rfl)
        ((with_reducible refine' aCallT ?k0 ?k6 ?k1 ?k2 ?k3 ?_ ?k4 ?k5); (case k0 => assumption); (case k6 => exact rfl); (case k1 => decide); (case k2 => exact ⟨rfl, rfl, rfl⟩); (case k3 => exact rfl); (case k4 => exact rfl); (case k5 => exact rfl))
        walk_at "mine aw"; walk_at "mine aw"; walk_at "mine aw"; walk_at "mine aw"; walk_at "mine aw"
        refine (within_walk G hK _ ((room.deeper _).le (by omega)) o c _).mono ?_
        rintro v S' ⟨rfl, rfl⟩
        refine truth_bool ?_
        cases hw : o.all fun x => c.contains x with
        | true =>
          refine iteT ?_
          all_goals (walk_at "mine aws")
          refine ⟨_, ?_, rfl, rfl⟩
          rw [hdom, hw]
          simp only [Bool.or_true, Bool.not_true]
          ((repeat (refine ⟨rfl, ?_⟩)); exact trivial)
        | false =>
          refine iteF ?_
          all_goals (walk_at "mine aws")
          refine ⟨_, ?_, rfl, rfl⟩
          rw [hdom, hw, Bool.or_false]
          ((repeat (refine ⟨rfl, ?_⟩)); exact trivial)
      · rintro l S' ⟨rfl, rfl⟩
        have et : kept.take (kept.map rowV).length = kept := by simp
        rw [et]
        have hstep : domFold [] (rows'.take (i + 1)) = if dominated kept c then kept else kept ++ [c] := by
          rw [List.take_succ_eq_append_getElem hi, ec, domFold_snoc, hkp]
        walk_at "mine aw"
        walk_at "mine aw"
        walk_at "mine aw"
        refine tValue ?_ (by rfl)
        walk_at "mine aw"
        refine truth_bool ?_
        cases hd : dominated kept c with
        | true =>
          refine iteF ?_
          all_goals (walk_at "mine aws")
          refine ⟨_, ?_, ?_, rfl⟩
          · ((repeat (refine ⟨rfl, ?_⟩)); exact trivial)
          · rw [hstep, hd, if_pos rfl]
        | false =>
          refine iteT ?_
          all_goals (walk_at "mine aws")
          refine wRef hself ?_
          all_goals (walk_at "mine aws")
          refine wPut hself (by simp; omega) ?_
          refine ⟨rfl, ?_⟩
          all_goals (walk_at "mine aws")
          refine ⟨_, ?_, ?_, rfl⟩
          · ((repeat (refine ⟨rfl, ?_⟩)); exact trivial)
          · rw [hstep, hd, List.set_set]; simp
    · rintro l S' ⟨rfl, rfl⟩
      have et : rows'.take (rows'.map rowV).length = rows' := by simp
      rw [et]
      all_goals (walk_at "mine aws")
      refine ⟨S.length, rows', hperm, rfl, set_self hkeep, Nat.le_refl _, ?_, .of (hL2.setL hkeep)⟩
      refine ⟨fun j o hj e => ?_, by rw [List.length_set]; exact g2.len⟩
      rw [List.getElem?_set_ne (Nat.ne_of_gt (List.getElem?_eq_some_iff.mp e).1)]
      exact g2.keep j o hj e
end
-- W8
section
noncomputable def merge1 (k : Int) (a b : List Int) : Option (List Int) := if ((mergeL a b).length : Int) > k then none else some (mergeL a b)
noncomputable def mergeRow (k : Int) (a : List Int) (R : List (List Int)) : List (List Int) := R.filterMap (merge1 k a)
noncomputable def mergeAll (k : Int) (L R : List (List Int)) : List (List Int) := L.flatMap fun a => mergeRow k a R
theorem mergeRow_le (k : Int) (a : List Int) (R : List (List Int)) : (mergeRow k a R).length ≤ R.length := List.length_filterMap_le _ _
theorem mergeL_len : ∀ xs ys : List Int, (mergeL xs ys).length ≤ xs.length + ys.length
  | [], ys => by simp [mergeL]
  | x :: xs, [] => by simp [mergeL]
  | x :: xs, y :: ys => by
    unfold mergeL
    split
    · have := mergeL_len xs (y :: ys); simp at this ⊢; omega
    · split
      · have := mergeL_len (x :: xs) ys; simp at this ⊢; omega
      · have := mergeL_len xs ys; simp; omega
  termination_by xs ys => xs.length + ys.length
theorem set_mid {S X : List O} {o o' : O} : (S ++ [o] ++ X).set S.length o' = S ++ [o'] ++ X := by
  rw [List.set_append_left _ _ (by simp), set_at_end]
theorem get_mid {S X : List O} {o : O} : (S ++ [o] ++ X)[S.length]? = some o := getElem?_app list_at_end

noncomputable def nodeCuts (k : Int) (most : Nat) (node : Int) (rows' : List (List Int)) : List (List Int) := (domFold [] rows').take most ++ [[node]]

set_option maxHeartbeats 8000000 in
theorem nodeCuts_walk (G : Gx) (hK : KK G) (A : Around) (room : Room A 5) {t : Nat} (hp : (t, 37) ∈ G.pin) (C : CodeHd G.h₀ 41 37) (node k : Int) (most : Nat) (L R : List (List Int)) (nl nr : Nat) (S : List O) (hT : LamTab S t lamP lamQ)
    (hl : S[nl]? = some (.list (L.map rowV))) (hr : S[nr]? = some (.list (R.map rowV))) (hL : L.length ≤ 100) (hR : R.length ≤ 100) (hLr : ∀ r ∈ L, r.length ≤ 100) (hRr : ∀ r ∈ R, r.length ≤ 100) (hz : (mergeAll k L R).length < 64) :
    AApp G A (.top (.ref 49)) [V.int node, V.ref nl, V.ref nr, V.int k, V.int most] S fun v S' => ∃ kk rows', rows'.Perm (mergeAll k L R) ∧ v = .ref kk ∧ S'[kk]? = some (.list ((nodeCuts k most node rows').map rowV)) ∧ S.length ≤ kk ∧ Grow t S S' ∧ LamTab S' t lamP lamQ := by
  refine AApp.gen fun P9 hP9 => ?_
  refine aDef (ps := ["node", "left", "right", "k", "most"]) (f := 49) (by rw [hK]; rfl) (by rw [hK]; kernel_rfl) room.depth rfl ?hbind (by decide) (by decide) (by decide) rfl rfl rfl ?_
  case hbind => intro vals h; obtain ⟨a, b, c, d, e, rfl⟩ := vals5 h; rfl
  intro LL
  all_goals (walk_at "mine aws")
  refine ⟨by simp, ?_⟩
  walk_at "mine aw"; walk_at "mine aw"
  refine s_for ⟨rfl, rfl, rfl⟩ (.inl rfl) (room.deeper _).1 ?_
  walk_at "mine aw"
  refine ⟨L.map rowV, fun i ls' S' => (∃ X, S' = S ++ [.list ((mergeAll k (L.take i) R).map rowV)] ++ X) ∧ ls' = [bn "node" (.int node), bn "left" (.ref nl), bn "right" (.ref nr), bn "k" (.int k), bn "most" (.int most), bn "merged" (.ref S.length)], .inr ⟨_, rfl, getElem?_app hl⟩, ?_, ?_, ?_, ?_⟩
  · refine ⟨_, ?_, ⟨[], by simp [mergeAll]⟩, rfl⟩
    ((repeat (refine ⟨rfl, ?_⟩)); exact trivial)
  · rintro i l S' ⟨⟨X, rfl⟩, _⟩; exact .inr ⟨_, rfl, getElem?_app (getElem?_app hl)⟩
  · rintro Inv9 hI9 i l S' v ⟨⟨X, rfl⟩, rfl⟩ hv
    rw [List.getElem?_map] at hv
    obtain ⟨a, ha, rfl⟩ := Option.map_eq_some_iff.mp hv
    have hi : i < L.length := (List.getElem?_eq_some_iff.mp ha).1
    have ea : L[i] = a := (List.getElem?_eq_some_iff.mp ha).2
    have hal := hLr a (List.mem_of_getElem? ha)
    have hm0 : (mergeAll k (L.take i) R).length ≤ 10000 := by
      have h1 : ∀ (L' : List (List Int)), (mergeAll k L' R).length ≤ L'.length * 100 := by
        intro L'
        induction L' with
        | nil => simp [mergeAll]
        | cons c cs ih => have := mergeRow_le k c R; simp [mergeAll] at ih ⊢; omega
      have := h1 (L.take i)
      have h2 : (L.take i).length ≤ 100 := by simp; omega
      omega
    generalize hM : mergeAll k (L.take i) R = M at *
    walk_at "mine aw"
    refine s_for ⟨rfl, rfl, rfl⟩ (.inl rfl) (room.deeper _).1 ?_
    walk_at "mine aw"
    refine ⟨R.map rowV, fun j ls' S' => (∃ X, S' = S ++ [.list ((M ++ mergeRow k a (R.take j)).map rowV)] ++ X) ∧ ls' = [bn "node" (.int node), bn "left" (.ref nl), bn "right" (.ref nr), bn "k" (.int k), bn "most" (.int most), bn "merged" (.ref S.length), bn "one" (rowV a)], .inr ⟨_, rfl, getElem?_app (getElem?_app hr)⟩, ?_, ?_, ?_, ?_⟩
    · refine ⟨_, ?_, ⟨X, by simp [mergeRow]⟩, rfl⟩
      ((repeat (refine ⟨rfl, ?_⟩)); exact trivial)
    · rintro j l S' ⟨⟨X, rfl⟩, _⟩; exact .inr ⟨_, rfl, getElem?_app (getElem?_app hr)⟩
    · rintro Inv9 hI9 j l S' v ⟨⟨X, rfl⟩, rfl⟩ hv
      rw [List.getElem?_map] at hv
      obtain ⟨b, hb, rfl⟩ := Option.map_eq_some_iff.mp hv
      have hj : j < R.length := (List.getElem?_eq_some_iff.mp hb).1
      have eb : R[j] = b := (List.getElem?_eq_some_iff.mp hb).2
      have hbl := hRr b (List.mem_of_getElem? hb)
      have hstep : mergeRow k a (R.take (j + 1)) = mergeRow k a (R.take j) ++ (merge1 k a b).toList := by
        rw [List.take_succ_eq_append_getElem hj, eb]
        simp only [mergeRow, List.filterMap_append]
        cases h : merge1 k a b <;> simp [h]
      have hml : (mergeRow k a (R.take j)).length ≤ 100 := by have := mergeRow_le k a (R.take j); simp at this; omega
      walk_at "mine aw"
      walk_at "mine aw"
      ((with_reducible refine' aCallT ?k0 ?k6 ?k1 ?k2 ?k3 ?_ ?k4 ?k5); (case k0 => assumption); (case k6 => exact rfl); (case k1 => decide); (case k2 => exact ⟨rfl, rfl, rfl⟩); (case k3 => exact rfl); (case k4 => exact rfl); (case k5 => exact rfl))
      walk_at "mine aw"; walk_at "mine aw"; walk_at "mine aw"; walk_at "mine aw"; walk_at "mine aw"; walk_at "mine aw"; walk_at "mine aw"
      refine (merge_walk G hK _ ((room.deeper _).le (by omega)) a b k _ (by omega) (by omega)).mono ?_
      rintro v S' ⟨⟨Y, rfl⟩, rfl⟩
      by_cases hg : ((mergeL a b).length : Int) > k
      · rw [if_pos hg]
        have h1 : merge1 k a b = none := by unfold merge1; rw [if_pos hg]
        walk_at "mine aw"; walk_at "mine aw"; walk_at "mine aw"; walk_at "mine aw"; walk_at "mine aw"; walk_at "mine aw"; walk_at "mine aw"; walk_at "mine aw"
        refine iteF ?_
        all_goals (walk_at "mine aws")
        refine ⟨_, ?_, ⟨X ++ Y, ?_⟩, rfl⟩
        · ((repeat (refine ⟨rfl, ?_⟩)); exact trivial)
        · rw [hstep, h1]; simp
      · rw [if_neg hg]
        have h1 : merge1 k a b = some (mergeL a b) := by unfold merge1; rw [if_neg hg]
        walk_at "mine aw"; walk_at "mine aw"; walk_at "mine aw"; walk_at "mine aw"; walk_at "mine aw"; walk_at "mine aw"; walk_at "mine aw"; walk_at "mine aw"
        refine iteT ?_
        all_goals (walk_at "mine aws")
        refine wRef (getElem?_app get_mid) ?_
        all_goals (walk_at "mine aws")
        refine wPut (getElem?_app get_mid) (by simp; omega) ?_
        refine ⟨rfl, ?_⟩
        all_goals (walk_at "mine aws")
        refine ⟨_, ?_, ⟨X ++ Y, ?_⟩, rfl⟩
        · ((repeat (refine ⟨rfl, ?_⟩)); exact trivial)
        · rw [hstep, h1, List.append_assoc, set_mid]; simp [rowV, ivs]
    · rintro l S' ⟨⟨X, rfl⟩, rfl⟩
      walk_at "mine aw"
      walk_at "mine aw"
      walk_at "mine aw"
      refine ⟨_, ?_, ⟨X, ?_⟩, rfl⟩
      · ((repeat (refine ⟨rfl, ?_⟩)); exact trivial)
      · have e1 : R.take (R.map rowV).length = R := by simp
        rw [e1, List.take_succ_eq_append_getElem hi, ea]
        have : mergeAll k (L.take i ++ [a]) R = M ++ mergeRow k a R := by rw [← hM]; simp [mergeAll]
        rw [this]
  · rintro l S' ⟨⟨X, rfl⟩, rfl⟩
    have e1 : L.take (L.map rowV).length = L := by simp
    rw [e1]
    have hmr : ∀ r ∈ mergeAll k L R, r.length ≤ 1000 := by
      intro r hr'
      unfold mergeAll mergeRow at hr'
      rw [List.mem_flatMap] at hr'
      obtain ⟨a, ha, hr'⟩ := hr'
      rw [List.mem_filterMap] at hr'
      obtain ⟨b, hb, e⟩ := hr'
      unfold merge1 at e
      split at e
      · cases e
      · cases e
        have h1 := mergeL_len a b
        have h2 := hLr a ha
        have h3 := hRr b hb
        omega
    have g0 : Grow t S (S ++ [O.list ((mergeAll k L R).map rowV)] ++ X) := (Grow.app _).trans (.app _)
    walk_at "mine aw"
    walk_at "mine aw"
    walk_at "mine aw"
    refine aSliceTo ?_ (by intro _ _; rfl)
    ((with_reducible refine' aCallT ?k0 ?k6 ?k1 ?k2 ?k3 ?_ ?k4 ?k5); (case k0 => assumption); (case k6 => exact rfl); (case k1 => decide); (case k2 => exact ⟨rfl, rfl, rfl⟩); (case k3 => exact rfl); (case k4 => exact rfl); (case k5 => exact rfl))
    walk_at "mine aw"; walk_at "mine aw"; walk_at "mine aw"
    refine (dom_walk G hK _ ((room.deeper _).le (by omega)) hp C (mergeAll k L R) S.length _ ((hT.app _).app _) get_mid hz hmr).mono ?_
    rintro v S₃ ⟨kd, rows', hperm, rfl, hkd, hlen, hg, hTab⟩
    have kl : (domFold [] rows').length < 64 := by
      have h1 : ∀ (cs kept : List (List Int)), (domFold kept cs).length ≤ kept.length + cs.length := by
        intro cs
        induction cs with
        | nil => intro kept; simp [domFold]
        | cons c cs ih =>
          intro kept
          show (domFold (if dominated kept c then kept else kept ++ [c]) cs).length ≤ _
          rw [List.length_cons]
          have h1 := ih kept
          have h2 := ih (kept ++ [c])
          rw [List.length_append, List.length_singleton] at h2
          cases dominated kept c with
          | true => rw [if_pos rfl]; omega
          | false => rw [if_neg Bool.false_ne_true]; omega
      have := h1 rows' []
      have := hperm.length_eq
      simp at *; omega
    walk_at "mine aw"
    refine ⟨kd, _, most, rfl, rfl, hkd, by simp; omega, ?_⟩
    all_goals (walk_at "mine aws")
    refine wRef list_at_end ?_
    all_goals (walk_at "mine aws")
    refine ⟨by simp, ?_⟩
    refine wPut list_at_end (by simp; omega) ?_
    refine ⟨rfl, ?_⟩
    all_goals (walk_at "mine aws")
    rw [set_at_end]
    refine ⟨S₃.length, rows', hperm, rfl, ?_, ?_, (g0.trans hg).trans (.app _), hTab.app _⟩
    · rw [list_at_end]; simp [nodeCuts, rowV, ivs]
    · have := (g0.trans hg).len; omega
end
-- W9
section
noncomputable abbrev Cuts := List (List Int)
-- the row of node i, from the rows below
noncomputable def RowOk (nds : List Nd) (k : Int) (most : Nat) (cuts : List Cuts) (i : Nat) (c : Cuts) : Prop :=
  match nds.getD i none with
  | none => c = if i = 0 then [[]] else [[(i : Int)]]
  | some (a, b) => ∃ rows', rows'.Perm (mergeAll k (cuts.getD (a / 2).toNat []) (cuts.getD (b / 2).toNat [])) ∧ c = nodeCuts k most i rows'
noncomputable def RowsOk (nds : List Nd) (k : Int) (most : Nat) (cuts : List Cuts) : Prop := ∀ i c, cuts[i]? = some c → RowOk nds k most cuts i c
noncomputable def Low (nds : List Nd) : Prop := nds[0]? = some none ∧ ∀ (i : Nat) (a b : Int), nds[i]? = some (some (a, b)) → 0 ≤ a ∧ (a / 2).toNat < i ∧ 0 ≤ b ∧ (b / 2).toNat < i
-- the sizes that the walk of a conjunction's row needs
noncomputable def SmallAt (k : Int) (L R : Cuts) : Prop := L.length ≤ 100 ∧ R.length ≤ 100 ∧ (∀ r ∈ L, r.length ≤ 100) ∧ (∀ r ∈ R, r.length ≤ 100) ∧ (mergeAll k L R).length < 64
noncomputable def Small (nds : List Nd) (k : Int) (most : Nat) : Prop := ∀ cuts : List Cuts, RowsOk nds k most cuts → ∀ (i : Nat) (a b : Int), nds[i]? = some (some (a, b)) → (a / 2).toNat < cuts.length → (b / 2).toNat < cuts.length → SmallAt k (cuts.getD (a / 2).toNat []) (cuts.getD (b / 2).toNat [])

theorem AigAt.grow {S S' : List O} {x d nn ni no nt nds ins outs tbl t} (I : AigAt S x d nn ni no nt nds ins outs tbl) (g : Grow t S S') (hT : LamTab S t lamP lamQ) (hx : x ≠ t) : AigAt S' x d nn ni no nt nds ins outs tbl := by
  have hd : d ≠ t := fun e => by
    subst e
    have := I.inst.d
    rcases hT with h | ⟨k, oc, h⟩
    · rw [h] at this; cases this
    · rw [h.tab] at this; cases this
  have ht : nt ≠ t := fun e => by
    subst e
    have := I.table
    rcases hT with h | ⟨k, oc, h⟩
    · rw [h] at this; cases this
    · rw [h.tab] at this; cases this
  exact ⟨⟨g.keep _ _ hx I.inst.x, g.keep _ _ hd I.inst.d⟩, g.keep _ _ (hT.ne I.nodes) I.nodes, g.keep _ _ (hT.ne I.inputs) I.inputs, g.keep _ _ (hT.ne I.outputs) I.outputs, g.keep _ _ ht I.table, I.ne1, I.ne2, I.ne3⟩

-- the rows in the store: a list of lists
structure RowsAt (S : List O) (K lo : Nat) (idx : List Nat) (cuts : List Cuts) : Prop where
  main : S[K]? = some (.list (idx.map V.ref))
  len : idx.length = cuts.length
  row : ∀ (j : Nat) c, cuts[j]? = some c → ∃ n, idx[j]? = some n ∧ S[n]? = some (.list (c.map rowV)) ∧ lo ≤ n ∧ n ≠ K
theorem RowsAt.grow {S S' : List O} {K lo t idx cuts} (h : RowsAt S K lo idx cuts) (g : Grow t S S') (hT : LamTab S t lamP lamQ) : RowsAt S' K lo idx cuts :=
  ⟨g.keep _ _ (hT.ne h.main) h.main, h.len, fun j c e => by obtain ⟨n, a, b, r⟩ := h.row j c e; exact ⟨n, a, g.keep _ _ (hT.ne b) b, r⟩⟩
theorem RowsAt.snoc {S : List O} {K lo n : Nat} {idx cuts c} (h : RowsAt S K lo idx cuts) (hn : S[n]? = some (.list (c.map rowV))) (hlo : lo ≤ n) (hK : n ≠ K) : RowsAt (S.set K (.list (idx.map V.ref ++ [.ref n]))) K lo (idx ++ [n]) (cuts ++ [c]) := by
  refine ⟨by rw [set_self h.main]; simp, by simp [h.len], fun j c' e => ?_⟩
  rcases Nat.lt_trichotomy j cuts.length with hj | hj | hj
  · rw [List.getElem?_append_left hj] at e
    obtain ⟨m, a, b, l, r⟩ := h.row j c' e
    exact ⟨m, by rw [List.getElem?_append_left (by rw [h.len]; exact hj)]; exact a, set_other b (Ne.symm r), l, r⟩
  · subst hj
    simp at e
    subst e
    exact ⟨n, by rw [← h.len]; simp, set_other hn (Ne.symm hK), hlo, hK⟩
  · rw [List.getElem?_eq_none (by simp; omega)] at e; cases e
theorem Grow.ofSet {t : Nat} {S S' : List O} {K : Nat} {o : O} (g : Grow t S S') (hK : S.length ≤ K) : Grow t S (S'.set K o) :=
  ⟨fun i o' h e => set_other (g.keep i o' h e) (fun q => by have := (List.getElem?_eq_some_iff.mp e).1; omega), by rw [List.length_set]; exact g.len⟩
theorem LamTab.setL {S : List O} {t pos q n vs o} (h : LamTab S t pos q) (hn : S[n]? = some (.list vs)) : LamTab (S.set n o) t pos q := by
  have hne := h.ne hn
  rcases h with h1 | ⟨k, oc, h1⟩
  · exact .inl (set_other h1 hne)
  · exact .of (h1.setL hn)
theorem RowsOk.snoc {nds : List Nd} {k most cuts c} (h : RowsOk nds k most cuts) (hl : Low nds) (hc : RowOk nds k most cuts cuts.length c) : RowsOk nds k most (cuts ++ [c]) := by
  have key : ∀ i c', i ≤ cuts.length → RowOk nds k most cuts i c' → RowOk nds k most (cuts ++ [c]) i c' := by
    intro i c' hi hr
    unfold RowOk at hr ⊢
    cases q : nds.getD i none with
    | none => rw [q] at hr; exact hr
    | some p =>
      obtain ⟨a, b⟩ := p
      rw [q] at hr
      have hn : nds[i]? = some (some (a, b)) := by
        rw [List.getD_eq_getElem?_getD] at q
        cases z : nds[i]? with
        | none => rw [z] at q; cases q
        | some v => rw [z] at q; rw [show v = some (a, b) from q]
      obtain ⟨_, h1, _, h2⟩ := hl.2 i a b hn
      have g : ∀ j, j < cuts.length → (cuts ++ [c]).getD j [] = cuts.getD j [] := fun j hj => by
        rw [List.getD_eq_getElem?_getD, List.getD_eq_getElem?_getD, List.getElem?_append_left hj]
      show ∃ rows', _
      rw [g _ (by omega), g _ (by omega)]
      exact hr
  intro i c' e
  rcases Nat.lt_trichotomy i cuts.length with hi | hi | hi
  · rw [List.getElem?_append_left hi] at e
    exact key i c' (by omega) (h i c' e)
  · subst hi
    simp at e
    subst e
    exact key _ _ (Nat.le_refl _) hc
  · rw [List.getElem?_eq_none (by simp; omega)] at e; cases e

set_option maxHeartbeats 8000000 in
theorem cutSets_walk (G : Gx) (hK : KK G) (A : Around) (room : Room A 7) {t : Nat} (hp : (t, 37) ∈ G.pin) (C : CodeHd G.h₀ 41 37) (k : Int) (most : Nat) {S x d nn ni no nt nds ins outs tbl} (I : AigAt S x d nn ni no nt nds ins outs tbl) (hxt : x ≠ t) (hT : LamTab S t lamP lamQ)
    (hb : nds.length ≤ 1000) (hlow : Low nds) (hsm : Small nds k most) :
    AApp G A (.top (.ref 56)) [V.ref x, V.int k, V.int most] S fun v S' => ∃ K idx cuts, v = .ref K ∧ RowsAt S' K S.length idx cuts ∧ cuts.length = nds.length ∧ RowsOk nds k most cuts ∧ S.length ≤ K ∧ Grow t S S' ∧ LamTab S' t lamP lamQ := by
  refine AApp.gen fun P9 hP9 => ?_
  have h1 : 0 < nds.length := (List.getElem?_eq_some_iff.mp hlow.1).1
  refine aDef (ps := ["aig", "k", "most"]) (f := 56) (by rw [hK]; rfl) (by rw [hK]; kernel_rfl) room.depth rfl ?hbind (by decide) (by decide) (by decide) rfl rfl rfl ?_
  case hbind => intro vals h; obtain ⟨a, b, c, rfl⟩ := vals3 h; rfl
  intro LL
  all_goals (walk_at "mine aws")
  refine ⟨by simp, ?_⟩
  walk_at "mine aw"
  refine ⟨by simp, ?_⟩
  walk_at "mine aw"
  refine ⟨by simp, ?_⟩
  have eS : S ++ [O.list [V.tup []]] ++ [O.list [V.ref S.length]] = S ++ [O.list [V.tup []], O.list [V.ref S.length]] := by simp
  have el : (S ++ [O.list [V.tup []]]).length = S.length + 1 := by simp
  rw [eS, el]
  have g0 : Grow t S (S ++ [O.list [V.tup []], O.list [V.ref S.length]]) := .app _
  have r0 : RowsAt (S ++ [O.list [V.tup []], O.list [V.ref S.length]]) (S.length + 1) S.length [S.length] [[[]]] := by
    refine ⟨by simp, rfl, fun j c e => ?_⟩
    cases j with
    | zero => simp at e; subst e; exact ⟨S.length, rfl, by simp, Nat.le_refl _, by omega⟩
    | succ j => simp at e
  have ok0 : RowsOk nds k most [[[]]] := fun i c e => by
    cases i with
    | zero =>
      simp at e; subst e
      unfold RowOk
      rw [List.getD_eq_getElem?_getD, hlow.1]
      rfl
    | succ j => simp at e
  have hT0 := hT.app [O.list [V.tup []], O.list [V.ref S.length]]
  generalize S ++ [O.list [V.tup []], O.list [V.ref S.length]] = S0 at *
  walk_at "mine aw"
  walk_at "mine aw"
  refine s_forRange ⟨rfl, rfl, rfl⟩ (.inl rfl) (room.deeper _).1 rfl (by rw [hK]; exact nsRange _) ?_ (by intro _; rfl) (by rfl) (by rfl)
  all_goals (walk_at "mine aws")
  refine wFld (I.grow g0 hT hxt).inst rfl ?_
  refine wLenL (I.grow g0 hT hxt).nodes (by simp; omega) ?_
  walk_at "mine aw"
  refine ⟨1, nds.length - 1, fun i ls' S' => (∃ idx cuts, RowsAt S' (S.length + 1) S.length idx cuts ∧ cuts.length = i + 1 ∧ RowsOk nds k most cuts ∧ Grow t S S' ∧ LamTab S' t lamP lamQ) ∧ ls' = [bn "aig" (.ref x), bn "k" (.int k), bn "most" (.int most), bn "rows" (.ref (S.length + 1))], .inr ?_, by omega, by omega, ?_, ?_, ?_⟩
  · rw [List.length_map, show (1 : Int) + ((nds.length - 1 : Nat) : Int) = nds.length by omega]
  · refine ⟨_, ?_, ⟨_, _, r0, rfl, ok0, g0, hT0⟩, rfl⟩
    ((repeat (refine ⟨rfl, ?_⟩)); exact trivial)
  · rintro Inv9 hI9 i l S' ⟨⟨idx, cuts, hr, hcl, hok, hg, hTab⟩, rfl⟩ hi
    have I' := I.grow hg hT hxt
    have hin : i + 1 < nds.length := by omega
    have e1 : (1 : Int) + (i : Int) = ((i + 1 : Nat) : Int) := by omega
    rw [e1]
    have hidx : idx.length = i + 1 := by rw [hr.len, hcl]
    walk_at "mine aw"; walk_at "mine aw"; walk_at "mine aw"; walk_at "mine aw"; walk_at "mine aw"
    refine wFld I'.inst rfl ?_
    walk_at "mine aw"
    refine wItV (.inr ⟨nn, rfl, I'.nodes⟩) (x := nodeV nds[i + 1]) (by simp [hin]) (by simp; omega) ?_
    have hnd : nds[i + 1]? = some nds[i + 1] := List.getElem?_eq_getElem hin
    cases hq : nds[i + 1] with
    | none =>
      have hgd : nds.getD (i + 1) none = none := by rw [List.getD_eq_getElem?_getD, hnd, hq]; rfl
      walk_at "mine aw"; walk_at "mine aw"; walk_at "mine aw"; walk_at "mine aw"; walk_at "mine aw"; walk_at "mine aw"; walk_at "mine aw"; walk_at "mine aw"
      refine iteT ?_
      all_goals (walk_at "mine aws")
      refine wRef hr.main ?_
      all_goals (walk_at "mine aws")
      refine ⟨by simp, ?_⟩
      walk_at "mine aw"
      refine ⟨by simp, ?_⟩
      refine wPut (getElem?_app hr.main) (by simp; omega) ?_
      refine ⟨rfl, ?_⟩
      all_goals (walk_at "mine aws")
      have hT1 := hTab.app [O.list [V.tup [V.int ((i + 1 : Nat) : Int)]]]
      have hr1 := hr.grow (S' := S' ++ [O.list [V.tup [V.int ((i + 1 : Nat) : Int)]]]) (Grow.app _) hTab
      have hnK : S'.length ≠ S.length + 1 := by have := (List.getElem?_eq_some_iff.mp hr.main).1; omega
      refine ⟨_, ?_, ⟨idx ++ [S'.length], cuts ++ [[[((i + 1 : Nat) : Int)]]], hr1.snoc (by rw [list_at_end]; simp) (by have := hg.len; omega) hnK, by simp [hcl], hok.snoc hlow ?_, (hg.trans (.app _)).ofSet (by omega), hT1.setL hr1.main⟩, rfl⟩
      · ((repeat (refine ⟨rfl, ?_⟩)); exact trivial)
      · rw [hcl]; unfold RowOk; rw [hgd]; rfl
    | some p =>
      obtain ⟨a, b⟩ := p
      have hgd : nds.getD (i + 1) none = some (a, b) := by rw [List.getD_eq_getElem?_getD, hnd, hq]; rfl
      rw [hq] at hnd
      obtain ⟨ha0, ha1, hb0, hb1⟩ := hlow.2 _ a b hnd
      have hca : cuts[(a / 2).toNat]? = some (cuts.getD (a / 2).toNat []) := by
        rw [List.getD_eq_getElem?_getD, List.getElem?_eq_getElem (by omega)]; rfl
      have hcb : cuts[(b / 2).toNat]? = some (cuts.getD (b / 2).toNat []) := by
        rw [List.getD_eq_getElem?_getD, List.getElem?_eq_getElem (by omega)]; rfl
      obtain ⟨na, hia, hsa, _, _⟩ := hr.row _ _ hca
      obtain ⟨nb, hib, hsb, _, _⟩ := hr.row _ _ hcb
      obtain ⟨s1, s2, s3, s4, s5⟩ := hsm cuts hok _ a b hnd (by omega) (by omega)
      walk_at "mine aw"; walk_at "mine aw"; walk_at "mine aw"; walk_at "mine aw"; walk_at "mine aw"; walk_at "mine aw"; walk_at "mine aw"; walk_at "mine aw"
      refine iteF ?_
      walk_at "mine aw"
      walk_at "mine aw"
      walk_at "mine aw"
      walk_at "mine aw"
      refine wRef hr.main ?_
      ((with_reducible refine' aCallT ?k0 ?k6 ?k1 ?k2 ?k3 ?_ ?k4 ?k5); (case k0 => assumption); (case k6 => exact rfl); (case k1 => decide); (case k2 => exact ⟨rfl, rfl, rfl⟩); (case k3 => exact rfl); (case k4 => exact rfl); (case k5 => exact rfl))
      walk_at "mine aw"
      walk_at "mine aw"
      walk_at "mine aw"
      walk_at "mine aw"
      walk_at "mine aw"
      walk_at "mine aw"
      walk_at "mine aw"
      walk_at "mine aw"
      walk_at "mine aw"
      refine wItV (vs := ivs [a, b]) (i := 0) (.inl rfl) (x := .int a) rfl (by simp) ?_
      walk_at "mine aw"
      refine b_shr1 (room.deeper _).1 ?_
      refine wItZ (by omega) (.inr ⟨_, rfl, hr.main⟩) (x := .ref na) (by simp [hia]) (by simp; omega) ?_
      walk_at "mine aw"; walk_at "mine aw"; walk_at "mine aw"; walk_at "mine aw"; walk_at "mine aw"; walk_at "mine aw"; walk_at "mine aw"
      refine wItV (vs := ivs [a, b]) (i := 1) (.inl rfl) (x := .int b) rfl (by simp) ?_
      walk_at "mine aw"
      refine b_shr1 (room.deeper _).1 ?_
      refine wItZ (by omega) (.inr ⟨_, rfl, hr.main⟩) (x := .ref nb) (by simp [hib]) (by simp; omega) ?_
      walk_at "mine aw"; walk_at "mine aw"; walk_at "mine aw"; walk_at "mine aw"; walk_at "mine aw"
      refine (nodeCuts_walk G hK _ ((room.deeper _).le (by omega)) hp C _ k most _ _ na nb _ hTab hsa hsb s1 s2 s3 s4 s5).mono ?_
      rintro v S₃ ⟨kk, rows', hperm, rfl, hkk, hlen, hg3, hT3⟩
      have hr1 := hr.grow hg3 hTab
      have hlt := (List.getElem?_eq_some_iff.mp hr.main).1
      refine wPut hr1.main (by simp; omega) ?_
      refine ⟨rfl, ?_⟩
      all_goals (walk_at "mine aws")
      refine ⟨_, ?_, ⟨idx ++ [kk], cuts ++ [nodeCuts k most ((i + 1 : Nat) : Int) rows'], hr1.snoc hkk (by have := hg.len; omega) (by omega), by simp [hcl], hok.snoc hlow ?_, (hg.trans hg3).ofSet (by omega), hT3.setL hr1.main⟩, rfl⟩
      · ((repeat (refine ⟨rfl, ?_⟩)); exact trivial)
      · rw [hcl]; unfold RowOk; rw [hgd]; exact ⟨rows', hperm, rfl⟩
  · rintro l S' ⟨⟨idx, cuts, hr, hcl, hok, hg, hTab⟩, rfl⟩
    all_goals (walk_at "mine aws")
    exact ⟨_, idx, cuts, rfl, hr, by omega, hok, by omega, hg, hTab⟩
end
-- W10
section
-- everything stays
noncomputable def Keeps' (S S' : List O) : Prop := ∀ (i : Nat) o, S[i]? = some o → S'[i]? = some o
theorem Keeps'.trans {S S' S''} (a : Keeps' S S') (b : Keeps' S' S'') : Keeps' S S'' := fun i o e => b i o (a i o e)
theorem Keeps'.app {S} (X : List O) : Keeps' S (S ++ X) := fun _ _ e => getElem?_app e
theorem Keeps'.set {S S' : List O} {n : Nat} {o : O} (k : Keeps' S S') (h : S[n]? = none) : Keeps' S (S'.set n o) := fun i o' e => set_other (k i o' e) (fun q => by subst q; rw [h] at e; cases e)
theorem AigAt.keeps {S S' : List O} {x d nn ni no nt nds ins outs tbl} (I : AigAt S x d nn ni no nt nds ins outs tbl) (k : Keeps' S S') : AigAt S' x d nn ni no nt nds ins outs tbl :=
  ⟨⟨k _ _ I.inst.x, k _ _ I.inst.d⟩, k _ _ I.nodes, k _ _ I.inputs, k _ _ I.outputs, k _ _ I.table, I.ne1, I.ne2, I.ne3⟩
-- D is the depth of a table over c
noncomputable def IsDepth (dl : List Int) (c : List Int) (D : Int) : Prop := (c = [] → D = 0) ∧ (c ≠ [] → ∃ x ∈ c, D = 1 + dl.getD x.toNat 0 ∧ ∀ y ∈ c, dl.getD y.toNat 0 ≤ dl.getD x.toNat 0)
noncomputable abbrev chosenV : Option (List Int) → V
  | none => .none
  | some c => rowV c
-- node j's answer
noncomputable def NodeOk (nds : List Nd) (cuts : List Cuts) (dl : List Int) (ch : List (Option (List Int))) (j : Nat) : Prop :=
  match nds.getD j none with
  | none => ch.getD j none = none ∧ dl.getD j 0 = 0
  | some _ => ∃ c, c ∈ cuts.getD j [] ∧ c ≠ [(j : Int)] ∧ ch.getD j none = some c ∧ IsDepth dl c (dl.getD j 0) ∧ ∀ c' ∈ cuts.getD j [], c' ≠ [(j : Int)] → ∀ D, IsDepth dl c' D → dl.getD j 0 ≤ D
-- what a cover reads of the rows
noncomputable def RowsFit (nds : List Nd) (cuts : List Cuts) : Prop := cuts.length = nds.length ∧ ∀ j p, nds[j]? = some (some p) → (cuts.getD j []).length ≤ 1000 ∧ (∃ c ∈ cuts.getD j [], c ≠ [(j : Int)]) ∧ ∀ c ∈ cuts.getD j [], c.length ≤ 1000 ∧ (c ≠ [(j : Int)] → ∀ x ∈ c, 0 ≤ x ∧ x.toNat < j)
theorem IsDepth.congr {dl dl' c D} (h : IsDepth dl c D) (e : ∀ x ∈ c, dl'.getD x.toNat 0 = dl.getD x.toNat 0) : IsDepth dl' c D :=
  ⟨h.1, fun hc => by
    obtain ⟨x, hx, hD, hm⟩ := h.2 hc
    exact ⟨x, hx, by rw [e x hx]; exact hD, fun y hy => by rw [e x hx, e y hy]; exact hm y hy⟩⟩
theorem IsDepth.uniq {dl c D D'} (h : IsDepth dl c D) (h' : IsDepth dl c D') : D = D' := by
  by_cases hc : c = []
  · rw [h.1 hc, h'.1 hc]
  · obtain ⟨x, hx, hD, hm⟩ := h.2 hc
    obtain ⟨y, hy, hD', hm'⟩ := h'.2 hc
    have := hm y hy
    have := hm' x hx
    omega
theorem getD_set_ne {α} {l : List α} {i j : Nat} {v d : α} (h : i ≠ j) : (l.set i v).getD j d = l.getD j d := by
  rw [List.getD_eq_getElem?_getD, List.getD_eq_getElem?_getD, List.getElem?_set_ne h]
theorem getD_set_self {α} {l : List α} {i : Nat} {v d : α} (h : i < l.length) : (l.set i v).getD i d = v := by
  rw [List.getD_eq_getElem?_getD, List.getElem?_set_self h]; rfl
theorem NodeOk.set {nds cuts dl ch} {j i : Nat} {v : Int} {c : Option (List Int)} (hf : RowsFit nds cuts) (hji : j < i) (h : NodeOk nds cuts dl ch j) : NodeOk nds cuts (dl.set i v) (ch.set i c) j := by
  unfold NodeOk at h ⊢
  rw [getD_set_ne (Nat.ne_of_gt hji), getD_set_ne (Nat.ne_of_gt hji)]
  cases q : nds.getD j none with
  | none => rw [q] at h; exact h
  | some p =>
    rw [q] at h
    obtain ⟨c0, h1, h2, h3, h4, h5⟩ := h
    have hn : nds[j]? = some (some p) := by
      rw [List.getD_eq_getElem?_getD] at q
      cases z : nds[j]? with
      | none => rw [z] at q; cases q
      | some v => rw [z] at q; rw [show v = some p from q]
    obtain ⟨_, _, f⟩ := hf.2 j p hn
    have e : ∀ c ∈ cuts.getD j [], c ≠ [(j : Int)] → ∀ x ∈ c, (dl.set i v).getD x.toNat 0 = dl.getD x.toNat 0 := fun c hc hne x hx => by
      have := (f c hc).2 hne x hx
      exact getD_set_ne (by omega)
    exact ⟨c0, h1, h2, h3, h4.congr (e c0 h1 h2), fun c' hc' hne D hD => h5 c' hc' hne D (hD.congr fun x hx => ((e c' hc' hne x hx).symm))⟩
end
-- W11
section
-- best after some cuts of node
noncomputable def BestOk (dl : List Int) (node : Int) (seen : Cuts) : V → Prop
  | .none => ∀ c ∈ seen, c = [node]
  | v => ∃ D F c, v = .tup [.int D, .int F, .int (c.length : Nat), rowV c] ∧ c ∈ seen ∧ c ≠ [node] ∧ IsDepth dl c D ∧ ∀ c' ∈ seen, c' ≠ [node] → ∀ D', IsDepth dl c' D' → D ≤ D'
theorem BestOk.skip {dl node seen v} (h : BestOk dl node seen v) : BestOk dl node (seen ++ [[node]]) v := by
  cases v <;> first
    | (intro c hc; rcases List.mem_append.mp hc with hc | hc; exact h c hc; simpa using hc)
    | (obtain ⟨D, F, c, e, h1, h2, h3, h4⟩ := h
       exact ⟨D, F, c, e, List.mem_append_left _ h1, h2, h3, fun c' hc' hne => by
         rcases List.mem_append.mp hc' with hc' | hc'
         · exact h4 c' hc' hne
         · exact absurd (by simpa using hc') hne⟩)

theorem BestOk.cases' {dl node seen v} (h : BestOk dl node seen v) : (v = .none ∧ ∀ c ∈ seen, c = [node]) ∨ ∃ D F c, v = .tup [.int D, .int F, .int (c.length : Nat), rowV c] ∧ c ∈ seen ∧ c ≠ [node] ∧ IsDepth dl c D ∧ ∀ c' ∈ seen, c' ≠ [node] → ∀ D', IsDepth dl c' D' → D ≤ D' := by
  cases v <;> first
    | exact .inl ⟨rfl, h⟩
    | exact .inr h

set_option maxHeartbeats 16000000 in
theorem cover_walk (G : Gx) (hK : KK G) (A : Around) (room : Room A 4) {S x d nn ni no nt nds ins outs tbl} (I : AigAt S x d nn ni no nt nds ins outs tbl) {K lo idx cuts} (hR : RowsAt S K lo idx cuts) (hf : RowsFit nds cuts) (hb : nds.length ≤ 1000) (hb' : outs.length ≤ 1000)
    (hn : ∀ nd ∈ nds, NdOk nds.length nd) (ho : ∀ l ∈ outs, LitOk nds.length l) :
    AApp G A (.top (.ref 108)) [V.ref x, V.ref K] S fun v S' => Keeps' S S' ∧ ∃ n1 n2 n3 ch dl, v = .tup [.ref n1, .ref n2, .ref n3] ∧ S'[n1]? = some (.list (ch.map chosenV)) ∧ S'[n2]? = some (.list (ivs dl)) ∧ ch.length = nds.length ∧ dl.length = nds.length ∧ ∀ j < nds.length, NodeOk nds cuts dl ch j := by
  refine AApp.gen fun P9 hP9 => ?_
  refine aDef (ps := ["aig", "cuts"]) (f := 108) (by rw [hK]; rfl) (by rw [hK]; kernel_rfl) room.depth rfl ?hbind (by decide) (by decide) (by decide) rfl rfl rfl ?_
  case hbind => intro vals h; obtain ⟨a, b, rfl⟩ := vals2 h; rfl
  intro LL
  all_goals (walk_at "mine aws")
  refine wInst I.inst rfl ?_
  all_goals (walk_at "mine aws")
  refine (uses_walk G hK _ ((room.deeper _).le (by omega)) I hb hb' hn ho).mono ?_
  rintro v S1 ⟨cs, rfl, rfl, hcnt⟩
  have k1 : Keeps' S (S ++ [O.list [V.int 0], O.list (ivs cs)]) := .app _
  have hcs : (S ++ [O.list [V.int 0], O.list (ivs cs)])[S.length + 1]? = some (.list (ivs cs)) := two_end
  generalize S ++ [O.list [V.int 0], O.list (ivs cs)] = S1 at *
  all_goals (walk_at "mine aws")
  refine ⟨by simp, ?_⟩
  all_goals (walk_at "mine aws")
  refine wFld (I.keeps (k1.trans (.app _))).inst rfl ?_
  refine wLenL (I.keeps (k1.trans (.app _))).nodes (by simp; omega) ?_
  refine b_mulL list_at_end (by simp; omega) ?_
  have e1 : S1 ++ [O.list [V.none]] ++ [O.list (List.replicate (nds.map nodeV).length V.none)] = S1 ++ [.list [.none], .list ((List.replicate nds.length (none : Option (List Int))).map chosenV)] := by simp
  rw [e1, List.length_append, List.length_singleton]
  have hch : (S1 ++ [O.list [V.none], O.list ((List.replicate nds.length (none : Option (List Int))).map chosenV)])[S1.length + 1]? = some (.list ((List.replicate nds.length (none : Option (List Int))).map chosenV)) := two_end
  have k2 : Keeps' S1 (S1 ++ [O.list [V.none], O.list ((List.replicate nds.length (none : Option (List Int))).map chosenV)]) := .app _
  have l2 : (S1 ++ [O.list [V.none], O.list ((List.replicate nds.length (none : Option (List Int))).map chosenV)]).length = S1.length + 2 := by simp
  generalize S1 ++ [O.list [V.none], O.list ((List.replicate nds.length (none : Option (List Int))).map chosenV)] = S2 at *
  all_goals (walk_at "mine aws")
  refine ⟨by simp, ?_⟩
  all_goals (walk_at "mine aws")
  refine wFld (I.keeps (k1.trans (k2.trans (.app _)))).inst rfl ?_
  refine wLenL (I.keeps (k1.trans (k2.trans (.app _)))).nodes (by simp; omega) ?_
  refine b_mulL list_at_end (by simp; omega) ?_
  have e2 : S2 ++ [O.list [V.int 0]] ++ [O.list (List.replicate (nds.map nodeV).length (V.int 0))] = S2 ++ [.list [.int 0], .list (ivs (List.replicate nds.length 0))] := by simp
  rw [e2, List.length_append, List.length_singleton]
  have hdl : (S2 ++ [O.list [V.int 0], O.list (ivs (List.replicate nds.length 0))])[S2.length + 1]? = some (.list (ivs (List.replicate nds.length 0))) := two_end
  have k3 : Keeps' S2 (S2 ++ [O.list [V.int 0], O.list (ivs (List.replicate nds.length 0))]) := .app _
  have l3 : (S2 ++ [O.list [V.int 0], O.list (ivs (List.replicate nds.length 0))]).length = S2.length + 2 := by simp
  generalize S2 ++ [O.list [V.int 0], O.list (ivs (List.replicate nds.length 0))] = S3 at *
  all_goals (walk_at "mine aws")
  refine ⟨by simp, ?_⟩
  all_goals (walk_at "mine aws")
  refine wFld (I.keeps (k1.trans (k2.trans (k3.trans (.app _))))).inst rfl ?_
  refine wLenL (I.keeps (k1.trans (k2.trans (k3.trans (.app _))))).nodes (by simp; omega) ?_
  refine b_mulL list_at_end (by simp; omega) ?_
  have e3 : S3 ++ [O.list [V.int 0]] ++ [O.list (List.replicate (nds.map nodeV).length (V.int 0))] = S3 ++ [.list [.int 0], .list (ivs (List.replicate nds.length 0))] := by simp
  rw [e3, List.length_append, List.length_singleton]
  have hfl : (S3 ++ [O.list [V.int 0], O.list (ivs (List.replicate nds.length 0))])[S3.length + 1]? = some (.list (ivs (List.replicate nds.length 0))) := two_end
  have k4 : Keeps' S3 (S3 ++ [O.list [V.int 0], O.list (ivs (List.replicate nds.length 0))]) := .app _
  generalize S3 ++ [O.list [V.int 0], O.list (ivs (List.replicate nds.length 0))] = S4 at *
  have kS4 : Keeps' S S4 := k1.trans (k2.trans (k3.trans k4))
  have hcs4 := k4 _ _ (k3 _ _ (k2 _ _ hcs))
  have hch4 := k4 _ _ (k3 _ _ hch)
  have hdl4 := k4 _ _ hdl
  have f0 : S.length + 1 < S1.length := (List.getElem?_eq_some_iff.mp hcs).1
  obtain ⟨nc, hnc⟩ : ∃ m, m = S.length + 1 := ⟨_, rfl⟩
  obtain ⟨n1, hn1⟩ : ∃ m, m = S1.length + 1 := ⟨_, rfl⟩
  obtain ⟨n2, hn2⟩ : ∃ m, m = S2.length + 1 := ⟨_, rfl⟩
  obtain ⟨n3, hn3⟩ : ∃ m, m = S3.length + 1 := ⟨_, rfl⟩
  rw [← hnc] at hcs4 ⊢
  rw [← hn1] at hch4 ⊢
  rw [← hn2] at hdl4 ⊢
  rw [← hn3] at hfl ⊢
  have d12 : n1 ≠ n2 := by omega
  have d13 : n1 ≠ n3 := by omega
  have d23 : n2 ≠ n3 := by omega
  have dc1 : nc ≠ n1 := by omega
  have dc2 : nc ≠ n2 := by omega
  have dc3 : nc ≠ n3 := by omega
  have o1 : S[n1]? = none := List.getElem?_eq_none (by omega)
  have o2 : S[n2]? = none := List.getElem?_eq_none (by omega)
  have o3 : S[n3]? = none := List.getElem?_eq_none (by omega)
  clear e1 e2 e3 hcs hch hdl k1 k2 k3 k4 l2 l3
  walk_at "mine aw"
  walk_at "mine aw"
  refine s_forRange ⟨rfl, rfl, rfl⟩ (.inl rfl) (room.deeper _).1 rfl (by rw [hK]; exact nsRange _) ?_ (by intro _; rfl) (by rfl) (by rfl)
  all_goals (walk_at "mine aws")
  refine wFld (I.keeps kS4).inst rfl ?_
  refine wLenL (I.keeps kS4).nodes (by simp; omega) ?_
  walk_at "mine aw"
  refine ⟨0, nds.length, fun i ls' S' => (∃ ch dl fl, S'[n1]? = some (.list (ch.map chosenV)) ∧ S'[n2]? = some (.list (ivs dl)) ∧ S'[n3]? = some (.list (ivs fl)) ∧ S'[nc]? = some (.list (ivs cs)) ∧ Keeps' S S' ∧ ch.length = nds.length ∧ dl.length = nds.length ∧ fl.length = nds.length ∧
    (∀ j < i, NodeOk nds cuts dl ch j) ∧ ∀ j, i ≤ j → ch.getD j none = none ∧ dl.getD j 0 = 0) ∧ ls' = [bn "aig" (.ref x), bn "cuts" (.ref K), bn "counts" (.ref nc), bn "chosen" (.ref n1), bn "depth" (.ref n2), bn "flow" (.ref n3)], .inl ⟨by simp, rfl⟩, by omega, by omega, ?_, ?_, ?_⟩
  · refine ⟨_, ?_, ⟨_, _, _, hch4, hdl4, hfl, hcs4, kS4, by simp, by simp, by simp, by omega, fun j _ => ?_⟩, rfl⟩
    · ((repeat (refine ⟨rfl, ?_⟩)); exact trivial)
    · constructor
      · rw [List.getD_eq_getElem?_getD, List.getElem?_replicate]; split <;> rfl
      · rw [List.getD_eq_getElem?_getD, List.getElem?_replicate]; split <;> rfl
  · rintro Inv9 hI9 i l S' ⟨⟨ch, dl, fl, h1, h2, h3, hc, kS, lch, ldl, lfl, hdone, hrest⟩, rfl⟩ hi
    rw [Int.zero_add]
    have I' := I.keeps kS
    have hnd : nds[i]? = some nds[i] := List.getElem?_eq_getElem hi
    walk_at "mine aw"
    walk_at "mine aw"
    walk_at "mine aw"
    refine tValue ?_ (by rfl)
    walk_at "mine aw"
    walk_at "mine aw"
    refine wInst I'.inst rfl ?_
    all_goals (walk_at "mine aws")
    refine (isAnd_walk G hK _ ((room.deeper _).le (by omega)) I' i hi hb).mono ?_
    rintro v S5 ⟨rfl, rfl⟩
    refine truth_bool ?_
    cases hq : nds[i] with
    | none =>
      refine iteT ?_
      all_goals (walk_at "mine aws")
      refine ⟨_, ?_, ⟨ch, dl, fl, h1, h2, h3, hc, kS, lch, ldl, lfl, fun j hj => ?_, fun j hj => hrest j (by omega)⟩, rfl⟩
      · ((repeat (refine ⟨rfl, ?_⟩)); exact trivial)
      · rcases Nat.lt_or_eq_of_le (Nat.le_of_lt_succ hj) with hj | rfl
        · exact hdone j hj
        · unfold NodeOk
          rw [List.getD_eq_getElem?_getD, hnd, hq]
          exact hrest j (Nat.le_refl _)
    | some p =>
      refine iteF ?_
      rw [hq] at hnd
      obtain ⟨q1, ⟨cg, hcg, hcgn⟩, q3⟩ := hf.2 i p hnd
      have hci : cuts[i]? = some (cuts.getD i []) := by
        rw [List.getD_eq_getElem?_getD, List.getElem?_eq_getElem (by rw [hf.1]; exact hi)]; rfl
      obtain ⟨m, hm1, hm2, _, _⟩ := hR.row i _ hci
      have hidx : idx.length = nds.length := by rw [hR.len, hf.1]
      generalize hrow : cuts.getD i [] = row at *
      walk_at "mine aw"; walk_at "mine aw"; walk_at "mine aw"; walk_at "mine aw"; walk_at "mine aw"; walk_at "mine aw"; walk_at "mine aw"
      refine s_for ⟨rfl, rfl, rfl⟩ (.inl rfl) (room.deeper _).1 ?_
      walk_at "mine aw"; walk_at "mine aw"; walk_at "mine aw"
      refine wItV (vs := idx.map V.ref) (i := i) (.inr ⟨K, rfl, kS _ _ hR.main⟩) (x := .ref m) (by simp [hm1]) (by simp; omega) ?_
      refine ⟨row.map rowV, fun j ls' S' => (∃ v, BestOk dl i (row.take j) v ∧ S'[n1]? = some (.list (ch.map chosenV)) ∧ S'[n2]? = some (.list (ivs dl)) ∧ S'[n3]? = some (.list (ivs fl)) ∧ S'[nc]? = some (.list (ivs cs)) ∧ Keeps' S S' ∧
        ls' = [bn "aig" (.ref x), bn "cuts" (.ref K), bn "counts" (.ref nc), bn "chosen" (.ref n1), bn "depth" (.ref n2), bn "flow" (.ref n3), bn "node" (.int i), bn "best" v]), .inr ⟨m, rfl, kS _ _ hm2⟩, ?_, ?_, ?_, ?_⟩
      · refine ⟨_, ?_, V.none, fun c hc => by simp at hc, h1, h2, h3, hc, kS, rfl⟩
        ((repeat (refine ⟨rfl, ?_⟩)); exact trivial)
      · rintro j l S' ⟨v, _, _, _, _, _, kS', _⟩; exact .inr ⟨m, rfl, kS' _ _ hm2⟩
      · rintro Inv9 hI9 j l S' v ⟨bv, hbv, h1, h2, h3, hc, kS', rfl⟩ hv
        rw [List.getElem?_map] at hv
        obtain ⟨c, hcj, rfl⟩ := Option.map_eq_some_iff.mp hv
        have hj : j < row.length := (List.getElem?_eq_some_iff.mp hcj).1
        have ec : row[j] = c := (List.getElem?_eq_some_iff.mp hcj).2
        have hcm : c ∈ row := List.mem_of_getElem? hcj
        obtain ⟨hcl, hcx⟩ := q3 c hcm
        have htk : row.take (j + 1) = row.take j ++ [c] := by rw [List.take_succ_eq_append_getElem hj, ec]
        walk_at "mine aw"
        walk_at "mine aw"
        walk_at "mine aw"; walk_at "mine aw"; walk_at "mine aw"; walk_at "mine aw"; walk_at "mine aw"; walk_at "mine aw"
        refine ⟨by simp, ?_⟩
        refine c_eqT (xs := c) (ys := [(i : Int)]) (room.deeper _).units ?_
        refine truth_bool ?_
        refine iteD (fun hceq => ?_) (fun hceq => ?_)
        · all_goals (walk_at "mine aws")
          refine ⟨_, ?_, bv, ?_, h1, h2, h3, hc, kS', rfl⟩
          · ((repeat (refine ⟨rfl, ?_⟩)); exact trivial)
          · rw [htk, hceq]; exact hbv.skip
        · have hcx' := hcx hceq
          have hdx : ∀ y ∈ c, 0 ≤ y ∧ y.toNat < dl.length := fun y hy => by have := hcx' y hy; omega
          have hfx : ∀ y ∈ c, 0 ≤ y ∧ y.toNat < fl.length := fun y hy => by have := hcx' y hy; omega
          all_goals (walk_at "mine aws")
          ((with_reducible refine' aCallT ?k0 ?k6 ?k1 ?k2 ?k3 ?_ ?k4 ?k5); (case k0 => assumption); (case k6 => exact rfl); (case k1 => decide); (case k2 => exact ⟨rfl, rfl, rfl⟩); (case k3 => exact rfl); (case k4 => exact rfl); (case k5 => exact rfl))
          all_goals (walk_at "mine aws")
          refine (depth_walk G hK _ ((room.deeper _).le (by omega)) dl c n2 _ h2 (by omega) hdx (by omega)).mono ?_
          rintro v S6 ⟨⟨X, rfl⟩, D, rfl, hD⟩
          all_goals (walk_at "mine aws")
          ((with_reducible refine' aCallT ?k0 ?k6 ?k1 ?k2 ?k3 ?_ ?k4 ?k5); (case k0 => assumption); (case k6 => exact rfl); (case k1 => decide); (case k2 => exact ⟨rfl, rfl, rfl⟩); (case k3 => exact rfl); (case k4 => exact rfl); (case k5 => exact rfl))
          all_goals (walk_at "mine aws")
          refine (flow_walk G hK _ ((room.deeper _).le (by omega)) fl c n3 _ (getElem?_app h3) (by omega) hfx).mono ?_
          rintro v S6 ⟨rfl, rfl⟩
          walk_at "mine aw"; walk_at "mine aw"; walk_at "mine aw"; walk_at "mine aw"; walk_at "mine aw"; walk_at "mine aw"; walk_at "mine aw"
          refine ⟨by simp, ?_⟩
          have hDc : IsDepth dl c D := hD
          have h1' := getElem?_app (X := X) h1
          have h2' := getElem?_app (X := X) h2
          have h3' := getElem?_app (X := X) h3
          have hc' := getElem?_app (X := X) hc
          have kS'' : Keeps' S (S' ++ X) := kS'.trans (.app _)
          generalize flowSum fl c = F
          generalize S' ++ X = S7 at *
          rcases hbv.cases' with ⟨rfl, hall⟩ | ⟨Db, Fb, cb, rfl, w1, w2, w3, w4⟩
          · have hnew : BestOk dl i (row.take (j + 1)) (.tup [.int D, .int F, .int (c.length : Nat), rowV c]) := by
              refine ⟨D, F, c, rfl, by rw [htk]; simp, hceq, hDc, fun c' hc' hne D' hD' => ?_⟩
              rw [htk] at hc'
              rcases List.mem_append.mp hc' with hc' | hc'
              · exact absurd (hall c' hc') hne
              · have : c' = c := by simpa using hc'
                subst this
                exact Int.le_of_eq (hDc.uniq hD')
            walk_at "mine aw"; walk_at "mine aw"; walk_at "mine aw"; walk_at "mine aw"; walk_at "mine aw"; walk_at "mine aw"; walk_at "mine aw"; walk_at "mine aw"; walk_at "mine aw"; walk_at "mine aw"
            refine iteT ?_
            refine iteT ?_
            all_goals (walk_at "mine aws")
            refine ⟨_, ?_, _, hnew, h1', h2', h3', hc', kS'', rfl⟩
            ((repeat (refine ⟨rfl, ?_⟩)); exact trivial)
          · walk_at "mine aw"; walk_at "mine aw"; walk_at "mine aw"; walk_at "mine aw"; walk_at "mine aw"; walk_at "mine aw"; walk_at "mine aw"; walk_at "mine aw"; walk_at "mine aw"; walk_at "mine aw"
            refine iteF ?_
            walk_at "mine aw"; walk_at "mine aw"; walk_at "mine aw"; walk_at "mine aw"
            refine c_ltRank (.cons .int (.cons .int (.cons .tup .nil))) (room.deeper _).u1 fun b hbb => ?_
            refine truth_bool ?_
            cases b with
            | true =>
              have hle : D ≤ Db := by
                by_cases q : D = Db
                · omega
                · have := hbb q; have := of_decide_eq_true this.symm; omega
              have hnew : BestOk dl i (row.take (j + 1)) (.tup [.int D, .int F, .int (c.length : Nat), rowV c]) := by
                refine ⟨D, F, c, rfl, by rw [htk]; simp, hceq, hDc, fun c' hc' hne D' hD' => ?_⟩
                rw [htk] at hc'
                rcases List.mem_append.mp hc' with hc' | hc'
                · have := w4 c' hc' hne D' hD'; omega
                · have : c' = c := by simpa using hc'
                  subst this
                  exact Int.le_of_eq (hDc.uniq hD')
              refine iteT ?_
              refine iteT ?_
              all_goals (walk_at "mine aws")
              refine ⟨_, ?_, _, hnew, h1', h2', h3', hc', kS'', rfl⟩
              ((repeat (refine ⟨rfl, ?_⟩)); exact trivial)
            | false =>
              have hle : Db ≤ D := by
                by_cases q : D = Db
                · omega
                · have := hbb q; have := of_decide_eq_false this.symm; omega
              have hnew : BestOk dl i (row.take (j + 1)) (.tup [.int Db, .int Fb, .int (cb.length : Nat), rowV cb]) := by
                refine ⟨Db, Fb, cb, rfl, by rw [htk]; exact List.mem_append_left _ w1, w2, w3, fun c' hc' hne D' hD' => ?_⟩
                rw [htk] at hc'
                rcases List.mem_append.mp hc' with hc' | hc'
                · exact w4 c' hc' hne D' hD'
                · have : c' = c := by simpa using hc'
                  subst this
                  have := hDc.uniq hD'
                  omega
              refine iteF ?_
              walk_at "mine aw"
              refine iteF ?_
              all_goals (walk_at "mine aws")
              refine ⟨_, ?_, _, hnew, h1', h2', h3', hc', kS'', rfl⟩
              ((repeat (refine ⟨rfl, ?_⟩)); exact trivial)
      · rintro l S' ⟨v, hbv, h1, h2, h3, hc, kS', rfl⟩
        have et : row.take (row.map rowV).length = row := by simp
        rw [et] at hbv
        rcases hbv.cases' with ⟨rfl, hall⟩ | ⟨Db, Fb, cb, rfl, w1, w2, w3, w4⟩
        · exact absurd (hall cg hcg) hcgn
        · have hcsl : i < cs.length := by rw [hcnt.1]; exact hi
          have hcsb := hcnt.2 cs[i] (by simp)
          walk_at "mine aw"
          walk_at "mine aw"
          refine s_assignSub ?_ (by rfl)
          walk_at "mine aw"; walk_at "mine aw"; walk_at "mine aw"
          refine wItV (vs := [.int Db, .int Fb, .int (cb.length : Nat), rowV cb]) (i := 0) (.inl rfl) (x := .int Db) rfl (by simp) ?_
          walk_at "mine aw"; walk_at "mine aw"
          refine set_list h2 (by simp; omega) (by simp; omega) ?_
          rw [ivs_set]
          have h1a := set_other (o' := .list (ivs (dl.set i Db))) h1 (Ne.symm d12)
          have h3a := set_other (o' := .list (ivs (dl.set i Db))) h3 d23
          have hca := set_other (o' := .list (ivs (dl.set i Db))) hc (Ne.symm dc2)
          have h2a := set_self (o' := .list (ivs (dl.set i Db))) h2
          have kSa := kS'.set (o := .list (ivs (dl.set i Db))) o2
          generalize S'.set n2 (.list (ivs (dl.set i Db))) = S8 at *
          walk_at "mine aw"
          walk_at "mine aw"
          refine s_assignSub ?_ (by rfl)
          walk_at "mine aw"; walk_at "mine aw"; walk_at "mine aw"; walk_at "mine aw"
          refine wItV (vs := [.int Db, .int Fb, .int (cb.length : Nat), rowV cb]) (i := 1) (.inl rfl) (x := .int Fb) rfl (by simp) ?_
          refine aMax2 hK (room.deeper _).1 ⟨rfl, rfl, rfl⟩ rfl ?_ (by rfl) (by rfl)
          walk_at "mine aw"; walk_at "mine aw"; walk_at "mine aw"; walk_at "mine aw"; walk_at "mine aw"; walk_at "mine aw"
          refine wItV (vs := ivs cs) (i := i) (.inr ⟨nc, rfl, hca⟩) (x := .int cs[i]) (by simp [hcsl]) (by simp; rw [hcnt.1]; omega) ?_
          walk_at "mine aw"
          refine f_max2 (room.deeper _).1 ?_
          refine b_floordiv (by omega) (by omega) ?_
          walk_at "mine aw"; walk_at "mine aw"
          refine set_list h3a (by simp; omega) (by simp; omega) ?_
          rw [ivs_set]
          generalize Fb.fdiv (max 1 cs[i]) = Fv
          have h1b := set_other (o' := .list (ivs (fl.set i Fv))) h1a (Ne.symm d13)
          have h2b := set_other (o' := .list (ivs (fl.set i Fv))) h2a (Ne.symm d23)
          have hcb := set_other (o' := .list (ivs (fl.set i Fv))) hca (Ne.symm dc3)
          have h3b := set_self (o' := .list (ivs (fl.set i Fv))) h3a
          have kSb := kSa.set (o := .list (ivs (fl.set i Fv))) o3
          generalize S8.set n3 (.list (ivs (fl.set i Fv))) = S9 at *
          walk_at "mine aw"
          walk_at "mine aw"
          refine s_assignSub ?_ (by rfl)
          walk_at "mine aw"; walk_at "mine aw"; walk_at "mine aw"
          refine wItV (vs := [.int Db, .int Fb, .int (cb.length : Nat), rowV cb]) (i := 3) (.inl rfl) (x := rowV cb) rfl (by simp) ?_
          walk_at "mine aw"; walk_at "mine aw"
          refine set_list h1b (by simp; omega) (by simp; omega) ?_
          have ech : (ch.map chosenV).set i (rowV cb) = (ch.set i (some cb)).map chosenV := by rw [List.map_set]
          rw [ech]
          have h1c := set_self (o' := .list ((ch.set i (some cb)).map chosenV)) h1b
          have h2c := set_other (o' := .list ((ch.set i (some cb)).map chosenV)) h2b d12
          have h3c := set_other (o' := .list ((ch.set i (some cb)).map chosenV)) h3b d13
          have hcc := set_other (o' := .list ((ch.set i (some cb)).map chosenV)) hcb (Ne.symm dc1)
          have kSc := kSb.set (o := .list ((ch.set i (some cb)).map chosenV)) o1
          all_goals (walk_at "mine aws")
          refine ⟨_, ?_, ⟨ch.set i (some cb), dl.set i Db, fl.set i Fv, h1c, h2c, h3c, hcc, kSc, by simp [lch], by simp [ldl], by simp [lfl], fun j hj => ?_, fun j hj => ?_⟩, rfl⟩
          · ((repeat (refine ⟨rfl, ?_⟩)); exact trivial)
          · rcases Nat.lt_or_eq_of_le (Nat.le_of_lt_succ hj) with hj | rfl
            · exact (hdone j hj).set hf hj
            · unfold NodeOk
              rw [List.getD_eq_getElem?_getD, hnd, hrow]
              have ldc : ∀ c ∈ row, c ≠ [(j : Int)] → ∀ y ∈ c, (dl.set j Db).getD y.toNat 0 = dl.getD y.toNat 0 := fun c hc hne y hy => by
                have := (q3 c hc).2 hne y hy
                exact getD_set_ne (by omega)
              refine ⟨cb, w1, w2, ?_, ?_, ?_⟩
              · exact getD_set_self (by omega)
              · rw [getD_set_self (by omega)]
                exact w3.congr (ldc cb w1 w2)
              · intro c' hc' hne D' hD'
                rw [getD_set_self (by omega)]
                exact w4 c' hc' hne D' (hD'.congr fun y hy => (ldc c' hc' hne y hy).symm)
          · rw [getD_set_ne (by omega), getD_set_ne (by omega)]
            exact hrest j (by omega)
  · rintro l S' ⟨⟨ch, dl, fl, h1, h2, h3, hc, kS, lch, ldl, lfl, hdone, hrest⟩, rfl⟩
    all_goals (walk_at "mine aws")
    refine ⟨by simp, ?_⟩
    all_goals (walk_at "mine aws")
    exact ⟨kS, n1, n2, n3, ch, dl, rfl, h1, h2, lch, ldl, hdone⟩
end
-- W12
section
theorem Keeps'.len {S S' : List O} (k : Keeps' S S') : S.length ≤ S'.length := by
  rcases Nat.lt_or_ge S'.length S.length with h | h
  · have := k S'.length _ (List.getElem?_eq_getElem h)
    rw [List.getElem?_eq_none (Nat.le_refl _)] at this; cases this
  · exact h
theorem LamTab.keeps {S S' : List O} {t pos q} (h : LamTab S t pos q) (k : Keeps' S S') : LamTab S' t pos q := by
  rcases h with h | ⟨kk, oc, h⟩
  · exact .inl (k _ _ h)
  · exact .of ⟨k _ _ h.tab, k _ _ h.code, h.record⟩

set_option maxHeartbeats 4000000 in
theorem check_walk (G : Gx) (hK : KK G) (A : Around) (room : Room A 1) (k most : Int) (S : List O) (h1 : 2 ≤ k) (h2 : k ≤ 6) (h3 : 1 ≤ most) :
    AApp G A (.top (.ref 115)) [V.int k, V.int most] S fun v S' => S' = S ∧ v = .none := by
  refine AApp.gen fun P9 hP9 => ?_
  refine aDef (ps := ["k", "most"]) (f := 115) (by rw [hK]; rfl) (by rw [hK]; kernel_rfl) room.depth rfl ?hbind (by decide) (by decide) (by decide) rfl rfl rfl ?_
  case hbind => intro vals h; obtain ⟨a, b, rfl⟩ := vals2 h; rfl
  intro L
  all_goals (walk_at "mine aws")
  exact hP9 _ _ ⟨rfl, rfl⟩

set_option maxHeartbeats 8000000 in
theorem lut_walk (G : Gx) (hK : KK G) (A : Around) (room : Room A 9) {t : Nat} (hp : (t, 37) ∈ G.pin) (C : CodeHd G.h₀ 41 37) (k : Int) (most : Nat) {S x d nn ni no nt nds ins outs tbl} (I : AigAt S x d nn ni no nt nds ins outs tbl) (hxt : x ≠ t) (hT : LamTab S t lamP lamQ)
    (hb : nds.length ≤ 1000) (hb' : outs.length ≤ 1000) (hlow : Low nds) (hsm : Small nds k most) (hfit : ∀ cuts, RowsOk nds k most cuts → cuts.length = nds.length → RowsFit nds cuts) (h1 : 2 ≤ k) (h2 : k ≤ 6) (h3 : 1 ≤ most)
    (hn : ∀ nd ∈ nds, NdOk nds.length nd) (ho : ∀ l ∈ outs, LitOk nds.length l) :
    AApp G A (.top (.ref 122)) [V.ref x, V.int k, V.int most] S fun v S' => Grow t S S' ∧ LamTab S' t lamP lamQ ∧ ∃ n1 n2 cuts ch dl, v = .tup [.ref n1, .ref n2] ∧ S'[n1]? = some (.list (ch.map chosenV)) ∧ S'[n2]? = some (.list (ivs dl)) ∧
      RowsOk nds k most cuts ∧ cuts.length = nds.length ∧ ch.length = nds.length ∧ dl.length = nds.length ∧ ∀ j < nds.length, NodeOk nds cuts dl ch j := by
  refine AApp.gen fun P9 hP9 => ?_
  refine aDef (ps := ["aig", "k", "most"]) (f := 122) (by rw [hK]; rfl) (by rw [hK]; kernel_rfl) room.depth rfl ?hbind (by decide) (by decide) (by decide) rfl rfl rfl ?_
  case hbind => intro vals h; obtain ⟨a, b, c, rfl⟩ := vals3 h; rfl
  intro L
  all_goals (walk_at "mine aws")
  ((with_reducible refine' aCallT ?k0 ?k6 ?k1 ?k2 ?k3 ?_ ?k4 ?k5); (case k0 => assumption); (case k6 => exact rfl); (case k1 => decide); (case k2 => exact ⟨rfl, rfl, rfl⟩); (case k3 => exact rfl); (case k4 => exact rfl); (case k5 => exact rfl))
  all_goals (walk_at "mine aws")
  refine (check_walk G hK _ ((room.deeper _).le (by omega)) k most _ h1 h2 (by omega)).mono ?_
  rintro v S1 ⟨rfl, rfl⟩
  refine ⟨rfl, ?_⟩
  walk_at "mine aw"
  walk_at "mine aw"
  refine s_unpack [("chosen", ?p1), ("depth", ?p2), ("flow", ?p3)] (by rfl) ⟨rfl, rfl, rfl⟩ (room.deeper _).1 ?_ ?_ (by rfl) (by rfl)
  · intro p hp
    rcases List.mem_cons.mp hp with rfl | hp
    · exact .inl rfl
    · rcases List.mem_cons.mp hp with rfl | hp
      · exact .inl rfl
      · rcases List.mem_cons.mp hp with rfl | hp
        · exact .inl rfl
        · cases hp
  · ((with_reducible refine' aCallT ?k0 ?k6 ?k1 ?k2 ?k3 ?_ ?k4 ?k5); (case k0 => assumption); (case k6 => exact rfl); (case k1 => decide); (case k2 => exact ⟨rfl, rfl, rfl⟩); (case k3 => exact rfl); (case k4 => exact rfl); (case k5 => exact rfl))
    walk_at "mine aw"
    walk_at "mine aw"
    walk_at "mine aw"
    ((with_reducible refine' aCallT ?k0 ?k6 ?k1 ?k2 ?k3 ?_ ?k4 ?k5); (case k0 => assumption); (case k6 => exact rfl); (case k1 => decide); (case k2 => exact ⟨rfl, rfl, rfl⟩); (case k3 => exact rfl); (case k4 => exact rfl); (case k5 => exact rfl))
    all_goals (walk_at "mine aws")
    refine (cutSets_walk G hK _ ((room.deeper _).le (by omega)) hp C k most I hxt hT hb hlow hsm).mono ?_
    rintro v S2 ⟨K, idx, cuts, rfl, hR, hcl, hok, hKl, hg, hT2⟩
    all_goals (walk_at "mine aws")
    refine (cover_walk G hK _ ((room.deeper _).le (by omega)) (I.grow hg hT hxt) hR (hfit cuts hok hcl) hb hb' hn ho).mono ?_
    rintro v S3 ⟨hk3, n1, n2, n3, ch, dl, rfl, e1, e2, l1, l2, hok3⟩
    refine ⟨_, rfl, rfl, ?_⟩
    all_goals (walk_at "mine aws")
    refine ⟨by simp, ?_⟩
    all_goals (walk_at "mine aws")
    refine ⟨⟨fun i o hi e => hk3 _ _ (hg.keep i o hi e), ?_⟩, ?_, n1, n2, cuts, ch, dl, rfl, e1, e2, hok, hcl, l1, l2, hok3⟩
    · exact Nat.le_trans hg.len hk3.len
    · exact hT2.keeps hk3
end
-- W13
section
noncomputable def openAt (nds : List Nd) (barred : List Int) (free : List Bool) (j : Nat) : Bool :=
  !barred.contains (j : Int) && match nds.getD j none with
    | none => true
    | some (a, b) => free.getD (a / 2).toNat false || free.getD (b / 2).toNat false
-- the open nodes among the first n + 1
noncomputable def openL (nds : List Nd) (barred : List Int) : Nat → List Bool
  | 0 => [false]
  | n + 1 => openL nds barred n ++ [openAt nds barred (openL nds barred n) (n + 1)]
theorem openL_len (nds : List Nd) (barred : List Int) : ∀ n, (openL nds barred n).length = n + 1
  | 0 => rfl
  | n + 1 => by simp [openL, openL_len nds barred n]
noncomputable abbrev bvs (bs : List Bool) : List V := bs.map V.bool

set_option maxHeartbeats 8000000 in
theorem open_walk (G : Gx) (hK : KK G) (A : Around) (room : Room A 1) (nds : List Nd) (np : Nat) (S : List O) (hp : S[np]? = some (.list (nds.map nodeV))) (node : Nat) (hnode : node < nds.length) (hb : nds.length ≤ 1000) (hlow : Low nds) (barred : List Int) (bv : V) (hbv : SeqV bv S (barred.map V.int)) :
    AApp G A (.top (.ref 233)) [V.ref np, V.int node, bv] S fun v S' => v = .ref (S.length + 1) ∧ S' = S ++ [.list [.bool false], .list (bvs (openL nds barred node))] := by
  refine AApp.gen fun P9 hP9 => ?_
  refine aDef (ps := ["pairs", "node", "barred"]) (f := 233) (by rw [hK]; rfl) (by rw [hK]; kernel_rfl) room.depth rfl ?hbind (by decide) (by decide) (by decide) rfl rfl rfl ?_
  case hbind => intro vals h; obtain ⟨a, b, c, rfl⟩ := vals3 h; rfl
  intro L
  all_goals (walk_at "mine aws")
  refine ⟨by simp, ?_⟩
  all_goals (walk_at "mine aws")
  rw [show (node : Int) + 1 = ((node + 1 : Nat) : Int) by omega]
  refine b_mulL list_at_end (by omega) ?_
  have e1 : S ++ [O.list [V.bool false]] ++ [O.list (List.replicate (node + 1) (V.bool false))] = S ++ [.list [.bool false], .list (bvs (openL nds barred 0 ++ List.replicate node false))] := by
    simp [openL, List.replicate_succ]
  rw [e1, List.length_append, List.length_singleton]
  walk_at "mine aw"
  walk_at "mine aw"
  refine s_forRange ⟨rfl, rfl, rfl⟩ (.inl rfl) (room.deeper _).1 rfl (by rw [hK]; exact nsRange _) ?_ (by intro _; rfl) (by rfl) (by rfl)
  all_goals (walk_at "mine aws")
  have sq : ∀ X : List O, SeqV bv (S ++ X) (barred.map V.int) := fun X => by
    rcases hbv with h | ⟨n, h, k⟩
    · exact .inl h
    · exact .inr ⟨n, h, getElem?_app k⟩
  refine ⟨1, node, fun i ls' S' => S' = S ++ [.list [.bool false], .list (bvs (openL nds barred i ++ List.replicate (node - i) false))] ∧ ls' = [bn "pairs" (.ref np), bn "node" (.int node), bn "barred" bv, bn "free" (.ref (S.length + 1))], .inr ?_, by omega, by omega, ?_, ?_, ?_⟩
  · rw [Int.add_comm]
  · refine ⟨_, ?_, rfl, rfl⟩
    ((repeat (refine ⟨rfl, ?_⟩)); exact trivial)
  · rintro Inv9 hI9 i l S' ⟨rfl, rfl⟩ hi
    rw [show (1 : Int) + (i : Int) = ((i + 1 : Nat) : Int) by omega]
    have hnd : nds[i + 1]? = some nds[i + 1] := List.getElem?_eq_getElem (by omega)
    have hgd : nds.getD (i + 1) none = nds[i + 1] := by rw [List.getD_eq_getElem?_getD, hnd]; rfl
    have hol := openL_len nds barred i
    have erep : List.replicate (node - i) false = false :: List.replicate (node - (i + 1)) false := by
      rw [show node - i = (node - (i + 1)) + 1 by omega, List.replicate_succ]
    have estep : ∀ b, openAt nds barred (openL nds barred i) (i + 1) = b → ((openL nds barred i ++ List.replicate (node - i) false).set (i + 1) b) = openL nds barred (i + 1) ++ List.replicate (node - (i + 1)) false := by
      intro b hbb
      rw [erep, List.set_append_right _ _ (by omega), hol]
      simp [openL, hbb]
    have hgo : ∀ z : Nat, z < i + 1 → (bvs (openL nds barred i ++ List.replicate (node - i) false))[z]? = some (.bool ((openL nds barred i).getD z false)) := by
      intro z hz
      rw [List.getElem?_map, List.getElem?_append_left (by omega), List.getD_eq_getElem?_getD, List.getElem?_eq_getElem (by omega)]
      rfl
    all_goals (walk_at "mine aws")
    refine wItV (.inr ⟨np, rfl, getElem?_app hp⟩) (x := nodeV nds[i + 1]) (by rw [List.getElem?_map, hnd]; rfl) (by simp; omega) ?_
    all_goals (walk_at "mine aws")
    refine c_notIn (vs := barred) (sq _) ?_
    refine truth_bool ?_
    cases hbc : barred.contains ((i + 1 : Nat) : Int) with
    | true =>
      refine iteF ?_
      all_goals (walk_at "mine aws")
      refine ⟨_, ?_, ?_, rfl⟩
      · ((repeat (refine ⟨rfl, ?_⟩)); exact trivial)
      · have h0 : openAt nds barred (openL nds barred i) (i + 1) = false := by unfold openAt; rw [hbc]; rfl
        have := estep false h0
        rw [← this, erep, List.set_append_right _ _ (by omega), hol]
        simp
    | false =>
      refine iteT ?_
      walk_at "mine aw"
      refine s_assignSub ?_ (by rfl)
      have fin : ∀ (A' : Around) b, openAt nds barred (openL nds barred i) (i + 1) = b → ASet G A' (.ref (S.length + 1)) (.int ((i + 1 : Nat) : Int)) (.bool b) (S ++ [.list [.bool false], .list (bvs (openL nds barred i ++ List.replicate (node - i) false))])
          fun _ S' => S' = S ++ [.list [.bool false], .list (bvs (openL nds barred (i + 1) ++ List.replicate (node - (i + 1)) false))] := by
        intro A' b hbb
        refine set_list two_end (by simp; omega) (by simp; omega) ?_
        rw [two_set, ← estep b hbb]
        simp [bvs, List.map_set]
      have hgo' : ∀ z : Int, 0 ≤ z → z.toNat < i + 1 → (bvs (openL nds barred i ++ List.replicate (node - i) false))[z.toNat]? = some (.bool ((openL nds barred i).getD z.toNat false)) := fun z _ h => hgo _ h
      have hbl : (bvs (openL nds barred i ++ List.replicate (node - i) false)).length ≤ 100000 := by simp; omega
      cases hq : nds[i + 1] with
      | none =>
        have hval : openAt nds barred (openL nds barred i) (i + 1) = true := by unfold openAt; rw [hbc, hgd, hq]; rfl
        refine aOrCons ?_
        walk_at "mine aw"; walk_at "mine aw"; walk_at "mine aw"
        refine c_isNone ?_
        refine truth_bool ?_
        refine iteT ?_
        refine ⟨rfl, ?_⟩
        walk_at "mine aw"; walk_at "mine aw"
        refine (fin _ true hval).mono ?_
        rintro _ S' rfl
        all_goals (walk_at "mine aws")
        refine ⟨_, ?_, rfl, rfl⟩
        ((repeat (refine ⟨rfl, ?_⟩)); exact trivial)
      | some p =>
        obtain ⟨a, b⟩ := p
        rw [hq] at hnd
        obtain ⟨ha0, ha1, hb0, hb1⟩ := hlow.2 _ a b hnd
        have hval : openAt nds barred (openL nds barred i) (i + 1) = ((openL nds barred i).getD (a / 2).toNat false || (openL nds barred i).getD (b / 2).toNat false) := by unfold openAt; rw [hbc, hgd, hq]; rfl
        refine aOrCons ?_
        walk_at "mine aw"; walk_at "mine aw"; walk_at "mine aw"
        refine c_isNone ?_
        refine truth_bool ?_
        refine iteF ?_
        refine aOrCons ?_
        walk_at "mine aw"; walk_at "mine aw"; walk_at "mine aw"; walk_at "mine aw"; walk_at "mine aw"; walk_at "mine aw"
        refine wItV (vs := ivs [a, b]) (i := 0) (.inl rfl) (x := .int a) rfl (by simp) ?_
        walk_at "mine aw"
        refine b_shr1 (room.deeper _).1 ?_
        refine wItZ (by omega) (.inr ⟨_, rfl, two_end⟩) (hgo' _ (by omega) ha1) hbl ?_
        refine truth_bool ?_
        cases h1 : (openL nds barred i).getD (a / 2).toNat false with
        | true =>
          refine iteT ?_
          refine ⟨rfl, ?_⟩
          walk_at "mine aw"; walk_at "mine aw"
          refine (fin _ true (by rw [hval, h1]; rfl)).mono ?_
          rintro _ S' rfl
          all_goals (walk_at "mine aws")
          refine ⟨_, ?_, rfl, rfl⟩
          ((repeat (refine ⟨rfl, ?_⟩)); exact trivial)
        | false =>
          refine iteF ?_
          refine aOrLast ?_
          walk_at "mine aw"; walk_at "mine aw"; walk_at "mine aw"; walk_at "mine aw"; walk_at "mine aw"; walk_at "mine aw"
          refine wItV (vs := ivs [a, b]) (i := 1) (.inl rfl) (x := .int b) rfl (by simp) ?_
          walk_at "mine aw"
          refine b_shr1 (room.deeper _).1 ?_
          refine wItZ (by omega) (.inr ⟨_, rfl, two_end⟩) (hgo' _ (by omega) hb1) hbl ?_
          walk_at "mine aw"; walk_at "mine aw"
          refine (fin _ _ (by rw [hval, h1]; rfl)).mono ?_
          rintro _ S' rfl
          all_goals (walk_at "mine aws")
          refine ⟨_, ?_, rfl, rfl⟩
          ((repeat (refine ⟨rfl, ?_⟩)); exact trivial)
  · rintro l S' ⟨rfl, rfl⟩
    all_goals (walk_at "mine aws")
    exact ⟨rfl, by simp⟩
end
-- W14
section
-- the nodes of the walk down an open way from s
noncomputable def pathF (nds : List Nd) (free : List Bool) : Nat → Nat → List Nat
  | 0, _ => []
  | f + 1, s => match nds.getD s none with
    | none => []
    | some (a, b) => (if free.getD (a / 2).toNat false then (a / 2).toNat else (b / 2).toNat) :: pathF nds free f (if free.getD (a / 2).toNat false then (a / 2).toNat else (b / 2).toNat)
noncomputable def closeP (nds : List Nd) (dl : List Int) (level : Int) (node : Nat) : Nat → List Int → Bool
  | left, barred =>
    if !(openL nds barred node).getD node false then true
    else match left with
      | 0 => false
      | left + 1 => (pathF nds (openL nds barred node) node node).any fun s => decide (dl.getD s 0 < level) && closeP nds dl level node left (barred ++ [(s : Int)])
theorem low_getD {nds : List Nd} (hl : Low nds) {s : Nat} {a b : Int} (h : nds.getD s none = some (a, b)) : nds[s]? = some (some (a, b)) := by
  rw [List.getD_eq_getElem?_getD] at h
  cases z : nds[s]? with
  | none => rw [z] at h; cases h
  | some v => rw [z] at h; rw [show v = some (a, b) from h]
theorem pathF_fuel {nds : List Nd} (hl : Low nds) (free : List Bool) : ∀ f g s, s ≤ f → s ≤ g → pathF nds free f s = pathF nds free g s
  | 0, g, s, hf, hg => by
    have : s = 0 := by omega
    subst this
    cases g with
    | zero => rfl
    | succ g => simp [pathF, List.getD_eq_getElem?_getD, hl.1]
  | f + 1, 0, s, hf, hg => by
    have : s = 0 := by omega
    subst this
    simp [pathF, List.getD_eq_getElem?_getD, hl.1]
  | f + 1, g + 1, s, hf, hg => by
    unfold pathF
    cases q : nds.getD s none with
    | none => rfl
    | some p =>
      obtain ⟨a, b⟩ := p
      obtain ⟨_, h1, _, h2⟩ := hl.2 s a b (low_getD hl q)
      dsimp only
      congr 1
      apply pathF_fuel hl
      · split <;> omega
      · split <;> omega
theorem pathF_step {nds : List Nd} (hl : Low nds) (free : List Bool) {s : Nat} {a b : Int} (h : nds.getD s none = some (a, b)) : pathF nds free s s = (if free.getD (a / 2).toNat false then (a / 2).toNat else (b / 2).toNat) ::
    pathF nds free (if free.getD (a / 2).toNat false then (a / 2).toNat else (b / 2).toNat) (if free.getD (a / 2).toNat false then (a / 2).toNat else (b / 2).toNat) := by
  obtain ⟨_, h1, _, h2⟩ := hl.2 s a b (low_getD hl h)
  obtain ⟨f, rfl⟩ : ∃ f, s = f + 1 := ⟨s - 1, by omega⟩
  rw [pathF, h]
  dsimp only
  congr 1
  apply pathF_fuel hl
  · split <;> omega
  · omega
theorem pathF_end {nds : List Nd} (free : List Bool) {s : Nat} (h : nds.getD s none = none) : pathF nds free s s = [] := by
  cases s with
  | zero => rfl
  | succ f => rw [pathF, h]

set_option maxHeartbeats 16000000 in
theorem close_walk (G : Gx) (hK : KK G) (nds : List Nd) (dl : List Int) (level : Int) (node : Nat) (hnode : node < nds.length) (hb : nds.length ≤ 1000) (hlow : Low nds) (hdl : node ≤ dl.length) (hdb : dl.length ≤ 1000) : ∀ (left : Nat) (A : Around) (room : Room A (left + 4)) (barred : List Int) (np nd nb : Nat) (S : List O)
    (hp : S[np]? = some (.list (nds.map nodeV))) (hd : S[nd]? = some (.list (ivs dl))) (hbr : S[nb]? = some (.list (ivs barred))) (hbl : barred.length + left ≤ 1000),
    AApp G A (.top (.ref 240)) [V.ref np, V.ref nd, V.int level, V.int node, V.int left, V.ref nb] S fun v S' => (∃ X, S' = S ++ X) ∧ v = .bool (closeP nds dl level node left barred) := by
  intro left
  induction left using Nat.strongRecOn with
  | ind left ih =>
    intro A room barred np nd nb S hp hd hbr hbl
    refine AApp.gen fun P9 hP9 => ?_
    refine aDef (ps := ["pairs", "depths", "level", "node", "left", "barred"]) (f := 240) (by rw [hK]; rfl) (by rw [hK]; kernel_rfl) room.depth rfl ?hbind (by decide) (by decide) (by decide) rfl rfl rfl ?_
    case hbind => intro vals h; obtain ⟨a, b, c, d, e, f, rfl⟩ := vals6 h; rfl
    intro L
    have room' : ∀ env, Room (A.deeper env) (left + 3) := fun env => Room.deeper room env
    all_goals (walk_at "mine aws")
    ((with_reducible refine' aCallT ?k0 ?k6 ?k1 ?k2 ?k3 ?_ ?k4 ?k5); (case k0 => assumption); (case k6 => exact rfl); (case k1 => decide); (case k2 => exact ⟨rfl, rfl, rfl⟩); (case k3 => exact rfl); (case k4 => exact rfl); (case k5 => exact rfl))
    all_goals (walk_at "mine aws")
    refine (open_walk G hK _ ((room' _).le (by omega)) nds np _ hp node hnode hb hlow barred (.ref nb) (.inr ⟨nb, rfl, hbr⟩)).mono ?_
    rintro v S1 ⟨rfl, rfl⟩
    have hol := openL_len nds barred node
    have hopen : ∀ X : List O, (S ++ [O.list [V.bool false], O.list (bvs (openL nds barred node))] ++ X)[S.length + 1]? = some (.list (bvs (openL nds barred node))) := fun X => getElem?_app two_end
    walk_at "mine aw"; walk_at "mine aw"; walk_at "mine aw"; walk_at "mine aw"
    refine tValue ?_ (by rfl)
    all_goals (walk_at "mine aws")
    refine wItV (.inr ⟨_, rfl, two_end⟩) (x := .bool ((openL nds barred node).getD node false)) (by simp [hol]) (by simp; omega) ?_
    refine truth_bool ?_
    cases hfree : (openL nds barred node).getD node false with
    | false =>
      refine iteT ?_
      all_goals (walk_at "mine aws")
      refine ⟨⟨_, rfl⟩, ?_⟩
      cases left <;> (unfold closeP; rw [hfree]; rfl)
    | true =>
      refine iteF ?_
      all_goals (walk_at "mine aws")
      · rename_i h0
        have : left = 0 := by omega
        subst this
        refine ⟨⟨_, rfl⟩, ?_⟩
        unfold closeP; rw [hfree]; rfl
      · rename_i h0
        obtain ⟨l, rfl⟩ : ∃ l, left = l + 1 := ⟨left - 1, by omega⟩
        have hcl : closeP nds dl level node (l + 1) barred = (pathF nds (openL nds barred node) node node).any fun s => decide (dl.getD s 0 < level) && closeP nds dl level node l (barred ++ [(s : Int)]) := by
          conv => lhs; unfold closeP
          rw [hfree]; rfl
        rw [hcl] at hP9
        generalize hfr : openL nds barred node = free at *
        refine s_while (fun n ls' S' => n ≤ node ∧ (∃ X, S' = S ++ [.list [.bool false], .list (bvs free)] ++ X) ∧ ((pathF nds free node node).any fun s => decide (dl.getD s 0 < level) && closeP nds dl level node l (barred ++ [(s : Int)])) = ((pathF nds free n n).any fun s => decide (dl.getD s 0 < level) && closeP nds dl level node l (barred ++ [(s : Int)])) ∧
          ls' = [bn "pairs" (.ref np), bn "depths" (.ref nd), bn "level" (.int level), bn "node" (.int node), bn "left" (.int ((l + 1 : Nat) : Int)), bn "barred" (.ref nb), bn "free" (.ref (S.length + 1)), bn "step" (.int n)]) (n := node) ?_ ?_
        · refine ⟨_, ?_, Nat.le_refl _, ⟨[], by simp⟩, rfl, rfl⟩
          ((repeat (refine ⟨rfl, ?_⟩)); exact trivial)
        · rintro Inv9 hI9 n ls' S' ⟨hnn, ⟨X, rfl⟩, hany, rfl⟩
          have hndn : nds[n]? = some (nds.getD n none) := by rw [List.getD_eq_getElem?_getD, List.getElem?_eq_getElem (by omega)]; rfl
          all_goals (walk_at "mine aws")
          refine wItV (.inr ⟨np, rfl, getElem?_app (getElem?_app hp)⟩) (x := nodeV (nds.getD n none)) (by rw [List.getElem?_map, hndn]; rfl) (by simp; omega) ?_
          walk_at "mine aw"
          refine c_isNotNone ?_
          refine truth_bool ?_
          cases hq : nds.getD n none with
          | none =>
            refine iteF ?_
            all_goals (walk_at "mine aws")
            refine ⟨⟨_, List.append_assoc _ _ _⟩, ?_⟩
            rw [hany, pathF_end free hq]; rfl
          | some p =>
            obtain ⟨a, b⟩ := p
            obtain ⟨ha0, ha1, hb0, hb1⟩ := hlow.2 n a b (low_getD hlow hq)
            refine iteT ?_
            have hps := pathF_step hlow free hq
            obtain ⟨s', hs'⟩ : ∃ s', s' = (if free.getD (a / 2).toNat false then (a / 2).toNat else (b / 2).toNat) := ⟨_, rfl⟩
            rw [← hs'] at hps
            have hsn : s' < n := by rw [hs']; split <;> omega
            have hcur : ∀ Y : List O, (S ++ [O.list [V.bool false], O.list (bvs free)] ++ X ++ Y)[S.length + 1]? = some (.list (bvs free)) := fun Y => getElem?_app (hopen X)
            walk_at "mine aw"
            refine s_unpack [("one", ?p1), ("other", ?p2)] (by rfl) ⟨rfl, rfl, rfl⟩ (room' _).1 ?_ ?_ (by rfl) (by rfl)
            · intro p hp
              rcases List.mem_cons.mp hp with rfl | hp
              · exact .inl rfl
              · rcases List.mem_cons.mp hp with rfl | hp
                · exact .inl rfl
                · cases hp
            walk_at "mine aw"; walk_at "mine aw"; walk_at "mine aw"
            refine wItV (.inr ⟨np, rfl, getElem?_app (getElem?_app hp)⟩) (x := nodeV (nds.getD n none)) (by rw [List.getElem?_map, hndn]; rfl) (by simp; omega) ?_
            rw [hq]
            refine ⟨_, rfl, rfl, ?_⟩
            walk_at "mine aw"
            refine x_seq (AStm.mono (P := fun f ls2 S2 => f = .next ∧ SubL [bn "pairs" (.ref np), bn "depths" (.ref nd), bn "level" (.int level), bn "node" (.int node), bn "left" (.int ((l + 1 : Nat) : Int)), bn "barred" (.ref nb), bn "free" (.ref (S.length + 1)), bn "step" (.int s')] ls2 ∧ S2 = S ++ [.list [.bool false], .list (bvs free)] ++ X) ?_ ?_)
            · walk_at "mine aw"
              walk_at "mine aw"
              refine tValue ?_ (by rfl)
              all_goals (walk_at "mine aws")
              refine b_shr1 (room' _).1 ?_
              refine wItZ (by omega) (.inr ⟨_, rfl, hopen X⟩) (x := .bool (free.getD (a / 2).toNat false)) (by rw [List.getElem?_map, List.getD_eq_getElem?_getD, List.getElem?_eq_getElem (by rw [hol]; omega)]; rfl) (by simp; omega) ?_
              refine truth_bool ?_
              cases hf : free.getD (a / 2).toNat false with
              | true =>
                refine iteT ?_
                all_goals (walk_at "mine aws")
                refine b_shr1 (room' _).1 ?_
                refine ⟨rfl, ?_, rfl⟩
                rw [show (s' : Int) = a / 2 by rw [hs', hf, if_pos rfl]; omega]
                ((repeat (refine ⟨rfl, ?_⟩)); exact trivial)
              | false =>
                refine iteF ?_
                all_goals (walk_at "mine aws")
                refine b_shr1 (room' _).1 ?_
                refine ⟨rfl, ?_, rfl⟩
                rw [show (s' : Int) = b / 2 by rw [hs', hf, if_neg Bool.false_ne_true]; omega]
                ((repeat (refine ⟨rfl, ?_⟩)); exact trivial)
            · rintro f ls2 S2 ⟨rfl, hsub, rfl⟩
              show AExecs _ _ _ _ _ _ _
              refine x_sub hsub ?_
              clear hsub
              walk_at "mine aw"; walk_at "mine aw"; walk_at "mine aw"; walk_at "mine aw"; walk_at "mine aw"; walk_at "mine aw"
              refine wItV (vs := ivs dl) (i := s') (.inr ⟨nd, rfl, getElem?_app (getElem?_app hd)⟩) (x := .int (dl.getD s' 0)) (by rw [List.getElem?_map, List.getD_eq_getElem?_getD, List.getElem?_eq_getElem (by omega)]; rfl) (by simp; omega) ?_
              walk_at "mine aw"; walk_at "mine aw"; walk_at "mine aw"
              refine iteD (fun hlt => ?_) (fun hlt => ?_)
              · walk_at "mine aw"
                walk_at "mine aw"
                refine tValue ?_ (by rfl)
                ((with_reducible refine' aCallT ?k0 ?k6 ?k1 ?k2 ?k3 ?_ ?k4 ?k5); (case k0 => assumption); (case k6 => exact rfl); (case k1 => decide); (case k2 => exact ⟨rfl, rfl, rfl⟩); (case k3 => exact rfl); (case k4 => exact rfl); (case k5 => exact rfl))
                all_goals (walk_at "mine aws")
                refine ⟨by simp, ?_⟩
                refine b_addL (getElem?_app (getElem?_app (getElem?_app hbr))) list_at_end (by simp; omega) ?_
                all_goals (walk_at "mine aws")
                rw [show ((l + 1 : Nat) : Int) - 1 = (l : Int) by omega]
                refine (ih l (by omega) _ ((room' _).le (by omega)) (barred ++ [(s' : Int)]) np nd _ _ (getElem?_app (getElem?_app (getElem?_app (getElem?_app hp)))) (getElem?_app (getElem?_app (getElem?_app (getElem?_app hd)))) (by rw [list_at_end]; simp [ivs]) (by simp; omega)).mono ?_
                rintro v S9 ⟨⟨Y, rfl⟩, rfl⟩
                refine truth_bool ?_
                cases hcv : closeP nds dl level node l (barred ++ [(s' : Int)]) with
                | true =>
                  refine iteT ?_
                  all_goals (walk_at "mine aws")
                  refine ⟨⟨_, by simp only [List.append_assoc]; rfl⟩, ?_⟩
                  rw [hany, hps, List.any_cons, decide_eq_true hlt, hcv]; rfl
                | false =>
                  refine iteF ?_
                  all_goals (walk_at "mine aws")
                  refine ⟨_, ?_, s', hsn, by omega, ⟨_, by simp only [List.append_assoc]; rfl⟩, ?_, rfl⟩
                  · ((repeat (refine ⟨rfl, ?_⟩)); exact trivial)
                  · rw [hany, hps, List.any_cons, hcv, Bool.and_false, Bool.false_or]
              · all_goals (walk_at "mine aws")
                refine ⟨_, ?_, s', hsn, by omega, ⟨X, rfl⟩, ?_, rfl⟩
                · ((repeat (refine ⟨rfl, ?_⟩)); exact trivial)
                · rw [hany, hps, List.any_cons, decide_eq_false hlt, Bool.false_and, Bool.false_or]
end
-- W15
section
-- the levels that the law's own search finds
structure IsLeast (nds : List Nd) (k : Nat) (least : List Int) : Prop where
  len : least.length = nds.length
  zero : ∀ i, nds.getD i none = none → i < nds.length → least.getD i 0 = 0
  one : ∀ i p, nds.getD i none = some p → 1 ≤ least.getD i 0
  found : ∀ i p, nds.getD i none = some p → closeP nds (least.take i) (least.getD i 0) i k [] = true
  below : ∀ i p, nds.getD i none = some p → ∀ l : Int, 1 ≤ l → l < least.getD i 0 → closeP nds (least.take i) l i k [] = false

set_option maxHeartbeats 16000000 in
theorem least_walk (G : Gx) (hK : KK G) (nds : List Nd) (k : Nat) (least : List Int) (hL : IsLeast nds k least) (hb : nds.length ≤ 900) (hk : k ≤ 6) (hlow : Low nds) (A : Around) (room : Room A (k + 6)) (np : Nat) (S : List O) (hp : S[np]? = some (.list (nds.map nodeV))) :
    AApp G A (.top (.ref 247)) [V.ref np, V.int k] S fun v S' => v = .ref S.length ∧ ∃ X, S' = S ++ [.list (ivs least)] ++ X := by
  refine AApp.gen fun P9 hP9 => ?_
  refine aDef (ps := ["pairs", "k"]) (f := 247) (by rw [hK]; rfl) (by rw [hK]; kernel_rfl) room.depth rfl ?hbind (by decide) (by decide) (by decide) rfl rfl rfl ?_
  case hbind => intro vals h; obtain ⟨a, b, rfl⟩ := vals2 h; rfl
  intro L
  have room' : ∀ env, Room (A.deeper env) (k + 5) := fun env => Room.deeper room env
  all_goals (walk_at "mine aws")
  refine ⟨by simp, ?_⟩
  walk_at "mine aw"
  walk_at "mine aw"
  refine s_forRange ⟨rfl, rfl, rfl⟩ (.inl rfl) (room' _).1 rfl (by rw [hK]; exact nsRange _) ?_ (by intro _; rfl) (by rfl) (by rfl)
  all_goals (walk_at "mine aws")
  refine wLenL (getElem?_app hp) (by simp; omega) ?_
  walk_at "mine aw"
  refine ⟨0, nds.length, fun i ls' S' => (∃ X, S' = S ++ [.list (ivs (least.take i))] ++ X) ∧ ls' = [bn "pairs" (.ref np), bn "k" (.int k), bn "depths" (.ref S.length)], .inl ⟨by simp, rfl⟩, by omega, by omega, ?_, ?_, ?_⟩
  · refine ⟨_, ?_, ⟨[], by simp⟩, rfl⟩
    ((repeat (refine ⟨rfl, ?_⟩)); exact trivial)
  · rintro Inv9 hI9 i l S' ⟨⟨X, rfl⟩, rfl⟩ hi
    rw [Int.zero_add]
    have hil : i < least.length := by rw [hL.len]; exact hi
    have hnd : nds[i]? = some (nds.getD i none) := by rw [List.getD_eq_getElem?_getD, List.getElem?_eq_getElem hi]; rfl
    have htk : least.take (i + 1) = least.take i ++ [least.getD i 0] := by
      rw [List.take_succ_eq_append_getElem hil, List.getD_eq_getElem?_getD, List.getElem?_eq_getElem hil]; rfl
    all_goals (walk_at "mine aws")
    refine wItV (.inr ⟨np, rfl, getElem?_app (getElem?_app hp)⟩) (x := nodeV (nds.getD i none)) (by rw [List.getElem?_map, hnd]; rfl) (by simp; omega) ?_
    walk_at "mine aw"
    refine c_isNotNone ?_
    refine truth_bool ?_
    cases hq : nds.getD i none with
    | none =>
      refine iteF ?_
      all_goals (walk_at "mine aws")
      refine wRef get_mid ?_
      all_goals (walk_at "mine aws")
      refine wPut get_mid (by simp; omega) ?_
      refine ⟨rfl, ?_⟩
      all_goals (walk_at "mine aws")
      refine ⟨_, ?_, ⟨X, ?_⟩, rfl⟩
      · ((repeat (refine ⟨rfl, ?_⟩)); exact trivial)
      · rw [set_mid, htk, hL.zero i hq hi]; simp [ivs]
    | some p =>
      have h1 := hL.one i p hq
      have hf := hL.found i p hq
      have hbel := hL.below i p hq
      refine iteT ?_
      all_goals (walk_at "mine aws")
      refine s_while (fun n ls' S' => (∃ X, S' = S ++ [.list (ivs (least.take i))] ++ X) ∧ ∃ lv : Int, 1 ≤ lv ∧ lv ≤ least.getD i 0 ∧ n = (least.getD i 0 - lv).toNat ∧ ls' = [bn "pairs" (.ref np), bn "k" (.int k), bn "depths" (.ref S.length), bn "node" (.int i), bn "level" (.int lv)]) (n := (least.getD i 0 - 1).toNat) ?_ ?_
      · refine ⟨_, ?_, ⟨X, rfl⟩, 1, by omega, h1, rfl, rfl⟩
        ((repeat (refine ⟨rfl, ?_⟩)); exact trivial)
      · rintro Inv9 hI9 n ls' S' ⟨⟨Y, rfl⟩, lv, hlv1, hlv2, rfl, rfl⟩
        walk_at "mine aw"
        refine tValue ?_ (by rfl)
        ((with_reducible refine' aCallT ?k0 ?k6 ?k1 ?k2 ?k3 ?_ ?k4 ?k5); (case k0 => assumption); (case k6 => exact rfl); (case k1 => decide); (case k2 => exact ⟨rfl, rfl, rfl⟩); (case k3 => exact rfl); (case k4 => exact rfl); (case k5 => exact rfl))
        all_goals (walk_at "mine aws")
        refine ⟨by simp, ?_⟩
        all_goals (walk_at "mine aws")
        refine (close_walk G hK nds (least.take i) lv i hi (by omega) hlow (by simp; omega) (by simp; omega) k _ ((room' _).le (by omega)) [] np S.length _ _ (getElem?_app (getElem?_app (getElem?_app hp))) (getElem?_app get_mid) (by rw [list_at_end]; rfl) (by simp; omega)).mono ?_
        rintro v S9 ⟨⟨Z, rfl⟩, rfl⟩
        refine truth_bool ?_
        by_cases hlt : lv = least.getD i 0
        · subst hlt
          rw [hf]
          refine iteF ?_
          all_goals (walk_at "mine aws")
          have hm : (S ++ [O.list (ivs (least.take i))] ++ Y ++ [O.list []] ++ Z) = S ++ [O.list (ivs (least.take i))] ++ (Y ++ [O.list []] ++ Z) := by simp
          rw [hm]
          refine wRef get_mid ?_
          all_goals (walk_at "mine aws")
          refine wPut get_mid (by simp; omega) ?_
          refine ⟨rfl, ?_⟩
          all_goals (walk_at "mine aws")
          refine ⟨_, ?_, ⟨Y ++ [O.list []] ++ Z, ?_⟩, rfl⟩
          · ((repeat (refine ⟨rfl, ?_⟩)); exact trivial)
          · rw [set_mid, htk]; simp [ivs]
        · rw [hbel lv hlv1 (by omega)]
          refine iteT ?_
          all_goals (walk_at "mine aws")
          refine ⟨_, ?_, _, ?_, ⟨_, by simp only [List.append_assoc]; rfl⟩, lv + 1, by omega, by omega, rfl, rfl⟩
          · ((repeat (refine ⟨rfl, ?_⟩)); exact trivial)
          · omega
  · rintro l S' ⟨⟨X, rfl⟩, rfl⟩
    all_goals (walk_at "mine aws")
    refine ⟨rfl, X, ?_⟩
    rw [List.take_of_length_le (by rw [hL.len]; exact Nat.le_refl _)]
end
-- W16
section
-- what the law asks of a node's answer
structure CoverAt (nds : List Nd) (k : Nat) (dl : List Int) (node : Nat) (c : List Int) : Prop where
  pos : 1 ≤ c.length
  len : c.length ≤ k
  asc : c.Pairwise (· < ·)
  lo : ∀ x ∈ c, 1 ≤ x
  hi : ∀ x ∈ c, x < node
  opn : (openL nds c node).getD node false = false
  dep : IsDepth dl c (dl.getD node 0)
structure CoverOk (nds : List Nd) (k : Nat) (ch : List (Option (List Int))) (dl : List Int) : Prop where
  lc : ch.length = nds.length
  ld : dl.length = nds.length
  nn : ∀ i, i < nds.length → nds.getD i none = none → ch.getD i none = none ∧ dl.getD i 0 = 0
  aa : ∀ i p, nds.getD i none = some p → ∃ c, ch.getD i none = some c ∧ CoverAt nds k dl i c

set_option maxHeartbeats 16000000 in
theorem isCover_walk (G : Gx) (hK : KK G) (nds : List Nd) (k : Nat) (ch : List (Option (List Int))) (dl : List Int) (hok : CoverOk nds k ch dl) (hb : nds.length ≤ 900) (hk : k ≤ 6) (hlow : Low nds) (A : Around) (room : Room A 5) (np nc nd : Nat) (S : List O)
    (hp : S[np]? = some (.list (nds.map nodeV))) (hc : S[nc]? = some (.list (ch.map chosenV))) (hd : S[nd]? = some (.list (ivs dl))) :
    AApp G A (.top (.ref 252)) [V.ref np, V.int k, V.tup [.ref nc, .ref nd]] S fun v S' => v = .bool true ∧ ∃ X, S' = S ++ X := by
  refine AApp.gen fun P9 hP9 => ?_
  refine aDefC (ps := ["pairs", "k", "answer"]) (f := 252) (by rw [hK]; rfl) (by rw [hK]; kernel_rfl) room.depth rfl ?hbind ?hkind (by decide) ?hcells rfl rfl rfl ?_
  case hbind => intro vals h; obtain ⟨a, b, c, rfl⟩ := vals3 h; rfl
  case hkind =>
    intro n x hx
    rcases List.mem_cons.mp hx with rfl | hx
    · exact .inl rfl
    · rcases List.mem_cons.mp hx with rfl | hx
      · exact .inl rfl
      · rcases List.mem_cons.mp hx with rfl | hx
        · exact .inl rfl
        · cases hx
  case hcells =>
    intro n x c e
    by_cases q : x = ("depths" : Str)
    · subst q; rfl
    · exfalso
      have : (cellsFrom n [(("depths" : Str), NameKind.cell)] []).lookup x = some c := e
      simp [cellsFrom, List.lookup, beq_eq_false_iff_ne.mpr q] at this
  intro L
  have room' : ∀ env, Room (A.deeper env) 4 := fun env => Room.deeper room env
  walk_at "mine aw"
  refine s_unpack [("chosen", ?p1), ("depths", ?p2)] (by rfl) ⟨rfl, rfl, rfl⟩ (room' _).1 ?_ ?_ (by rfl) (by rfl)
  · intro p hp
    rcases List.mem_cons.mp hp with rfl | hp
    · exact .inl rfl
    · rcases List.mem_cons.mp hp with rfl | hp
      · exact .inr ⟨rfl, rfl, by decide⟩
      · cases hp
  walk_at "mine aw"
  refine ⟨_, rfl, rfl, ?_⟩
  all_goals (walk_at "mine aws")
  refine wLenL hc (by simp [hok.lc]; omega) ?_
  all_goals (walk_at "mine aws")
  refine wLenL hp (by simp; omega) ?_
  walk_at "mine aw"
  rw [show (((ch.map chosenV).length : Int) != ((nds.map nodeV).length : Int)) = false by simp [hok.lc]]
  walk_at "mine aw"
  refine iteF ?_
  all_goals (walk_at "mine aws")
  refine wLenL hd (by simp [hok.ld]; omega) ?_
  all_goals (walk_at "mine aws")
  refine wLenL hp (by simp; omega) ?_
  walk_at "mine aw"
  rw [show (((ivs dl).length : Int) != ((nds.map nodeV).length : Int)) = false by simp [hok.ld]]
  walk_at "mine aw"
  refine iteF ?_
  walk_at "mine aw"
  refine iteF ?_
  walk_at "mine aw"; walk_at "mine aw"; walk_at "mine aw"
  refine s_forRange ⟨rfl, rfl, rfl⟩ (.inl rfl) (room' _).1 rfl (by rw [hK]; exact nsRange _) ?_ (by intro _; rfl) (by rfl) (by rfl)
  all_goals (walk_at "mine aws")
  refine wLenL hp (by simp; omega) ?_
  walk_at "mine aw"
  refine ⟨0, nds.length, fun i ls' S' => (∃ X, S' = S ++ X) ∧ ls' = [bn "pairs" (.ref np), bn "k" (.int k), bn "chosen" (.ref nc), bn "depths" (.ref nd)], .inl ⟨by simp, rfl⟩, by omega, by omega, ?_, ?_, ?_⟩
  · refine ⟨_, ?_, ⟨[], by simp⟩, rfl⟩
    ((repeat (refine ⟨rfl, ?_⟩)); exact trivial)
  · rintro Inv9 hI9 i l S' ⟨⟨X, rfl⟩, rfl⟩ hi
    rw [Int.zero_add]
    have hnd : nds[i]? = some (nds.getD i none) := by rw [List.getD_eq_getElem?_getD, List.getElem?_eq_getElem hi]; rfl
    have hci : ch[i]? = some (ch.getD i none) := by rw [List.getD_eq_getElem?_getD, List.getElem?_eq_getElem (by rw [hok.lc]; exact hi)]; rfl
    have hdi : dl[i]? = some (dl.getD i 0) := by rw [List.getD_eq_getElem?_getD, List.getElem?_eq_getElem (by rw [hok.ld]; exact hi)]; rfl
    all_goals (walk_at "mine aws")
    refine wItV (.inr ⟨nc, rfl, getElem?_app hc⟩) (x := chosenV (ch.getD i none)) (by rw [List.getElem?_map, hci]; rfl) (by simp [hok.lc]; omega) ?_
    all_goals (walk_at "mine aws")
    refine wItV (.inr ⟨np, rfl, getElem?_app hp⟩) (x := nodeV (nds.getD i none)) (by rw [List.getElem?_map, hnd]; rfl) (by simp; omega) ?_
    walk_at "mine aw"
    refine c_isNone ?_
    refine truth_bool ?_
    cases hq : nds.getD i none with
    | none =>
      obtain ⟨hcn, hdn⟩ := hok.nn i hi hq
      rw [hcn]
      refine iteT ?_
      walk_at "mine aw"; walk_at "mine aw"; walk_at "mine aw"; walk_at "mine aw"; walk_at "mine aw"; walk_at "mine aw"; walk_at "mine aw"
      refine c_isNotNone ?_
      refine truth_bool ?_
      refine iteF ?_
      walk_at "mine aw"; walk_at "mine aw"; walk_at "mine aw"; walk_at "mine aw"; walk_at "mine aw"
      refine wItV (.inr ⟨nd, rfl, getElem?_app hd⟩) (x := .int (dl.getD i 0)) (by rw [List.getElem?_map, hdi]; rfl) (by simp [hok.ld]; omega) ?_
      rw [hdn]
      walk_at "mine aw"; walk_at "mine aw"
      refine truth_bool ?_
      refine iteF ?_
      walk_at "mine aw"
      refine iteF ?_
      all_goals (walk_at "mine aws")
      refine ⟨_, ?_, ⟨X, rfl⟩, rfl⟩
      ((repeat (refine ⟨rfl, ?_⟩)); exact trivial)
    | some p =>
      obtain ⟨c, hcc, hca⟩ := hok.aa i p hq
      rw [hcc]
      refine iteF ?_
      have hcl := hca.len
      have hcp := hca.pos
      have hmem0 : c[0] ∈ c := List.getElem_mem _
      have hcne : c ≠ [] := fun q => by rw [q] at hcp; simp at hcp
      walk_at "mine aw"; walk_at "mine aw"; walk_at "mine aw"; walk_at "mine aw"; walk_at "mine aw"; walk_at "mine aw"
      refine tNot ?_
      refine tValue ?_ (by rfl)
      refine aCallB hK ⟨rfl, rfl, rfl⟩ rfl nsIsinstance blIsinstance (by decide) (by decide) (by intro a e; cases e) ?_ (by rfl) (by rfl)
      walk_at "mine aw"; walk_at "mine aw"; walk_at "mine aw"
      refine aB hK ⟨rfl, rfl, rfl⟩ rfl nsTuple blTuple (by decide) ?_ (by decide)
      walk_at "mine aw"
      refine f_isTuple ?_
      refine truth_bool ?_
      refine iteF ?_
      all_goals (walk_at "mine aws")
      have hasc : c.Pairwise (· ≤ ·) := hca.asc.imp fun h => Int.le_of_lt h
      refine wSeq (.inl rfl) (by simp; omega) ?_
      have hlo0 := hca.lo c[0] hmem0
      have hlast : c[c.length - 1] ∈ c := List.getElem_mem _
      have hhi := hca.hi _ hlast
      refine aCallB hK ⟨rfl, rfl, rfl⟩ rfl nsSorted blSorted (by decide) (by decide) (by intro a e; cases e) ?_ (by rfl) (by rfl)
      all_goals (walk_at "mine aws")
      refine f_sortedT hasc (by omega) ?_
      have hl1 : (S ++ X ++ [O.list (c.map V.int)] ++ [O.list (c.map V.int)])[(S ++ X).length]? = some (.list (c.map V.int)) := getElem?_app list_at_end
      refine c_neSame (room' _).u1 hl1 list_at_end ?_
      refine truth_bool ?_
      refine iteF ?_
      all_goals (walk_at "mine aws")
      refine wItT (xs := c) (i := 0) (by omega) (by omega) ?_
      all_goals (walk_at "mine aws")
      refine wItN (vs := ivs c) (k := -1) (j := c.length - 1) (.inl rfl) (by omega) (by simp; omega) (x := .int c[c.length - 1]) (by rw [List.getElem?_map, List.getElem?_eq_getElem (by omega)]; rfl) (by simp; omega) ?_
      all_goals (walk_at "mine aws")
      refine tValue ?_ (by rfl)
      walk_at "mine aw"
      ((with_reducible refine' aCallT ?k0 ?k6 ?k1 ?k2 ?k3 ?_ ?k4 ?k5); (case k0 => assumption); (case k6 => exact rfl); (case k1 => decide); (case k2 => exact ⟨rfl, rfl, rfl⟩); (case k3 => exact rfl); (case k4 => exact rfl); (case k5 => exact rfl))
      all_goals (walk_at "mine aws")
      have ha4 : ∀ {n : Nat} {o : O}, S[n]? = some o → (S ++ X ++ [O.list (c.map V.int)] ++ [O.list (c.map V.int)])[n]? = some o := fun h => getElem?_app (getElem?_app (getElem?_app h))
      have hS5 : ∃ Y, S ++ X ++ [O.list (c.map V.int)] ++ [O.list (c.map V.int)] = S ++ Y := ⟨X ++ [O.list (c.map V.int)] ++ [O.list (c.map V.int)], by simp⟩
      generalize S ++ X ++ [O.list (c.map V.int)] ++ [O.list (c.map V.int)] = S5 at *
      obtain ⟨Y, rfl⟩ := hS5
      refine (open_walk G hK _ ((room' _).le (by omega)) nds np _ (ha4 hp) i hi (by omega) hlow c (.tup (c.map V.int)) (.inl rfl)).mono ?_
      rintro v S6 ⟨rfl, rfl⟩
      walk_at "mine aw"
      refine wItV (.inr ⟨_, rfl, two_end⟩) (x := .bool ((openL nds c i).getD i false)) (by
        rw [List.getElem?_map, List.getD_eq_getElem?_getD, List.getElem?_eq_getElem (by rw [openL_len]; omega)]; rfl) (by simp [openL_len]; omega) ?_
      rw [hca.opn]
      refine truth_bool ?_
      refine iteF ?_
      all_goals (walk_at "mine aws")
      refine wItV (.inr ⟨nd, rfl, getElem?_app (getElem?_app hd)⟩) (x := .int (dl.getD i 0)) (by rw [List.getElem?_map, hdi]; rfl) (by simp [hok.ld]; omega) ?_
      all_goals (walk_at "mine aws")
      generalize hZ : S ++ Y ++ [O.list [V.bool false], O.list (bvs (openL nds c i))] = S6 at *
      have hd6 : S6[nd]? = some (.list (ivs dl)) := by rw [← hZ]; exact getElem?_app (getElem?_app hd)
      refine aMax1 hK (room' _).1 ⟨rfl, rfl, rfl⟩ rfl ?_ (by rfl) (by rfl) (by rfl)
      refine aComp [(("depths" : Str), L + 1)] [bn "depths" (.ref nd)] ⟨rfl, rfl, rfl⟩ rfl (cl1 rfl rfl rfl) (by decide) rfl (by decide) rfl ⟨⟨rfl, rfl, rfl, rfl⟩, trivial⟩ rfl ?_
      refine iter_seq (room' _).1 ?_
      walk_at "mine aw"
      refine ⟨ivs c, .inl rfl, fun Held hH => ⟨fun j S' => S' = S6 ++ [.list (ivs ((c.take j).map fun x => dl.getD x.toNat 0))], by simp, fun j S' _ => hH S' (.inl rfl), ?_, by simp; omega, ?_, ?_⟩⟩
      · rintro j S' rfl
        exact ⟨_, list_at_end, by simp; omega⟩
      · rintro C j S' v ys rfl hv hys
        obtain ⟨hj, rfl⟩ := ivs_get hv
        rw [list_at_end] at hys
        cases hys
        have h0 := hca.lo c[j] (by simp)
        have h1 := hca.hi c[j] (by simp)
        have h1' : c[j].toNat < dl.length := by rw [hok.ld]; omega
        all_goals (walk_at "mine aws")
        refine wItZ (vs := ivs dl) (by omega) (.inr ⟨nd, rfl, getElem?_app hd6⟩) (x := .int (dl.getD c[j].toNat 0)) (by rw [List.getElem?_map, List.getD_eq_getElem?_getD, List.getElem?_eq_getElem h1']; rfl) (by simp [hok.ld]; omega) ?_
        exact ⟨list_at_end, by rw [set_at_end]; dsimp only; rw [List.take_succ_eq_append_getElem hj, List.map_append]; simp [ivs, -List.map_take]⟩
      · rintro S' rfl
        have e : (c.take (ivs c).length) = c := by simp
        rw [e]
        refine ⟨S6.length, _, rfl, list_at_end, by simpa using hcne, fun M hM hle => ?_⟩
        have hdep : IsDepth dl c (1 + M) := ⟨fun q => absurd q hcne, fun _ => by
          obtain ⟨x, hx', rfl⟩ := List.mem_map.mp hM
          exact ⟨x, hx', rfl, fun y hy => hle _ (List.mem_map_of_mem hy)⟩⟩
        have hEq : 1 + M = dl.getD i 0 := hdep.uniq hca.dep
        walk_at "mine aw"
        rw [hEq]
        walk_at "mine aw"
        rw [show (dl.getD i 0 != dl.getD i 0) = false by simp]
        refine truth_bool ?_
        refine iteF ?_
        all_goals (walk_at "mine aws")
        refine ⟨_, ?_, ⟨Y ++ [O.list [V.bool false], O.list (bvs (openL nds c i))] ++ [O.list (ivs (c.map fun x => dl.getD x.toNat 0))], ?_⟩, rfl⟩
        · ((repeat (refine ⟨rfl, ?_⟩)); exact trivial)
        · rw [← hZ]; simp
  · rintro l S' ⟨⟨X, rfl⟩, rfl⟩
    all_goals (walk_at "mine aws")
    exact ⟨rfl, X, rfl⟩
end
-- W17
section
set_option maxHeartbeats 8000000 in
theorem init_code (G : Gx) (hK : KK G) (A : Around) (room : Room A 1) {S : List O} {x d : Nat} (I : IsInst 217 S x d []) {ρ : List Addr} {s : Shared} {xs : List Value} {R : Result → Shared → Prop} (H : HS G ρ S s.heap) (rs : VRs ρ s.heap [V.ref x] xs)
    (c : ∀ S' ρ' h' tk', (∃ n, AigAt S' x d n (n + 1) (n + 2) (n + 3) [none] [] [] [] ∧ S.length ≤ n ∧ Grow d S S') → HS G ρ' S' h' → Ext noX ρ s.heap ρ' h' → R (.ok (.ret .none)) { s with heap := h', toks := tk' }) : codeAny G.M A (.call (.ref 136) ⟨xs, []⟩) R s := by
  refine aDefCode (P := fun v S' => v = .none ∧ ∃ n, AigAt S' x d n (n + 1) (n + 2) (n + 3) [none] [] [] [] ∧ S.length ≤ n ∧ Grow d S S') (ps := ["self"]) (f := 136) (args := [V.ref x]) (by rw [hK]; rfl) (by rw [hK]; kernel_rfl) room.depth rfl ?hbind (by decide) (by decide) (by decide) rfl rfl rfl ?_ H rs
    (fun v S' y ρ' h' tk' p r H' e' => by obtain ⟨rfl, p⟩ := p; cases r; exact c S' ρ' h' tk' p H' e')
  case hbind => intro vals h; obtain ⟨a, rfl⟩ := vals1 h; rfl
  intro L
  have hdl : d < S.length := (List.getElem?_eq_some_iff.mp I.d).1
  have hxl : x < S.length := (List.getElem?_eq_some_iff.mp I.x).1
  have hxd : x ≠ d := fun q => by have h1 := I.x; rw [q, I.d] at h1; cases h1
  have setI : ∀ {S' : List O} {fs fs' : List (Str × V)}, IsInst 217 S' x d fs → IsInst 217 (S'.set d (.fields fs')) x d fs' := fun h => ⟨set_other h.x (Ne.symm hxd), set_self h.d⟩
  walk_at "mine aw"
  refine s_setAttr (clsAig hK) (by rw [hK]; exact tNodes _) ?_ (by rfl)
  all_goals (walk_at "mine aws")
  refine ⟨by simp, ?_⟩
  walk_at "mine aw"
  refine ⟨x, d, [], rfl, I.app _, by decide, ?_⟩
  have I1 := setI (fs' := upd [] "nodes" (.ref S.length)) (I.app [O.list [V.none]])
  all_goals (walk_at "mine aws")
  refine s_setAttr (clsAig hK) (by rw [hK]; exact tInputs _) ?_ (by rfl)
  all_goals (walk_at "mine aws")
  refine ⟨by simp, ?_⟩
  walk_at "mine aw"
  refine ⟨x, d, _, rfl, I1.app _, (show (1 : Nat) ≤ 100 by omega), ?_⟩
  have I2 := setI (fs' := upd (upd [] "nodes" (.ref S.length)) "inputs" (.ref ((S ++ [O.list [V.none]]).set d (.fields (upd [] "nodes" (.ref S.length)))).length)) (I1.app [O.list []])
  all_goals (walk_at "mine aws")
  refine s_setAttr (clsAig hK) (by rw [hK]; exact tOutputs _) ?_ (by rfl)
  all_goals (walk_at "mine aws")
  refine ⟨by simp, ?_⟩
  walk_at "mine aw"
  refine ⟨x, d, _, rfl, I2.app _, (show (2 : Nat) ≤ 100 by omega), ?_⟩
  have I3 := fun v => setI (fs' := upd (upd (upd [] "nodes" (.ref S.length)) "inputs" (.ref ((S ++ [O.list [V.none]]).set d (.fields (upd [] "nodes" (.ref S.length)))).length)) "outputs" v) (I2.app [O.list []])
  all_goals (walk_at "mine aws")
  refine s_setAttr (clsAig hK) (by rw [hK]; exact tTable _) ?_ (by rfl)
  refine aDictNew ?_
  walk_at "mine aw"
  refine ⟨x, d, _, rfl, (I3 _).app _, (show (3 : Nat) ≤ 100 by omega), ?_⟩
  all_goals (walk_at "mine aws")
  have ap : ∀ (B : List O) (f : O), (S ++ B).set d f = S.set d f ++ B := fun B f => List.set_append_left _ _ hdl
  have ap2 : ∀ (f g : O) (B : List O), (S.set d f ++ B).set d g = S.set d g ++ B := fun f g B => by rw [List.set_append_left _ _ (by simpa using hdl), List.set_set]
  simp only [ap, ap2, List.append_assoc, List.length_append, List.length_set, List.length_cons, List.length_nil, List.singleton_append, List.cons_append, List.nil_append]
  have gl : ∀ (f : O) (B : List O) (j : Nat) (o : O), B[j]? = some o → (S.set d f ++ B)[S.length + j]? = some o := fun f B j o h => by
    rw [List.getElem?_append_right (by simp)]; simpa using h
  refine ⟨rfl, S.length, ⟨⟨?_, ?_⟩, gl _ _ 0 _ rfl, gl _ _ 1 _ rfl, gl _ _ 2 _ rfl, gl _ _ 3 _ rfl, by omega, by omega, by omega⟩, Nat.le_refl _, fun i o h e => getElem?_app (set_other e (Ne.symm h)), by simp⟩
  · exact getElem?_app (set_other I.x (Ne.symm hxd))
  · refine (getElem?_app (set_self I.d)).trans ?_
    rfl

theorem mkAig (p : Params) : makesIn (hd.heap_39 p) 217 = true := by kernel_rfl
theorem mInit (p : Params) : findIn (hd.heap_39 p) (.ref 217) "__init__" = some (some (.ref 136)) := by kernel_rfl
theorem yInit (p : Params) : typeIn (hd.heap_39 p) (.ref 136) = some (.type "function") := by kernel_rfl

-- Aig()
theorem make_walk (G : Gx) (hK : KK G) (A : Around) (room : Room A 9) (S : List O) :
    AApp G A (.top (.ref 217)) [] S fun v S' => ∃ n, v = .ref (S.length + 1) ∧ AigAt S' (S.length + 1) S.length n (n + 1) (n + 2) (n + 3) [none] [] [] [] ∧ S.length + 2 ≤ n ∧ ∀ (i : Nat) o, S[i]? = some o → S'[i]? = some o := by
  intro ρ s vals Q H hvs c
  cases hvs with
  | cons r z =>
    cases r; cases z
    have XK : G.K.In s.heap := fun a o e => H.base a o (G.X a o e)
    have Y := makes_of (M := G.M) XK (C := 217) (by rw [hK]; exact mkAig _)
    show wpAny G.M A (call (.ref 217) []) Q noE s
    obtain ⟨hh, gg, dd, tt, os⟩ := s
    refine wpAny_call (make_core (h := hh) (init := .ref 136) Y (looks_findIn XK (by rw [hK]; exact mInit _)) (fun self => bind_fn XK self (by rw [hK]; exact yInit _)) (.inl rfl) ?_)
    obtain ⟨H1, x1⟩ := H.alloc (o := emptyDict) (ob := .fields []) ⟨[], 0, Heap.get?_push_size _ rfl, .nil⟩
    have hi : (ρ ++ [hh.objs.size])[S.length]? = some hh.objs.size := by rw [← H.len]; simp
    have hsz : (hh.push emptyDict).objs.size = hh.objs.size + 1 := Heap.size_push ..
    obtain ⟨H2, x2⟩ := H1.alloc (o := instObj 217 hh.objs.size) (ob := .raw (instF 217) [S.length]) ⟨[hh.objs.size], by
      simp only [List.map_cons, List.map_nil]; rw [List.getElem?_append_left (List.getElem?_eq_some_iff.mp hi).1, hi], Heap.get?_push_size _ rfl, fun items ⟨o, ho, hc, _⟩ => by
        rw [Heap.get?_push_size _ rfl] at ho; cases ho; exact absurd (show Value.ref 217 = Value.type "tuple" from hc) (by decide)⟩
    have I2 : IsInst 217 (S ++ [O.fields []] ++ [O.raw (instF 217) [S.length]]) (S.length + 1) S.length [] := ⟨by simp, by simp⟩
    have hx : (ρ ++ [hh.objs.size] ++ [(hh.push emptyDict).objs.size])[S.length + 1]? = some (hh.objs.size + 1) := by
      rw [hsz, ← H.len]; simp
    refine init_code G hK _ ?_ I2 (s := ⟨_, gg, dd, tt, os⟩) H2 (.cons (.ref hx) .nil) fun S' ρ' h' tk' hp H' e' => ?_
    · have w1 : (Code.builtin "type.__call__" ⟨[.ref 217], []⟩).weight ≤ 8 := by decide +kernel
      have w2 : (Code.builtin "type.__call__" ⟨[.ref 217], []⟩).cUnits ≤ 8 := by decide +kernel
      exact ⟨room.1, by have := room.2.1; show A.depth + _ + 1 < _; omega, by have := room.2.2; show A.units + _ + 8 * 1 < _; omega⟩
    · obtain ⟨n, hA, hn, hg⟩ := hp
      refine ⟨rfl, c _ S' _ ρ' h' tk' ⟨n, rfl, hA, by simpa using hn, fun i o e => ?_⟩ (.ref (e'.idx _ _ hx)) H' ((x1.trans x2).trans e')⟩
      refine hg.keep i o ?_ (getElem?_app (getElem?_app e))
      have := (List.getElem?_eq_some_iff.mp e).1
      omega
end
-- W18
section
-- the def of _law_draw, as it stands in the body of _law_dealer
noncomputable def drawDef (p : Params) : Option Stmt := match (hd.heap_39 p).lookup 226 with
  | some ⟨_, _, .func fd, _⟩ => (match fd.body with
    | .stmts b => b[2]?
    | _ => none)
  | _ => none
structure DrawFn (G : Gx) (S : List O) (k : Nat) (cs : List Int) (r : Int) : Prop where
  cells : S[k + 2]? = some (.list (ivs cs))
  rest : S[k + 3]? = some (.list (ivs [0, 0, r]))
  cellsC : S[k + 6]? = some (.cell (.ref (k + 2)))
  restC : S[k + 7]? = some (.cell (.ref (k + 3)))
  code : ∃ oc vs tq, S[k + 4]? = some (.raw (fun _ => oc) []) ∧ oc.data = .fields vs ∧ vs[1]? = some (.str "_law_dealer.<locals>._law_draw" tq)
  fn : ∃ params body scope pos doc ctv, drawDef G.w.params = some (.FunctionDef "_law_draw" params body [] none [] scope none "_law_draw" pos) ∧
    S[k + 5]? = some (.raw (fun as => fnMade "_law_draw" "_law_dealer.<locals>._law_draw" params body scope [("rest", as.getD 2 0), ("cells", as.getD 1 0)] doc ((G.mg "__name__").getD .none) (as.headD 0) ctv) [k + 4, k + 6, k + 7])

structure DealEnd (G : Gx) (S : List O) (t : Nat) (L : Addr) (fl : AFlow) (ls : List (Str × V)) (S' : List O) : Prop where
  ret : fl = .ret (.ref (S.length + 5))
  cells : ls.lookup ("cells" : Str) = some (.ref (S.length + 2))
  rest : ls.lookup ("rest" : Str) = some (.ref (S.length + 3))
  st : ∃ (tp : Pos) (tk : Nat) (ns : List V) (cs : List Int) (r : Int) (oc : Obj) (vs : Array Value) (tq : Tok) (params : Arguments) (body : List Stmt) (scope : Scope) (pos : Pos) (doc ctv : Value), 0 ≤ r ∧ cs.length ≤ 40 ∧ oc.data = .fields vs ∧ vs[1]? = some (.str "_law_dealer.<locals>._law_draw" tq) ∧ drawDef G.w.params = some (.FunctionDef "_law_draw" params body [] none [] scope none "_law_draw" pos) ∧
    S' = S.set t (tabB tp tk) ++ [.list ns, .list (ivs cs), .list (ivs cs), .list (ivs [0, 0, r]), .raw (fun _ => oc) [], .raw (nestF "_law_draw" "_law_dealer.<locals>._law_draw" params body scope [("rest", L + 2), ("cells", L + 1)] doc ((G.mg "__name__").getD .none) ctv) [S.length + 4]]

set_option maxHeartbeats 16000000 in
theorem dealer_walk (G : Gx) (hK : KK G) (A : Around) (room : Room A 3) (a : Addr) (items : Array Value) (ns : List Int) (hl : G.h₀.IsList a items) (hI : ∀ ρ h, VRs ρ h (ivs ns) items.toList) (hb : ns.length ≤ 63)
    (t : Nat) (S : List O) (C : CodeHd G.h₀ 225 223) (hp : (t, 223) ∈ G.pin) (hT : S[t]? = some (.raw (fun _ => tabObj #[]) [])) :
    AApp G A (.top (.ref 226)) [V.top (.ref a)] S fun v S' => v = .ref (S.length + 5) ∧ (∃ tp tk Y, S' = S.set t (tabB tp tk) ++ Y) ∧ ∃ cs r, 0 ≤ r ∧ cs.length ≤ 40 ∧ DrawFn G S' S.length cs r := by
  refine aDefEnd (Fin := DealEnd G S t) (ps := ["script"]) (f := 226) (by rw [hK]; rfl) (by rw [hK]; kernel_rfl) room.depth rfl ?hbind ?hkind (by decide) ?hcells rfl rfl rfl ?_ ?_
  case hbind => intro vals h; obtain ⟨a, rfl⟩ := vals1 h; rfl
  case hkind =>
    intro n x hx
    rcases List.mem_cons.mp hx with rfl | hx
    · exact .inl rfl
    · cases hx
  case hcells =>
    intro n x c e
    by_cases q : x = ("cells" : Str)
    · subst q; rfl
    · by_cases q' : x = ("rest" : Str)
      · subst q'; rfl
      · exfalso
        have : (cellsFrom n [(("cells" : Str), NameKind.cell), (("rest" : Str), NameKind.cell)] []).lookup x = some c := e
        simp [cellsFrom, List.lookup, beq_eq_false_iff_ne.mpr q, beq_eq_false_iff_ne.mpr q'] at this
  · intro L
    have room' : ∀ env, Room (A.deeper env) 2 := fun env => Room.deeper room env
    walk_at "mine aw"
    refine s_assign ⟨rfl, rfl, rfl⟩ (.inr ⟨rfl, rfl, by decide⟩) ?_ (by rfl)
    refine aComp [] [] ⟨rfl, rfl, rfl⟩ rfl (by intro y c e; cases e) (by decide) rfl (by decide) rfl trivial rfl ?_
    refine iter_seq (room' _).1 ?_
    refine aSliceTo ?_
    refine aListTop hK ⟨rfl, rfl, rfl⟩ rfl ?_ rfl rfl rfl
    walk_at "mine aw"
    refine ⟨a, items, _, rfl, hl, hI, by simp; omega, ?_⟩
    walk_at "mine aw"
    obtain ⟨cs, hcs, hcl⟩ : ∃ cs, (ivs ns).take 40 = ivs cs ∧ cs.length ≤ 40 := ⟨ns.take 40, by simp [ivs], by simp; omega⟩
    refine ⟨_, _, 40, rfl, rfl, list_at_end, by simp; omega, ?_⟩
    rw [hcs]
    generalize hT0 : S ++ [O.list (ivs ns)] ++ [O.list (ivs cs)] = T0
    have hT1 : T0[(S ++ [O.list (ivs ns)]).length]? = some (.list (ivs cs)) := by rw [← hT0]; exact list_at_end
    refine ⟨_, .inr ⟨_, rfl, hT1⟩, fun Held hH => ⟨fun i S' => S' = T0 ++ [.list ((ivs cs).take i)], by simp, fun i S' e => hH S' ?_, ?_, by simp; omega, ?_, ?_⟩⟩
    · subst e
      exact .inr ⟨_, rfl, getElem?_app hT1⟩
    · rintro i S' rfl
      exact ⟨_, list_at_end, by simp; omega⟩
    · rintro C i S' v ys rfl hv hys
      rw [list_at_end] at hys
      cases hys
      obtain ⟨hi, rfl⟩ := ivs_get hv
      all_goals (walk_at "mine aws")
      exact ⟨list_at_end, by rw [set_at_end]; dsimp only; rw [List.take_add_one, hv]; rfl⟩
    · rintro S' rfl
      rw [List.take_length]
      all_goals (walk_at "mine aws")
      refine aSum1 hK (room' _).1 ⟨rfl, rfl, rfl⟩ rfl ?_ rfl rfl rfl
      all_goals (walk_at "mine aws")
      refine ⟨_, cs, rfl, list_at_end, ?_⟩
      all_goals (walk_at "mine aws")
      refine b_mod (by decide) ?_
      all_goals (walk_at "mine aws")
      refine ⟨by simp, ?_⟩
      walk_at "mine aw"
      walk_at "mine aw"
      have htl : t < S.length := (List.getElem?_eq_some_iff.mp hT).1
      refine s_def (t := t) (clos := [(("rest" : Str), L + 2), (("cells" : Str), L + 1)]) ?d1 ?d2 ?d3 C hp ?d4 ?d5 ?d6 ?d7 ?d8 ?d9
      case d1 => exact ⟨rfl, rfl, rfl⟩
      case d2 => exact .inl rfl
      case d3 => rfl
      case d4 => rfl
      case d5 => rfl
      case d6 => rfl
      case d7 => rfl
      case d8 => rw [← hT0]; exact getElem?_app (getElem?_app (getElem?_app (getElem?_app hT)))
      case d9 =>
        rintro oc doc ctv ⟨vs, tq, ho, hv⟩
        have eT : T0.length = S.length + 2 := by rw [← hT0]; simp
        have eL : (T0 ++ [O.list (ivs cs)] ++ [O.list [V.int 0, V.int 0, V.int (1 + cs.sum.fmod 96)]]).length = S.length + 4 := by simp [eT]
        all_goals (walk_at "mine aws")
        have hv : vs[1]? = some (.str "_law_dealer.<locals>._law_draw" tq) := hv
        refine' ⟨by rw [eL], ?c1, ?c2, ⟨_, _, ivs ns, cs, 1 + cs.sum.fmod 96, oc, vs, tq, ?par, ?body, ?scope, ?pos, doc, ctv, ?hr, hcl, ho, hv, ?hdef, ?hst⟩⟩
        case hst =>
          rw [eL, ← hT0]
          simp only [List.append_assoc]
          rw [List.set_append_left _ _ (by omega)]
          simp only [List.append_assoc, List.cons_append, List.nil_append]
          exact rfl
        case hdef => exact rfl
        case hr => have := Int.fmod_nonneg_of_pos cs.sum (b := 96) (by decide); omega
        case c1 =>
          have e : T0.length = S.length + 2 := eT
          rw [← e]; rfl
        case c2 =>
          have e : (T0 ++ [O.list (ivs cs)]).length = S.length + 3 := by simp [eT]
          rw [← e]; rfl
  · rintro L fl ls' S' ρ' m' cm' h' ⟨hret, hc, hr, tp, tk, ns', cs, r, oc, vs, tq, params, body, scope, pos, doc, ctv, h0, hcl, ho, hv, hdef, rfl⟩ X9
    have hBl : (S.set t (tabB tp tk)).length = S.length := by simp
    generalize hB : S.set t (tabB tp tk) = B at *
    obtain ⟨val1, r1, k1⟩ := X9.L _ _ hc
    obtain ⟨val2, r2, k2⟩ := X9.L _ _ hr
    have F1 := X9.F.cells "cells" (L + 1) rfl
    have F2 := X9.F.cells "rest" (L + 2) rfl
    have n1 := fun items => X9.F.notTup (L + 1) items (.inr ⟨"cells", rfl, rfl⟩)
    have n2 := fun items => X9.F.notTup (L + 2) items (.inr ⟨"rest", rfl, rfl⟩)
    have v1 : cm' ("cells" : Str) = some val1 := by
      rcases k1 with ⟨k, _⟩ | ⟨c, _, _, e⟩
      · cases (show some NameKind.cell = some NameKind.local from k)
      · exact e
    have v2 : cm' ("rest" : Str) = some val2 := by
      rcases k2 with ⟨k, _⟩ | ⟨c, _, _, e⟩
      · cases (show some NameKind.cell = some NameKind.local from k)
      · exact e
    rw [v1] at F1
    rw [v2] at F2
    have H1 := X9.H.adopt (o := .cell (.ref (S.length + 2))) F1.2.1 (F1.2.2.2.1 rfl) ⟨val1, F1.1, r1, n1⟩
    have idx : ∀ (n a : Nat), ρ'[n]? = some a → (ρ' ++ [L + 1])[n]? = some a := fun n a e => by rw [List.getElem?_append_left (List.getElem?_eq_some_iff.mp e).1]; exact e
    have idx2 : ∀ (n a : Nat), (ρ' ++ [L + 1])[n]? = some a → (ρ' ++ [L + 1] ++ [L + 2])[n]? = some a := fun n a e => by rw [List.getElem?_append_left (List.getElem?_eq_some_iff.mp e).1]; exact e
    have hnot : L + 2 ∉ ρ' ++ [L + 1] := fun hm => by
      rcases List.mem_append.mp hm with hm | hm
      · exact F2.2.1 hm
      · exact absurd (Nat.add_left_cancel (List.mem_singleton.mp hm) : 2 = 1) (by decide)
    have H2 := H1.adopt (o := .cell (.ref (S.length + 3))) hnot (F2.2.2.2.1 rfl) ⟨val2, F2.1, r2.mono idx fun _ _ t => t, n2⟩
    have hlen : ρ'.length = S.length + 6 := by rw [X9.H.len]; simp [hBl]
    have at5 : ρ'[S.length + 5]? = some (ρ'[S.length + 5]'(by omega)) := List.getElem?_eq_getElem _
    have o5 := X9.H.objs (S.length + 5) _ (.raw (nestF "_law_draw" "_law_dealer.<locals>._law_draw" params body scope [("rest", L + 2), ("cells", L + 1)] doc ((G.mg "__name__").getD .none) ctv) [S.length + 4]) at5 (by rw [← hBl]; simp)
    generalize ρ'[S.length + 5]'(by omega) = af at *
    obtain ⟨as, e0, hob, hnt⟩ := o5
    obtain ⟨ac, rfl, hac⟩ := one_id e0
    have i1 : (ρ' ++ [L + 1] ++ [L + 2])[S.length + 6]? = some (L + 1) := idx2 _ _ (by rw [← hlen]; simp)
    have i2 : (ρ' ++ [L + 1] ++ [L + 2])[S.length + 7]? = some (L + 2) := by
      have : S.length + 7 = (ρ' ++ [L + 1]).length := by simp [hlen]
      rw [this]; simp
    obtain ⟨H3, _⟩ := H2.setE (o := .raw (fun as => fnMade "_law_draw" "_law_dealer.<locals>._law_draw" params body scope [("rest", as.getD 2 0), ("cells", as.getD 1 0)] doc ((G.mg "__name__").getD .none) (as.headD 0) ctv) [S.length + 4, S.length + 6, S.length + 7])
      (idx2 _ _ (idx _ _ at5)) (fun _ _ _ e => e) ⟨[ac, L + 1, L + 2], by simp only [List.map_cons, List.map_nil, i1, i2, idx2 _ _ (idx _ _ hac)], hob, hnt⟩
    rw [List.append_assoc] at H3
    refine ⟨[L + 1] ++ [L + 2], _, H3, fun a ha => ?_, ?_⟩
    · rcases List.mem_cons.mp ha with rfl | ha
      · exact Nat.lt_succ_self _
      · rw [List.mem_singleton.mp ha]; exact Nat.lt_add_of_pos_right (by decide)
    · rw [hret]
      rw [List.append_assoc, List.append_assoc, List.set_append_right _ _ (by omega)]
      have e5 : S.length + 5 - B.length = 5 := by omega
      rw [e5]
      have at' : ∀ (i : Nat) (l : List O), (B ++ l)[S.length + i]? = l[i]? := fun i l => by rw [← hBl, List.getElem?_append_right (by omega)]; congr 1; omega
      exact ⟨rfl, ⟨tp, tk, _, by rw [hB]⟩, cs, r, h0, hcl, ⟨at' 2 _, at' 3 _, at' 6 _, at' 7 _, ⟨oc, vs, tq, at' 4 _, ho, hv⟩, ⟨params, body, scope, pos, doc, ctv, hdef, at' 5 _⟩⟩⟩
end
-- W19
section
-- _law_draw in the base: its object, its code, its two cells
structure DrawBase (G : Gx) (fd : Addr) (kr kc : Nat) : Prop where
  at_ : ∃ params body scope pos doc ctv ca cr cc orr oc ar ac o, drawDef G.w.params = some (.FunctionDef "_law_draw" params body [] none [] scope none "_law_draw" pos) ∧
    G.h₀.get? fd = some (fnMade "_law_draw" "_law_dealer.<locals>._law_draw" params body scope [("rest", cr), ("cells", cc)] doc ((G.mg "__name__").getD .none) ca ctv) ∧
    G.h₀.get? ca = some o ∧ (∃ vs tq, o.data = .fields vs ∧ vs[1]? = some (.str "_law_dealer.<locals>._law_draw" tq)) ∧
    G.h₀.get? cr = some orr ∧ orr.data = .cell (some (.ref ar)) ∧ (kr, ar) ∈ G.pin ∧ G.h₀.get? cc = some oc ∧ oc.data = .cell (some (.ref ac)) ∧ (kc, ac) ∈ G.pin ∧ cr ≠ cc

theorem DrawBase.keep {G : Gx} {fd : Addr} {kr kc : Nat} (D : DrawBase G fd kr kc) (S : List O) : Keep G (.top (.ref fd)) S := by
  intro ρ h val H r
  cases r
  obtain ⟨params, body, scope, pos, doc, ctv, ca, cr, cc, orr, oc, ar, ac, o, h1, h2, _⟩ := D.at_
  exact keeps_F h ⟨_, _, _, _, H.base _ _ h2⟩

theorem noCell (l : List (Str × NameKind)) (h : (l.all fun x => x.2 != .cell) = true) : ∀ x ∈ l, x.2 ≠ .cell := fun x hx e => by
  have := List.all_eq_true.mp h x hx
  rw [e] at this; exact absurd this (by decide)
theorem ten300 : (0 : Int) < 10 ^ 300 := Int.pow_pos (by decide)
noncomputable def DrawPost (S : List O) (kr : Nat) (l : Int) (v : V) (S' : List O) : Prop := ∃ d i r z : Int, v = .int d ∧ 0 ≤ d ∧ d < l ∧ 0 ≤ i ∧ 0 ≤ r ∧ S' = S.set kr (.list (ivs [i, r, z]))

set_option maxHeartbeats 16000000 in
theorem draw_walk (G : Gx) (hK : KK G) (fd : Addr) (kr kc : Nat) (D : DrawBase G fd kr kc) (A : Around) (room : Room A 2) (l : Int) (hl : 1 ≤ l ∧ l ≤ 1000) (S : List O) (i r z : Int) (cs : List Int) (hr : S[kr]? = some (.list (ivs [i, r, z]))) (hc : S[kc]? = some (.list (ivs cs)))
    (hne : kr ≠ kc) (hi : 0 ≤ i) (hr0 : 0 ≤ r) (hcl : cs.length ≤ 40) : AApp G A (.top (.ref fd)) [V.int l] S (DrawPost S kr l) := by
  refine AApp.gen fun P9 hP9 => ?_
  obtain ⟨params, body, scope, pos, doc, ctv, ca, cr, cc, orr, oc, ar, ac, o, h1, h2, h3, h4, h5, h6, h7, h8, h9, h10, h11⟩ := D.at_
  change some (Stmt.FunctionDef _ _ _ _ _ _ _ _ _ _) = _ at h1
  injection h1 with h1
  injection h1 with _ e1 e2 _ _ _ e3 _ _ e4
  have lk : ∀ x c, [(("rest" : Str), cr), (("cells" : Str), cc)].lookup x = some c → (x = "rest" ∧ c = cr) ∨ (x = "cells" ∧ c = cc) := by
    intro x c e
    by_cases q : x = ("rest" : Str)
    · subst q; left; simp at e; exact ⟨rfl, e.symm⟩
    · by_cases q' : x = ("cells" : Str)
      · subst q'; right; simp [List.lookup, beq_eq_false_iff_ne.mpr q] at e; exact ⟨rfl, e.symm⟩
      · simp [List.lookup, beq_eq_false_iff_ne.mpr q, beq_eq_false_iff_ne.mpr q'] at e
  refine aFunF (fd := fun _ => fnX "_law_draw" "_law_dealer.<locals>._law_draw" params body scope [("rest", cr), ("cells", cc)] .none .none doc ((G.mg "__name__").getD .none) none (.ref ca) ctv) (ids := []) (ps := ["limit"]) (· = fd) [("rest", cr), ("cells", cc)] [("rest", .ref kr), ("cells", .ref kc)]
    ?free ?inj ?fr ?fn (fun _ => rfl) (fun _ => ⟨rfl, rfl⟩) room.depth rfl ?bind ?loc (by decide) ?cell ?co ?gen ?kind (fun _ => rfl) ?body
  all_goals (subst e1; subst e2; subst e3)
  case co => exact fun _ => rfl
  case gen => exact fun _ => rfl
  case kind => exact fun _ => rfl
  case free =>
    intro as x c e
    rcases lk x c e with ⟨rfl, rfl⟩ | ⟨rfl, rfl⟩
    · exact ⟨rfl, by decide, orr, _, h5, h6⟩
    · exact ⟨rfl, by decide, oc, _, h8, h9⟩
  case inj =>
    intro x y c e e'
    rcases lk x c e with ⟨rfl, rfl⟩ | ⟨rfl, rfl⟩ <;> rcases lk y _ e' with ⟨rfl, h⟩ | ⟨rfl, h⟩
    · rfl
    · exact absurd h h11
    · exact absurd h.symm h11
    · rfl
  case fr =>
    intro ρ h H x v e
    by_cases q : x = ("rest" : Str)
    · subst q; simp at e; subst e
      exact ⟨cr, .ref ar, orr, rfl, h5, h6, .ref (H.nodup.2 _ h7)⟩
    · by_cases q' : x = ("cells" : Str)
      · subst q'; simp [List.lookup, beq_eq_false_iff_ne.mpr q] at e; subst e
        exact ⟨cc, .ref ac, oc, rfl, h8, h9, .ref (H.nodup.2 _ h10)⟩
      · simp [List.lookup, beq_eq_false_iff_ne.mpr q, beq_eq_false_iff_ne.mpr q'] at e
  case fn =>
    intro ρ h val H rv
    cases rv
    obtain ⟨vs, tq, hd, hv⟩ := h4
    exact ⟨fd, _, [], rfl, rfl, H.base _ _ h2, rfl, rfl, ca, o, vs, tq, rfl, H.base _ _ h3, hd, hv⟩
  case bind => intro as vals h; obtain ⟨a, rfl⟩ := vals1 h; rfl
  case loc =>
    intro as x hx
    rcases List.mem_cons.mp hx with rfl | hx
    · rfl
    · cases hx
  case cell => exact fun _ => noCell _ rfl
  case body =>
    rintro as a L rfl
    have room' : ∀ env, Room (A.deeper env) 1 := fun env => Room.deeper room env
    have hlt : kr < S.length := (List.getElem?_eq_some_iff.mp hr).1
    have self : ∀ o : O, (S.set kr o)[kr]? = some o := fun o => List.getElem?_set_self hlt
    have other : ∀ o : O, (S.set kr o)[kc]? = some (.list (ivs cs)) := fun o => by rw [List.getElem?_set_ne hne]; exact hc
    walk_at "mine aw"
    refine AStm.mono (P := fun fl ls' S' => (fl = .next ∧ SubL [bn "limit" (.int l), bn "rest" (.ref kr), bn "cells" (.ref kc)] ls' ∧ ∃ i' r' : Int, 0 ≤ i' ∧ 0 ≤ r' ∧ S' = S.set kr (.list (ivs [i', r', z]))) ∨ (∃ v, fl = .ret v ∧ DrawPost S kr l v S')) ?_ ?_
    · have hS : S = S.set kr (.list (ivs [i, r, z])) := (set_same hr).symm
      all_goals (walk_at "mine aws")
      refine wItZ (vs := ivs [i, r, z]) (by decide) (.inr ⟨kr, rfl, hr⟩) (x := .int r) rfl (by simp) ?_
      all_goals (walk_at "mine aws")
      · rename_i h0
        refine wItZ (vs := ivs [i, r, z]) (by decide) (.inr ⟨kr, rfl, hr⟩) (x := .int i) rfl (by simp) ?_
        all_goals (walk_at "mine aws")
        refine wLenL hc (by simp; omega) ?_
        all_goals (walk_at "mine aws")
        · rename_i hlt'
          refine wItZ (vs := ivs [i, r, z]) (by decide) (.inr ⟨kr, rfl, hr⟩) (x := .int i) rfl (by simp) ?_
          have hi' : i.toNat < cs.length := by simp at hlt'; omega
          refine wItZ (vs := ivs cs) hi (.inr ⟨kc, rfl, hc⟩) (x := .int cs[i.toNat]) (by simp [hi']) (by simp; omega) ?_
          generalize cs[i.toNat] = cell
          all_goals (walk_at "mine aws")
          refine s_augSub ?_ (by intros; rfl)
          walk_at "mine aw"; walk_at "mine aw"
          refine getZ (by decide) (.inr ⟨kr, rfl, hr⟩) (x := .int i) rfl (by simp) ?_
          all_goals (walk_at "mine aws")
          refine setZ (by decide) hr (by simp) (by simp) ?_
          walk_at "mine aw"
          walk_at "mine aw"
          walk_at "mine aw"
          refine tChain2 ?_ (by rfl)
          all_goals (walk_at "mine aws")
          · refine ⟨rfl, ?_⟩
            all_goals (walk_at "mine aws")
            · refine b_mod (by omega) ?_
              all_goals (walk_at "mine aws")
              have h1 := Int.fmod_nonneg_of_pos cell (b := l) (by omega)
              have h2 := Int.fmod_lt_of_pos cell (b := l) (by omega)
              exact .inr ⟨_, rfl, _, i + 1, r, z, rfl, h1, h2, by omega, hr0, rfl⟩
            · all_goals (walk_at "mine aws")
              refine s_assignSub ?_ (by rfl)
              all_goals (walk_at "mine aws")
              refine b_pow (n := 300) (by decide) ?_
              refine b_mod (Int.ne_of_gt ten300) ?_
              all_goals (walk_at "mine aws")
              refine setZ (by decide) (self _) (by simp) (by simp) ?_
              rw [List.set_set]
              all_goals (walk_at "mine aws")
              refine .inl ⟨rfl, by ((repeat (refine ⟨rfl, ?_⟩)); exact trivial), i + 1, _, by omega, ?_, rfl⟩
              exact Int.fmod_nonneg_of_pos _ ten300
          · all_goals (walk_at "mine aws")
            refine s_assignSub ?_ (by rfl)
            all_goals (walk_at "mine aws")
            refine b_pow (n := 300) (by decide) ?_
            refine b_mod (Int.ne_of_gt ten300) ?_
            all_goals (walk_at "mine aws")
            refine setZ (by decide) (self _) (by simp) (by simp) ?_
            rw [List.set_set]
            all_goals (walk_at "mine aws")
            refine .inl ⟨rfl, by ((repeat (refine ⟨rfl, ?_⟩)); exact trivial), i + 1, _, by omega, ?_, rfl⟩
            exact Int.fmod_nonneg_of_pos _ ten300
        · exact .inl ⟨rfl, by ((repeat (refine ⟨rfl, ?_⟩)); exact trivial), i, r, hi, hr0, hS⟩
      · exact .inl ⟨rfl, by ((repeat (refine ⟨rfl, ?_⟩)); exact trivial), i, r, hi, hr0, hS⟩
    · rintro fl ls' S' (⟨rfl, hsub, i', r', hi', hr', rfl⟩ | ⟨v, rfl, hp⟩)
      · walk_at "mine aw"
        refine x_sub hsub ?_
        all_goals (walk_at "mine aws")
        refine wItZ (vs := ivs [i', r', z]) (by decide) (.inr ⟨kr, rfl, self _⟩) (x := .int r') rfl (by simp) ?_
        all_goals (walk_at "mine aws")
        · refine wItZ (vs := ivs [i', r', z]) (by decide) (.inr ⟨kr, rfl, self _⟩) (x := .int r') rfl (by simp) ?_
          all_goals (walk_at "mine aws")
          refine b_mod (by omega) ?_
          all_goals (walk_at "mine aws")
          refine s_assignSub ?_ (by rfl)
          all_goals (walk_at "mine aws")
          refine wItZ (vs := ivs [i', r', z]) (by decide) (.inr ⟨kr, rfl, self _⟩) (x := .int r') rfl (by simp) ?_
          all_goals (walk_at "mine aws")
          refine b_floordiv (by omega) (by omega) ?_
          all_goals (walk_at "mine aws")
          refine setZ (by decide) (self _) (by simp) (by simp) ?_
          rw [List.set_set]
          all_goals (walk_at "mine aws")
          have h1 := Int.fmod_nonneg_of_pos r' (b := l) (by omega)
          have h2 := Int.fmod_lt_of_pos r' (b := l) (by omega)
          refine ⟨_, i', r'.fdiv l, z, rfl, h1, h2, hi', ?_, rfl⟩
          rw [Int.fdiv_eq_ediv_of_nonneg _ (by omega)]
          exact Int.ediv_nonneg hr' (by omega)
        · refine s_assignSub ?_ (by rfl)
          all_goals (walk_at "mine aws")
          refine wItZ (vs := ivs [i', r', z]) (by decide) (.inr ⟨kr, rfl, self _⟩) (x := .int z) rfl (by simp) ?_
          all_goals (walk_at "mine aws")
          refine b_mod (by decide) ?_
          all_goals (walk_at "mine aws")
          refine setZ (by decide) (self _) (by simp) (by simp) ?_
          rw [List.set_set]
          all_goals (walk_at "mine aws")
          refine wItZ (vs := ivs [i', r', _]) (by decide) (.inr ⟨kr, rfl, self _⟩) (x := .int _) rfl (by simp) ?_
          all_goals (walk_at "mine aws")
          refine b_mod (by omega) ?_
          all_goals (walk_at "mine aws")
          have h1 := Int.fmod_nonneg_of_pos ((z * 5).fmod 97) (b := l) (by omega)
          have h2 := Int.fmod_lt_of_pos ((z * 5).fmod 97) (b := l) (by omega)
          exact ⟨_, i', r', _, rfl, h1, h2, hi', hr', rfl⟩
      · exact hP9 _ _ hp
end
-- M1
section
theorem xor1_eq (l : Int) : xor1 l = l + 1 - 2 * (l % 2) := by
  unfold xor1
  rw [bitXor_and, bitAnd_m1]
theorem xorB_eq (l b : Int) (hb : b = 0 ∨ b = 1) : Builtin.bitXor l b = l ∨ Builtin.bitXor l b = l + 1 - 2 * (l % 2) := by
  rcases hb with rfl | rfl
  · exact .inl (bitXor_zero l)
  · exact .inr (xor1_eq l)
-- a literal of the pool, and its negation
theorem xorB_lit (l b : Int) (hb : b = 0 ∨ b = 1) (h0 : 0 ≤ l) : 0 ≤ Builtin.bitXor l b ∧ Builtin.bitXor l b / 2 = l / 2 := by
  rcases xorB_eq l b hb with e | e <;> rw [e] <;> omega

-- what holds of a built graph
structure GrOk (g : Gr) : Prop where
  low : Low g.nds
  tbl : ∀ e ∈ g.tbl, ∃ (i : Nat) (a b : Int), e = ([a, b], (i : Int)) ∧ g.nds[i]? = some (some (a, b)) ∧ 1 ≤ i
  apart : ∀ (i : Nat) (a b : Int), g.nds[i]? = some (some (a, b)) → 2 ≤ a ∧ a < b ∧ a / 2 ≠ b / 2
theorem GrOk.tblPos {g} (h : GrOk g) : ∀ e ∈ g.tbl, 0 ≤ e.2 := fun e he => by
  obtain ⟨i, a, b, rfl, _⟩ := h.tbl e he
  show (0 : Int) ≤ (i : Int)
  omega
theorem land_ok {g : Gr} (h : GrOk g) {l r : Int} (hl : 0 ≤ l) (hr : 0 ≤ r) (hl2 : l / 2 < g.nds.length) (hr2 : r / 2 < g.nds.length) :
    GrOk (land g l r).1 ∧ 0 ≤ (land g l r).2 ∧ (land g l r).2 / 2 < (land g l r).1.nds.length ∧ g.nds.length ≤ (land g l r).1.nds.length ∧ (land g l r).1.nds.length ≤ g.nds.length + 1 ∧
      ((land g l r).1 = g ∨ ∃ a b, (land g l r).1.nds = g.nds ++ [some (a, b)]) := by
  unfold land
  have hm : min l r ≤ max l r := by omega
  have hm0 : 0 ≤ min l r := by omega
  have h1 : min l r / 2 < g.nds.length := by omega
  have h2 : max l r / 2 < g.nds.length := by omega
  generalize min l r = a at *
  generalize max l r = b at *
  clear hl hr hl2 hr2
  unfold landN
  have hpos : 0 < g.nds.length := (List.getElem?_eq_some_iff.mp h.low.1).1
  split
  · exact ⟨h, by simp, by simpa using hpos, Nat.le_refl _, by simp, .inl rfl⟩
  · rename_i q1
    split
    · exact ⟨h, by show 0 ≤ b; omega, h2, Nat.le_refl _, by simp, .inl rfl⟩
    · rename_i q2
      rw [xor1_eq] at q1
      have ha2 : 2 ≤ a := by omega
      have hab : a < b := by omega
      have hne : a / 2 ≠ b / 2 := by omega
      split
      · rename_i n hn
        unfold tget at hn
        obtain ⟨e, he, rfl⟩ := Option.map_eq_some_iff.mp hn
        obtain ⟨i, a', b', rfl, hi, hi1⟩ := h.tbl e (List.mem_of_find?_eq_some he)
        have hil := (List.getElem?_eq_some_iff.mp hi).1
        refine ⟨h, ?_, ?_, Nat.le_refl _, by simp, .inl rfl⟩
        · show (0 : Int) ≤ 2 * (i : Int); omega
        · show 2 * (i : Int) / 2 < (g.nds.length : Int); omega
      · rename_i hn
        refine ⟨⟨⟨?_, fun i a' b' hi => ?_⟩, fun e he => ?_, fun i a' b' hi => ?_⟩, ?_, ?_, by simp, by simp, .inr ⟨a, b, rfl⟩⟩
        · show (g.nds ++ _)[0]? = _
          rw [List.getElem?_append_left hpos]; exact h.low.1
        · rcases Nat.lt_or_ge i g.nds.length with hlt | hge
          · rw [List.getElem?_append_left hlt] at hi; exact h.low.2 i a' b' hi
          · have : i = g.nds.length := by
              have := (List.getElem?_eq_some_iff.mp hi).1
              simp at this; omega
            subst this
            simp at hi
            obtain ⟨rfl, rfl⟩ := hi
            omega
        · rcases List.mem_append.mp he with he | he
          · obtain ⟨i, a', b', e1, e2, e3⟩ := h.tbl e he
            exact ⟨i, a', b', e1, by rw [List.getElem?_append_left (List.getElem?_eq_some_iff.mp e2).1]; exact e2, e3⟩
          · rw [List.mem_singleton.mp he]
            exact ⟨g.nds.length, a, b, rfl, by simp, by omega⟩
        · rcases Nat.lt_or_ge i g.nds.length with hlt | hge
          · rw [List.getElem?_append_left hlt] at hi; exact h.apart i a' b' hi
          · have : i = g.nds.length := by
              have := (List.getElem?_eq_some_iff.mp hi).1
              simp at this; omega
            subst this
            simp at hi
            obtain ⟨rfl, rfl⟩ := hi
            exact ⟨ha2, hab, hne⟩
        · show (0 : Int) ≤ 2 * (g.nds.length : Int); omega
        · simp; omega
end
-- W20
section
-- the law's store: the dealer's lists and the graph
structure LB (S : List O) (x d nn ni no nt : Nat) (cs : List Int) (g : Gr) (ins outs : List Int) : Prop where
  tab : S[0]? = some (.raw (fun _ => tabObj #[]) [])
  rest : ∃ i r z : Int, 0 ≤ i ∧ 0 ≤ r ∧ S[1]? = some (.list (ivs [i, r, z]))
  cells : S[2]? = some (.list (ivs cs))
  csl : cs.length ≤ 40
  aig : AigAt S x d nn ni no nt g.nds ins outs (tblV g.tbl)
  n1 : nn ≠ 1 ∧ ni ≠ 1 ∧ no ≠ 1
  n2 : nn ≠ 2 ∧ ni ≠ 2 ∧ no ≠ 2
  x0 : x ≠ 0
theorem LB.app {S x d nn ni no nt cs g ins outs} (h : LB S x d nn ni no nt cs g ins outs) (X : List O) : LB (S ++ X) x d nn ni no nt cs g ins outs :=
  ⟨getElem?_app h.tab, (by obtain ⟨i, r, z, a, b, c⟩ := h.rest; exact ⟨i, r, z, a, b, getElem?_app c⟩), getElem?_app h.cells, h.csl, h.aig.app X, h.n1, h.n2, h.x0⟩
theorem AigAt.ne {S x d nn ni no nt nds ins outs tbl} (I : AigAt S x d nn ni no nt nds ins outs tbl) {k : Nat} {vs : List V} (h : S[k]? = some (.list vs)) : k ≠ x ∧ k ≠ d ∧ k ≠ nt := by
  refine ⟨fun e => ?_, fun e => ?_, fun e => ?_⟩
  · subst e; have := I.inst.x; rw [h] at this; cases this
  · subst e; have := I.inst.d; rw [h] at this; cases this
  · subst e; have := I.table; rw [h] at this; cases this
-- another list changes
theorem AigAt.set {S x d nn ni no nt nds ins outs tbl} (I : AigAt S x d nn ni no nt nds ins outs tbl) {k : Nat} {vs : List V} (h : S[k]? = some (.list vs)) (h1 : k ≠ nn) (h2 : k ≠ ni) (h3 : k ≠ no) (o : O) : AigAt (S.set k o) x d nn ni no nt nds ins outs tbl := by
  obtain ⟨a, b, c⟩ := I.ne h
  exact ⟨⟨set_other I.inst.x a, set_other I.inst.d b⟩, set_other I.nodes h1, set_other I.inputs h2, set_other I.outputs h3, set_other I.table c, I.ne1, I.ne2, I.ne3⟩
theorem LB.draw {S x d nn ni no nt cs g ins outs} (h : LB S x d nn ni no nt cs g ins outs) (i r z : Int) (hi : 0 ≤ i) (hr : 0 ≤ r) : LB (S.set 1 (.list (ivs [i, r, z]))) x d nn ni no nt cs g ins outs := by
  obtain ⟨i0, r0, z0, _, _, h1⟩ := h.rest
  exact ⟨set_other h.tab (by decide), ⟨i, r, z, hi, hr, set_self h1⟩, set_other h.cells (by decide), h.csl, h.aig.set h1 h.n1.1.symm h.n1.2.1.symm h.n1.2.2.symm _, h.n1, h.n2, h.x0⟩
-- a list that is neither the dealer's nor the graph's changes
theorem LB.put {S x d nn ni no nt cs g ins outs} (h : LB S x d nn ni no nt cs g ins outs) {k : Nat} {vs : List V} (hk : S[k]? = some (.list vs)) (h1 : k ≠ 1) (h2 : k ≠ 2) (h3 : k ≠ nn) (h4 : k ≠ ni) (h5 : k ≠ no) (o : O) : LB (S.set k o) x d nn ni no nt cs g ins outs := by
  obtain ⟨i0, r0, z0, a, b, h0⟩ := h.rest
  have k0 : k ≠ 0 := fun e => by subst e; have := h.tab; rw [hk] at this; cases this
  exact ⟨set_other h.tab k0, ⟨i0, r0, z0, a, b, set_other h0 h1⟩, set_other h.cells h2, h.csl, h.aig.set hk h3 h4 h5 _, h.n1, h.n2, h.x0⟩
theorem LB.ne0 {S x d nn ni no nt cs g ins outs} (h : LB S x d nn ni no nt cs g ins outs) {k : Nat} {o : O} (hk : S[k]? = some o) (ho : ∀ f ids, o ≠ .raw f ids) : k ≠ 0 := fun e => by
  subst e; have := h.tab; rw [hk] at this; cases this; exact ho _ _ rfl
theorem LB.land {S x d nn ni no nt cs g ins outs} (h : LB S x d nn ni no nt cs g ins outs) (g' : Gr) : LB ((S.set nn (.list (g'.nds.map nodeV))).set nt (.dict (tblV g'.tbl))) x d nn ni no nt cs g' ins outs := by
  obtain ⟨i0, r0, z0, a, b, h0⟩ := h.rest
  have I := h.aig
  have kn : nn ≠ 0 := h.ne0 I.nodes (by intro f i e; cases e)
  have kt : nt ≠ 0 := h.ne0 I.table (by intro f i e; cases e)
  have t1 : ∀ {k : Nat} {vs : List V}, S[k]? = some (.list vs) → nt ≠ k := fun e q => by subst q; have := I.table; rw [e] at this; cases this
  obtain ⟨nx, nd, nnt⟩ := I.ne I.nodes
  have tx : nt ≠ x := fun q => by subst q; have := I.inst.x; rw [I.table] at this; cases this
  have td : nt ≠ d := fun q => by subst q; have := I.inst.d; rw [I.table] at this; cases this
  exact ⟨set_other (set_other h.tab kn) kt, ⟨i0, r0, z0, a, b, set_other (set_other h0 h.n1.1) (t1 h0)⟩, set_other (set_other h.cells h.n2.1) (t1 h.cells), h.csl,
    ⟨⟨set_other (set_other I.inst.x nx) tx, set_other (set_other I.inst.d nd) td⟩, set_other (set_self I.nodes) (Ne.symm nnt), set_other (set_other I.inputs I.ne1) (t1 I.inputs), set_other (set_other I.outputs I.ne2) (t1 I.outputs), set_self (set_other I.table nnt), I.ne1, I.ne2, I.ne3⟩, h.n1, h.n2, h.x0⟩
theorem LB.input {S x d nn ni no nt cs g ins outs} (h : LB S x d nn ni no nt cs g ins outs) (nds' : List Nd) (ins' : List Int) : LB ((S.set nn (.list (nds'.map nodeV))).set ni (.list (ivs ins'))) x d nn ni no nt cs ⟨nds', g.tbl⟩ ins' outs := by
  obtain ⟨i0, r0, z0, a, b, h0⟩ := h.rest
  have I := h.aig
  have kn : nn ≠ 0 := h.ne0 I.nodes (by intro f i e; cases e)
  have ki : ni ≠ 0 := h.ne0 I.inputs (by intro f i e; cases e)
  obtain ⟨nx, nd, nnt⟩ := I.ne I.nodes
  obtain ⟨ix, id', int⟩ := I.ne I.inputs
  exact ⟨set_other (set_other h.tab kn) ki, ⟨i0, r0, z0, a, b, set_other (set_other h0 h.n1.1) h.n1.2.1⟩, set_other (set_other h.cells h.n2.1) h.n2.2.1, h.csl,
    ⟨⟨set_other (set_other I.inst.x nx) ix, set_other (set_other I.inst.d nd) id'⟩, set_other (set_self I.nodes) (Ne.symm I.ne1), set_self (set_other I.inputs I.ne1), set_other (set_other I.outputs I.ne2) I.ne3, set_other (set_other I.table nnt) int, I.ne1, I.ne2, I.ne3⟩, h.n1, h.n2, h.x0⟩
theorem LB.output {S x d nn ni no nt cs g ins outs} (h : LB S x d nn ni no nt cs g ins outs) (outs' : List Int) : LB (S.set no (.list (ivs outs'))) x d nn ni no nt cs g ins outs' := by
  obtain ⟨i0, r0, z0, a, b, h0⟩ := h.rest
  have I := h.aig
  have ko : no ≠ 0 := h.ne0 I.outputs (by intro f i e; cases e)
  obtain ⟨ox, od, ont⟩ := I.ne I.outputs
  exact ⟨set_other h.tab ko, ⟨i0, r0, z0, a, b, set_other h0 h.n1.2.2⟩, set_other h.cells h.n2.2.2, h.csl,
    ⟨⟨set_other I.inst.x ox, set_other I.inst.d od⟩, set_other I.nodes (Ne.symm I.ne2), set_other I.inputs (Ne.symm I.ne3), set_self I.outputs, set_other I.table ont, I.ne1, I.ne2, I.ne3⟩, h.n1, h.n2, h.x0⟩

-- the law's store with its pool
structure LI (S : List O) (x d nn ni no nt np : Nat) (cs : List Int) (g : Gr) (ins outs pool : List Int) : Prop where
  b : LB S x d nn ni no nt cs g ins outs
  pool : S[np]? = some (.list (ivs pool))
  p : np ≠ 1 ∧ np ≠ 2 ∧ np ≠ nn ∧ np ≠ ni ∧ np ≠ no
theorem LI.app {S x d nn ni no nt np cs g ins outs pool} (h : LI S x d nn ni no nt np cs g ins outs pool) (X : List O) : LI (S ++ X) x d nn ni no nt np cs g ins outs pool := ⟨h.b.app X, getElem?_app h.pool, h.p⟩
theorem LI.draw {S x d nn ni no nt np cs g ins outs pool} (h : LI S x d nn ni no nt np cs g ins outs pool) (i r z : Int) (hi : 0 ≤ i) (hr : 0 ≤ r) : LI (S.set 1 (.list (ivs [i, r, z]))) x d nn ni no nt np cs g ins outs pool :=
  ⟨h.b.draw i r z hi hr, set_other h.pool h.p.1.symm, h.p⟩
theorem LI.put {S x d nn ni no nt np cs g ins outs pool} (h : LI S x d nn ni no nt np cs g ins outs pool) (pool' : List Int) : LI (S.set np (.list (ivs pool'))) x d nn ni no nt np cs g ins outs pool' :=
  ⟨h.b.put h.pool h.p.1 h.p.2.1 h.p.2.2.1 h.p.2.2.2.1 h.p.2.2.2.2 _, set_self h.pool, h.p⟩
theorem LI.land {S x d nn ni no nt np cs g ins outs pool} (h : LI S x d nn ni no nt np cs g ins outs pool) (g' : Gr) : LI ((S.set nn (.list (g'.nds.map nodeV))).set nt (.dict (tblV g'.tbl))) x d nn ni no nt np cs g' ins outs pool :=
  ⟨h.b.land g', set_other (set_other h.pool h.p.2.2.1.symm) (fun q => (h.b.aig.ne h.pool).2.2 q.symm), h.p⟩
theorem LI.output {S x d nn ni no nt np cs g ins outs pool} (h : LI S x d nn ni no nt np cs g ins outs pool) (outs' : List Int) : LI (S.set no (.list (ivs outs'))) x d nn ni no nt np cs g ins outs' pool :=
  ⟨h.b.output outs', set_other h.pool h.p.2.2.2.2.symm, h.p⟩

-- the answer of a draw, from a store where it can be asked
noncomputable def DrawOf (v : V) (S : List O) (K : Int → List O → Prop) : Prop := ∃ (l i r z : Int) (cs : List Int), v = .int l ∧ 1 ≤ l ∧ l ≤ 1000 ∧ 0 ≤ i ∧ 0 ≤ r ∧ S[1]? = some (.list (ivs [i, r, z])) ∧ S[2]? = some (.list (ivs cs)) ∧ cs.length ≤ 40 ∧
  ∀ d i' r' z' : Int, 0 ≤ d → d < l → 0 ≤ i' → 0 ≤ r' → K d (S.set 1 (.list (ivs [i', r', z'])))
theorem LB.wDraw {S x d nn ni no nt cs g ins outs} (h : LB S x d nn ni no nt cs g ins outs) {l : Int} (h1 : 1 ≤ l) (h2 : l ≤ 1000) {K : Int → List O → Prop} (k : ∀ e S', 0 ≤ e → e < l → LB S' x d nn ni no nt cs g ins outs → K e S') : DrawOf (.int l) S K := by
  obtain ⟨i, r, z, a, b, h0⟩ := h.rest
  exact ⟨l, i, r, z, cs, rfl, h1, h2, a, b, h0, h.cells, h.csl, fun e i' r' z' e0 e1 i0 r0 => k e _ e0 e1 (h.draw i' r' z' i0 r0)⟩
theorem LI.wDraw {S x d nn ni no nt np cs g ins outs pool} (h : LI S x d nn ni no nt np cs g ins outs pool) {l : Int} (h1 : 1 ≤ l) (h2 : l ≤ 1000) {K : Int → List O → Prop} (k : ∀ e S', 0 ≤ e → e < l → LI S' x d nn ni no nt np cs g ins outs pool → K e S') : DrawOf (.int l) S K := by
  obtain ⟨i, r, z, a, b, h0⟩ := h.b.rest
  exact ⟨l, i, r, z, cs, rfl, h1, h2, a, b, h0, h.b.cells, h.b.csl, fun e i' r' z' e0 e1 i0 r0 => k e _ e0 e1 (h.draw i' r' z' i0 r0)⟩

-- draw(e)
theorem aDraw {G : Gx} {A : Around} {env : Env} {ls : List (Str × V)} {S : List O} {px pos : Pos} {e : Expr} {P : V → List O → Prop} {fd : Addr} (hK : KK G) (D : DrawBase G fd 1 2) (room : Room A 2) (ok : EnvOk env) (hv : ls.lookup ("draw" : Str) = some (.top (.ref fd)))
    (h : AEval G A env e ls S fun v S₁ => DrawOf v S₁ fun i S₂ => P (.int i) S₂) (h1 : starEach [e] env = (false, eval e env) :: starEach [] env)
    (he : eval (.Call (.Name "draw" px) [e] [] pos) env = (do callWith pos (← eval (.Name "draw" px) env) [] (backTo pos (starEach [e] env)) []))
    (hp : (backTo pos (starEach [e] env)).any (·.1) = false) : AEval G A env (.Call (.Name "draw" px) [e] [] pos) ls S P :=
  aCall (aName ok hv (args_cons (h.mono (by
    rintro v S' ⟨l, i, r, z, cs, rfl, h1, h2, hi, hr, hS1, hS2, hc, k⟩
    refine args_nil ⟨D.keep _, (draw_walk G hK fd 1 2 D A room l ⟨h1, h2⟩ S' i r z cs hS1 hS2 (by decide) hi hr hc).mono ?_⟩
    rintro v S9 ⟨d, i', r', z', rfl, d0, d1, i0, r0, rfl⟩
    exact k d i' r' z' d0 d1 i0 r0)) h1) (by decide)) he hp
end
-- W21
section
noncomputable def lawFn (p : Params) : Option (List Stmt × Scope) := match (hd.heap_39 p).lookup 257 with
  | some ⟨_, _, .func fd, _⟩ => (match fd.body with
    | .stmts b => some (b, fd.scope)
    | _ => none)
  | _ => none

noncomputable def gr0 (n : Nat) : Gr := ⟨none :: List.replicate n none, []⟩
noncomputable def pool0 (n : Nat) : List Int := (List.range n).map fun (i : Nat) => 2 * ((i : Int) + 1)
noncomputable def ins0 (n : Nat) : List Int := (List.range n).map fun (i : Nat) => (i : Int) + 1

theorem landI (G : Gx) (hK : KK G) (A : Around) (room : Room A 2) {S x d nn ni no nt np cs g ins outs pool} (h : LI S x d nn ni no nt np cs g ins outs pool) (l r : Int) (hb : g.nds.length ≤ 1000) (hb' : g.tbl.length ≤ 1000) (hn : ∀ e ∈ g.tbl, 0 ≤ e.2) :
    AApp G A (.top (.ref 164)) [V.ref x, V.int l, V.int r] S fun v S' => v = .int (land g l r).2 ∧ LI S' x d nn ni no nt np cs (land g l r).1 ins outs pool :=
  (land_walk G hK A room h.b.aig l r hb hb' hn).mono fun v S' ⟨a, b⟩ => ⟨a, by
    rcases b with ⟨b, rfl⟩ | rfl
    · rw [b]; exact h
    · exact h.land _⟩
theorem land_tbl (g : Gr) (l r : Int) : (land g l r).1.tbl.length ≤ g.tbl.length + 1 := by
  unfold land landN
  split
  · exact Nat.le_succ _
  · split
    · exact Nat.le_succ _
    · split
      · exact Nat.le_succ _
      · simp
noncomputable def gr1 (n : Nat) : Gr := ⟨(gr0 n).nds ++ [some (2, 4)], [([2, 4], ((n + 1 : Nat) : Int))]⟩
noncomputable def gr2 (n : Nat) : Gr := ⟨(gr1 n).nds ++ [some (6, 2 * ((n : Int) + 1))], [([2, 4], ((n + 1 : Nat) : Int)), ([6, 2 * ((n : Int) + 1)], ((n + 2 : Nat) : Int))]⟩
theorem gr0_len (n : Nat) : (gr0 n).nds.length = n + 1 := by simp [gr0]
theorem gr1_len (n : Nat) : (gr1 n).nds.length = n + 2 := by simp [gr1, gr0_len]
theorem gr2_len (n : Nat) : (gr2 n).nds.length = n + 3 := by simp [gr2, gr1_len]
theorem land1 (n : Nat) : land (gr0 n) 2 4 = (gr1 n, 2 * ((n : Int) + 1)) := by
  unfold land landN
  rw [show min (2 : Int) 4 = 2 by decide, show max (2 : Int) 4 = 4 by decide, if_neg (by rw [xor1_eq]; decide), if_neg (by decide)]
  simp [gr0, tget, gr1]
theorem land2 (n : Nat) (hn : 3 ≤ n) : land (gr1 n) (2 * ((n : Int) + 1)) 6 = (gr2 n, 2 * ((n : Int) + 2)) := by
  unfold land landN
  rw [show min (2 * ((n : Int) + 1)) 6 = 6 by omega, show max (2 * ((n : Int) + 1)) 6 = 2 * ((n : Int) + 1) by omega, if_neg (by rw [xor1_eq]; omega), if_neg (by omega)]
  have : tget (gr1 n).tbl [6, 2 * ((n : Int) + 1)] = none := by simp [tget, gr1]
  rw [this]
  simp [gr2, gr1_len]
  simp [gr1]
theorem gr0_ok (n : Nat) : GrOk (gr0 n) := by
  have hno : ∀ (i : Nat) (a b : Int), (gr0 n).nds[i]? ≠ some (some (a, b)) := by
    intro i a b h
    have := List.mem_of_getElem? h
    simp [gr0] at this
  exact ⟨⟨rfl, fun i a b h => absurd h (hno i a b)⟩, fun e h => by simp [gr0] at h, fun i a b h => absurd h (hno i a b)⟩
theorem gr1_ok (n : Nat) (hn : 3 ≤ n) : GrOk (gr1 n) := by
  have := (land_ok (gr0_ok n) (l := 2) (r := 4) (by decide) (by decide) (by rw [gr0_len]; omega) (by rw [gr0_len]; omega)).1
  rw [land1] at this; exact this
theorem gr2_ok (n : Nat) (hn : 3 ≤ n) : GrOk (gr2 n) := by
  have := (land_ok (gr1_ok n hn) (l := 2 * ((n : Int) + 1)) (r := 6) (by omega) (by decide) (by rw [gr1_len]; omega) (by rw [gr1_len]; omega)).1
  rw [land2 n hn] at this; exact this
theorem pool0_len (n : Nat) : (pool0 n).length = n := by simp [pool0]
theorem pool0_get (n i : Nat) (h : i < n) : (ivs (pool0 n))[i]? = some (.int (2 * ((i : Int) + 1))) := by simp [pool0, h]
-- the graph and the pool behind some turns
structure Turns (n i : Nat) (g : Gr) (pool : List Int) : Prop where
  ok : GrOk g
  ext : ∃ ext, g.nds = (gr2 n).nds ++ ext ∧ ext.length ≤ i ∧ ∀ e ∈ ext, e ≠ none
  tbl : g.tbl.length ≤ 2 + i
  plen : 5 ≤ pool.length ∧ pool.length ≤ n + 2 + i
  pool : ∀ l ∈ pool, 2 ≤ l ∧ l / 2 < g.nds.length
theorem Turns.len {n i g pool} (h : Turns n i g pool) : g.nds.length ≤ n + 3 + i := by
  obtain ⟨ext, e, h1, _⟩ := h.ext
  rw [e, List.length_append, gr2_len]; omega
theorem turns0 (n : Nat) (hn : 3 ≤ n) : Turns n 0 (gr2 n) (pool0 n ++ [2 * ((n : Int) + 1)] ++ [2 * ((n : Int) + 2)]) := by
  refine ⟨gr2_ok n hn, ⟨[], by simp, by simp, by simp⟩, by simp [gr2], by simp [pool0_len]; omega, fun l hl => ?_⟩
  rw [gr2_len]
  rcases List.mem_append.mp hl with hl | hl
  · rcases List.mem_append.mp hl with hl | hl
    · obtain ⟨i, hi, rfl⟩ := List.mem_map.mp hl
      have := List.mem_range.mp hi
      omega
    · rw [List.mem_singleton.mp hl]; omega
  · rw [List.mem_singleton.mp hl]; omega
theorem Turns.step {n i g pool} (h : Turns n i g pool) {l r : Int} (hl : 0 ≤ l) (hr : 0 ≤ r) (hl2 : l / 2 < g.nds.length) (hr2 : r / 2 < g.nds.length) :
    Turns n (i + 1) (land g l r).1 pool ∧ (1 < (land g l r).2 → Turns n (i + 1) (land g l r).1 (pool ++ [(land g l r).2])) := by
  obtain ⟨k1, k2, k3, k4, k5, k6⟩ := land_ok h.ok hl hr hl2 hr2
  obtain ⟨ext, e, h1, h2⟩ := h.ext
  have hext : ∃ ext, (land g l r).1.nds = (gr2 n).nds ++ ext ∧ ext.length ≤ i + 1 ∧ ∀ e ∈ ext, e ≠ none := by
    rcases k6 with k6 | ⟨a, b, k6⟩
    · rw [k6]; exact ⟨ext, e, by omega, h2⟩
    · refine ⟨ext ++ [some (a, b)], by rw [k6, e, List.append_assoc], by simp; omega, fun x hx => ?_⟩
      rcases List.mem_append.mp hx with hx | hx
      · exact h2 x hx
      · rw [List.mem_singleton.mp hx]; simp
  have htb := land_tbl g l r
  have h3 := h.tbl
  have h4 := h.plen
  have hpo : ∀ z ∈ pool, 2 ≤ z ∧ z / 2 < (land g l r).1.nds.length := fun z hz => by have := h.pool z hz; omega
  refine ⟨⟨k1, hext, by omega, by omega, hpo⟩, fun hgt => ⟨k1, hext, by omega, by simp; omega, fun z hz => ?_⟩⟩
  rcases List.mem_append.mp hz with hz | hz
  · exact hpo z hz
  · rw [List.mem_singleton.mp hz]; omega

theorem flat_nodes (nds : List Nd) : ∀ x ∈ nds.map nodeV, Flat x := by
  intro x hx
  obtain ⟨nd, _, rfl⟩ := List.mem_map.mp hx
  cases nd with
  | none => exact .none
  | some p => obtain ⟨a, b⟩ := p; exact .tup (xs := [a, b])
theorem flat_ints (xs : List Int) : ∀ x ∈ ivs xs, Flat x := by
  intro x hx
  obtain ⟨i, _, rfl⟩ := List.mem_map.mp hx
  exact .int
theorem eqL_self : ∀ (xs : List V), (∀ x ∈ xs, Flat x) → eqL xs xs = true
  | [], _ => rfl
  | x :: xs, h => by
    have ih := eqL_self xs fun y hy => h y (.tail _ hy)
    have hx : eqF x x = true := by
      cases h x (.head _) with
      | none => rfl
      | int => simp [eqF]
      | tup => rw [eqF_ints]; simp
    unfold eqL at ih ⊢
    simp only [beq_self_eq_true, Bool.true_and] at ih ⊢
    rw [List.zip_cons_cons, List.all_cons, ih, hx]; rfl
-- what the plain law says of the built graph
structure Plain (nds : List Nd) (k : Nat) : Prop where
  small : Small nds k 200
  fit : ∀ cuts, RowsOk nds k 200 cuts → cuts.length = nds.length → RowsFit nds cuts
  least : ∃ least, IsLeast nds k least ∧ ∀ cuts ch dl, RowsOk nds k 200 cuts → cuts.length = nds.length → ch.length = nds.length → dl.length = nds.length → (∀ j < nds.length, NodeOk nds cuts dl ch j) → dl = least ∧ CoverOk nds k ch dl
theorem nodes_ok {g : Gr} (h : GrOk g) : ∀ nd ∈ g.nds, NdOk g.nds.length nd := by
  intro nd hm
  obtain ⟨i, hi, rfl⟩ := List.getElem_of_mem hm
  cases q : g.nds[i] with
  | none => trivial
  | some p =>
    obtain ⟨a, b⟩ := p
    obtain ⟨h1, h2, h3, h4⟩ := h.low.2 i a b (by rw [List.getElem?_eq_getElem hi, q])
    exact ⟨⟨h1, by omega⟩, ⟨h3, by omega⟩⟩

set_option maxHeartbeats 16000000 in
theorem law_walk (G : Gx) (hK : KK G) (fd : Addr) (D : DrawBase G fd 1 2) (C : CodeHd G.h₀ 41 37) (hp : (0, 37) ∈ G.pin) (A : Around) (room : Room A 10) (L fa : Addr) (cd : Value) (st0 : Stmt) (body : List Stmt) (scope : Scope) (hfn : lawFn G.w.params = some (st0 :: body, scope))
    (hplain : ∀ n k m g pool, 3 ≤ n → n ≤ 5 → (k = 2 ∨ k = 3 ∧ 4 ≤ n) → m ≤ 3 → Turns n m g pool → Plain g.nds k) (cs : List Int) (r : Int) (hcs : cs.length ≤ 40) :
    AExecs G A (envOfC "law" scope L fa cd) body [bn "draw" (.top (.ref fd))] [.raw (fun _ => tabObj #[]) [], .list (ivs [0, 0, r]), .list (ivs cs)] (retPost fun v S' => v = .bool true ∧ LamTab S' 0 lamP lamQ) := by
  refine AExecs.gen fun P9 hP9 => ?_
  change some (List.cons _ _, Scope.mk _ _ _ _ _) = _ at hfn
  injection hfn with hfn
  injection hfn with h1 h2
  injection h1 with _ h1
  subst h1 h2
  have room2 : Room A 2 := room.le (by decide)
  walk_at "mine aw"
  walk_at "mine aw"
  ((with_reducible refine' aCallT ?k0 ?k6 ?k1 ?k2 ?k3 ?_ ?k4 ?k5); (case k0 => assumption); (case k6 => exact rfl); (case k1 => decide); (case k2 => exact ⟨rfl, rfl, rfl⟩); (case k3 => exact rfl); (case k4 => exact rfl); (case k5 => exact rfl))
  walk_at "mine aw"
  refine (make_walk G hK A (room.le (by decide)) _).mono ?_
  rintro v S1 ⟨nn, rfl, I, hnn, hkeep⟩
  have B1 : LB S1 4 3 nn (nn + 1) (nn + 2) (nn + 3) cs ⟨[none], []⟩ [] [] :=
    ⟨hkeep 0 _ rfl, ⟨0, 0, r, by decide, by decide, hkeep 1 _ rfl⟩, hkeep 2 _ rfl, hcs, I, ⟨by simp at hnn; omega, by simp at hnn; omega, by simp at hnn; omega⟩, ⟨by simp at hnn; omega, by simp at hnn; omega, by simp at hnn; omega⟩, by decide⟩
  walk_at "mine aw"
  walk_at "mine aw"
  refine s_assignComp [(("aig" : Str), L + 1)] [bn "aig" (.ref 4)] ⟨rfl, rfl, rfl⟩ (by rfl) (.inl rfl) rfl (cl1 rfl rfl rfl) (by decide) rfl (by decide) rfl ⟨⟨rfl, rfl, rfl, rfl⟩, trivial⟩ rfl ?_
  refine iter_range ⟨rfl, rfl, rfl⟩ room.1 rfl (by rw [hK]; exact nsRange _) ?_ (by rfl) (by rfl)
  walk_at "mine aw"; walk_at "mine aw"; walk_at "mine aw"
  ((with_reducible refine' aDraw ?k0 ?k1 ?k6 ?k7 ?k2 ?_ ?k3 ?k4 ?k5); (case k0 => assumption); (case k1 => assumption); (case k6 => assumption); (case k7 => exact ⟨rfl, rfl, rfl⟩); (case k2 => exact rfl); (case k3 => exact rfl); (case k4 => exact rfl); (case k5 => exact rfl))
  walk_at "mine aw"
  refine B1.wDraw (by decide) (by decide) fun e S2 e0 e1 B2 => ?_
  clear B1 I hkeep
  obtain ⟨n, hn, hn1, hn2⟩ : ∃ n : Nat, 3 + e = (n : Int) ∧ 3 ≤ n ∧ n ≤ 5 := ⟨(3 + e).toNat, by omega, by omega, by omega⟩
  walk_at "mine aw"
  rw [hn]
  walk_at "mine aw"
  have ltS : ∀ {k : Nat} {o : O}, S2[k]? = some o → S2.length ≠ k := fun h => by have := (List.getElem?_eq_some_iff.mp h).1; omega
  have hp9 : S2.length ≠ 1 ∧ S2.length ≠ 2 ∧ S2.length ≠ nn ∧ S2.length ≠ nn + 1 ∧ S2.length ≠ nn + 2 := by
    obtain ⟨_, _, _, _, _, h1⟩ := B2.rest
    exact ⟨ltS h1, ltS B2.cells, ltS B2.aig.nodes, ltS B2.aig.inputs, ltS B2.aig.outputs⟩
  refine ⟨0, n, .inl ⟨rfl, rfl⟩, by decide, by omega, fun i S' => LI S' 4 3 nn (nn + 1) (nn + 2) (nn + 3) S2.length cs (gr0 i) (ins0 i) [] (pool0 i), ⟨B2.app _, list_at_end, hp9⟩, fun _ _ _ => trivial, fun i S' h => ⟨_, h.pool, by simp [pool0]⟩, by simp; omega, ?_, ?_⟩
  · rintro C i S' v ys hI hv hys
    rw [hI.pool] at hys
    cases hys
    walk_at "mine aw"
    walk_at "mine aw"
    refine wInst hI.b.aig.inst rfl ?_
    walk_at "mine aw"
    have hi : i < n := by
      have := (List.getElem?_eq_some_iff.mp hv).1
      simpa using this
    refine (addInput_walk G hK A (room.le (by decide)) hI.b.aig (by simp [gr0]; omega) (by simp [ins0]; omega)).mono ?_
    rintro v S9 ⟨rfl, rfl⟩
    have B9 := hI.b.input ((gr0 i).nds ++ [none]) (ins0 i ++ [((gr0 i).nds.length : Int)])
    have P9 : ((S'.set nn (.list (((gr0 i).nds ++ [none]).map nodeV))).set (nn + 1) (.list (ivs (ins0 i ++ [((gr0 i).nds.length : Int)]))))[S2.length]? = some (.list (ivs (pool0 i))) := set_other (set_other hI.pool hp9.2.2.1.symm) hp9.2.2.2.1.symm
    refine ⟨P9, ?_⟩
    have e1 : (⟨(gr0 i).nds ++ [none], (gr0 i).tbl⟩ : Gr) = gr0 (i + 1) := by
      unfold gr0
      simp [List.replicate_succ']
    have e2 : ins0 i ++ [((gr0 i).nds.length : Int)] = ins0 (i + 1) := by
      simp [ins0, gr0, List.range_succ]
    have e3 : pool0 i ++ [2 * ((gr0 i).nds.length : Int)] = pool0 (i + 1) := by
      simp [pool0, gr0, List.range_succ]
    have L9 := (LI.mk B9 P9 hp9).put (pool0 (i + 1))
    rw [e1, e2] at L9
    rw [e2]
    have : ivs (pool0 i) ++ [V.int (2 * ((gr0 i).nds.length : Int))] = ivs (pool0 (i + 1)) := by rw [← e3]; simp
    rw [this]
    exact L9
  intro S3 I3
  have hl3 : ((List.range n).map fun (i : Nat) => V.int (0 + (i : Int))).length = n := by simp
  rw [hl3] at I3
  clear B2 ltS
  generalize S2.length = np at *
  clear hl3 e1 hn e0
  walk_at "mine aw"
  walk_at "mine aw"
  walk_at "mine aw"
  walk_at "mine aw"
  walk_at "mine aw"
  ((with_reducible refine' aDraw ?k0 ?k1 ?k6 ?k7 ?k2 ?_ ?k3 ?k4 ?k5); (case k0 => assumption); (case k1 => assumption); (case k6 => assumption); (case k7 => exact ⟨rfl, rfl, rfl⟩); (case k2 => exact rfl); (case k3 => exact rfl); (case k4 => exact rfl); (case k5 => exact rfl))
  refine aCallB hK ⟨rfl, rfl, rfl⟩ rfl nsMin blMin (by decide) (by decide) (by intro a e; cases e) ?_ (by rfl) (by rfl)
  all_goals (walk_at "mine aws")
  refine wLenL I3.pool (by simp [pool0]; omega) ?_
  have hlp : ((ivs (pool0 n)).length : Int) = n := by simp [pool0]
  rw [hlp]
  all_goals (walk_at "mine aws")
  refine f_min2 room.1 ?_
  refine I3.wDraw (by omega) (by omega) fun e4 S4 e40 e41 I4 => ?_
  clear I3
  obtain ⟨k, hk, hk1, hk2⟩ : ∃ k : Nat, 2 + e4 = (k : Int) ∧ 2 ≤ k ∧ (k = 2 ∨ k = 3 ∧ 4 ≤ n) := ⟨(2 + e4).toNat, by omega, by omega, by omega⟩
  walk_at "mine aw"
  rw [hk]
  clear hk e40 e41
  walk_at "mine aw"
  walk_at "mine aw"
  -- the two first conjunctions
  all_goals (walk_at "mine aws")
  refine wRef I4.pool ?_
  walk_at "mine aw"
  walk_at "mine aw"
  refine wInst I4.b.aig.inst rfl ?_
  all_goals (walk_at "mine aws")
  refine wItZ (by decide) (.inr ⟨np, rfl, I4.pool⟩) (pool0_get n 0 (by omega)) (by simp [pool0_len]; omega) ?_
  all_goals (walk_at "mine aws")
  refine wItZ (by decide) (.inr ⟨np, rfl, I4.pool⟩) (pool0_get n 1 (by omega)) (by simp [pool0_len]; omega) ?_
  all_goals (walk_at "mine aws")
  refine (landI G hK A room2 I4 (2 * (((0 : Nat) : Int) + 1)) (2 * (((1 : Nat) : Int) + 1)) (by rw [gr0_len]; omega) (by simp [gr0]) (gr0_ok n).tblPos).mono ?_
  rintro v S5 ⟨rfl, I5⟩
  rw [show (2 * (((0 : Nat) : Int) + 1)) = 2 by decide, show (2 * (((1 : Nat) : Int) + 1)) = 4 by decide, land1] at *
  refine wPut I5.pool (by simp [pool0_len]; omega) ?_
  have I6 := I5.put (pool0 n ++ [2 * ((n : Int) + 1)])
  rw [show ivs (pool0 n) ++ [V.int (2 * ((n : Int) + 1))] = ivs (pool0 n ++ [2 * ((n : Int) + 1)]) by simp]
  generalize S5.set np _ = S6 at *
  clear I4 I5
  refine ⟨rfl, ?_⟩
  all_goals (walk_at "mine aws")
  refine wRef I6.pool ?_
  walk_at "mine aw"
  walk_at "mine aw"
  refine wInst I6.b.aig.inst rfl ?_
  all_goals (walk_at "mine aws")
  refine wItN (k := -1) (j := n) (x := .int (2 * ((n : Int) + 1))) (.inr ⟨np, rfl, I6.pool⟩) (by decide) (by simp [pool0_len]; omega) ?_ (by simp [pool0_len]; omega) ?_
  · rw [show ivs (pool0 n ++ [2 * ((n : Int) + 1)]) = ivs (pool0 n) ++ [.int (2 * ((n : Int) + 1))] by simp, List.getElem?_append_right (by simp [pool0_len])]
    simp [pool0_len]
  all_goals (walk_at "mine aws")
  refine wItZ (by decide) (.inr ⟨np, rfl, I6.pool⟩) (x := .int 6) ?_ (by simp [pool0_len]; omega) ?_
  · rw [show ivs (pool0 n ++ [2 * ((n : Int) + 1)]) = ivs (pool0 n) ++ [.int (2 * ((n : Int) + 1))] by simp, List.getElem?_append_left (by simp [pool0_len]; omega)]
    exact pool0_get n 2 (by omega)
  all_goals (walk_at "mine aws")
  refine (landI G hK A room2 I6 (2 * ((n : Int) + 1)) 6 (by rw [gr1_len]; omega) (by simp [gr1]) (gr1_ok n hn1).tblPos).mono ?_
  rintro v S7 ⟨rfl, I7⟩
  rw [land2 n hn1] at *
  refine wPut I7.pool (by simp [pool0_len]; omega) ?_
  have I8 := I7.put (pool0 n ++ [2 * ((n : Int) + 1)] ++ [2 * ((n : Int) + 2)])
  rw [show ivs (pool0 n ++ [2 * ((n : Int) + 1)]) ++ [V.int (2 * ((n : Int) + 2))] = ivs (pool0 n ++ [2 * ((n : Int) + 1)] ++ [2 * ((n : Int) + 2)]) by simp]
  generalize S7.set np _ = S8 at *
  clear I6 I7
  refine ⟨rfl, ?_⟩
  all_goals (walk_at "mine aws")
  -- the turns
  refine s_forRange ⟨rfl, rfl, rfl⟩ (.inl rfl) room.1 rfl (by rw [hK]; exact nsRange _) ?_ (by intro _; rfl) (by rfl) (by rfl)
  walk_at "mine aw"; walk_at "mine aw"; walk_at "mine aw"
  ((with_reducible refine' aDraw ?k0 ?k1 ?k6 ?k7 ?k2 ?_ ?k3 ?k4 ?k5); (case k0 => assumption); (case k1 => assumption); (case k6 => assumption); (case k7 => exact ⟨rfl, rfl, rfl⟩); (case k2 => exact rfl); (case k3 => exact rfl); (case k4 => exact rfl); (case k5 => exact rfl))
  walk_at "mine aw"
  refine I8.wDraw (by decide) (by decide) fun e9 S9 e90 e91 I9 => ?_
  clear I8
  obtain ⟨m, hm, hm1, hm2⟩ : ∃ m : Nat, 2 + e9 = (m : Int) ∧ 2 ≤ m ∧ m ≤ 3 := ⟨(2 + e9).toNat, by omega, by omega, by omega⟩
  walk_at "mine aw"
  rw [hm]
  clear hm e90 e91
  walk_at "mine aw"
  refine ⟨0, m, fun i ls' S' => ls' = [bn "draw" (.top (.ref fd)), bn "aig" (.ref 4), bn "pool" (.ref np), bn "k" (.int k)] ∧ ∃ g pool, LI S' 4 3 nn (nn + 1) (nn + 2) (nn + 3) np cs g (ins0 n) [] pool ∧ Turns n i g pool, .inl ⟨rfl, rfl⟩, by decide, by omega, ?_, ?_, ?_⟩
  · exact ⟨_, by ((repeat (refine ⟨rfl, ?_⟩)); exact trivial), rfl, gr2 n, _, I9, turns0 n hn1⟩
  · rintro Inv9 hI9 i ls' S' ⟨rfl, g, pool, I, T⟩ hi
    clear I9
    have hgl := T.len
    have hpl := T.plen
    all_goals (walk_at "mine aws")
    ((with_reducible refine' aDraw ?k0 ?k1 ?k6 ?k7 ?k2 ?_ ?k3 ?k4 ?k5); (case k0 => assumption); (case k1 => assumption); (case k6 => assumption); (case k7 => exact ⟨rfl, rfl, rfl⟩); (case k2 => exact rfl); (case k3 => exact rfl); (case k4 => exact rfl); (case k5 => exact rfl))
    walk_at "mine aw"
    refine I.wDraw (by decide) (by decide) fun d1 S10 d10 d11 I10 => ?_
    clear I
    all_goals (walk_at "mine aws")
    obtain ⟨j, hj⟩ : ∃ j : Nat, -1 - d1 + (pool.length : Int) = (j : Int) ∧ j < pool.length := ⟨(-1 - d1 + (pool.length : Int)).toNat, by omega, by omega⟩
    obtain ⟨hj, hjl⟩ := hj
    refine wItN (k := -1 - d1) (j := j) (x := .int pool[j]) (.inr ⟨np, rfl, I10.pool⟩) (by omega) (by simpa using hj) (by simp [hjl]) (by simp; omega) ?_
    ((with_reducible refine' aDraw ?k0 ?k1 ?k6 ?k7 ?k2 ?_ ?k3 ?k4 ?k5); (case k0 => assumption); (case k1 => assumption); (case k6 => assumption); (case k7 => exact ⟨rfl, rfl, rfl⟩); (case k2 => exact rfl); (case k3 => exact rfl); (case k4 => exact rfl); (case k5 => exact rfl))
    walk_at "mine aw"
    refine I10.wDraw (by decide) (by decide) fun d2 S11 d20 d21 I11 => ?_
    clear I10
    all_goals (walk_at "mine aws")
    refine wInst I11.b.aig.inst rfl ?_
    all_goals (walk_at "mine aws")
    ((with_reducible refine' aDraw ?k0 ?k1 ?k6 ?k7 ?k2 ?_ ?k3 ?k4 ?k5); (case k0 => assumption); (case k1 => assumption); (case k6 => assumption); (case k7 => exact ⟨rfl, rfl, rfl⟩); (case k2 => exact rfl); (case k3 => exact rfl); (case k4 => exact rfl); (case k5 => exact rfl))
    all_goals (walk_at "mine aws")
    refine wLenL I11.pool (by simp; omega) ?_
    rw [List.length_map]
    refine I11.wDraw (by omega) (by omega) fun d3 S12 d30 d31 I12 => ?_
    clear I11
    have hd3 : d3.toNat < pool.length := by omega
    refine wItZ d30 (.inr ⟨np, rfl, I12.pool⟩) (x := .int pool[d3.toNat]) (by simp [hd3]) (by simp; omega) ?_
    ((with_reducible refine' aDraw ?k0 ?k1 ?k6 ?k7 ?k2 ?_ ?k3 ?k4 ?k5); (case k0 => assumption); (case k1 => assumption); (case k6 => assumption); (case k7 => exact ⟨rfl, rfl, rfl⟩); (case k2 => exact rfl); (case k3 => exact rfl); (case k4 => exact rfl); (case k5 => exact rfl))
    walk_at "mine aw"
    refine I12.wDraw (by decide) (by decide) fun d4 S13 d40 d41 I13 => ?_
    clear I12
    all_goals (walk_at "mine aws")
    obtain ⟨a0, a1⟩ := T.pool pool[j] (List.getElem_mem _)
    obtain ⟨b0, b1⟩ := T.pool pool[d3.toNat] (List.getElem_mem _)
    generalize pool[j] = pa at *
    generalize pool[d3.toNat] = pb at *
    obtain ⟨c1, c2⟩ := xorB_lit pa d2 (by omega) (by omega)
    obtain ⟨c3, c4⟩ := xorB_lit pb d4 (by omega) (by omega)
    generalize Builtin.bitXor pa d2 = la at *
    generalize Builtin.bitXor pb d4 = lb at *
    have htb := T.tbl
    refine (landI G hK A room2 I13 la lb (by omega) (by omega) T.ok.tblPos).mono ?_
    rintro v S14 ⟨rfl, I14⟩
    clear I13
    obtain ⟨T1, T2⟩ := T.step c1 c3 (by omega) (by omega)
    generalize (land g la lb).1 = g' at *
    generalize (land g la lb).2 = made at *
    all_goals (walk_at "mine aws")
    · rename_i hgt
      refine wRef I14.pool ?_
      all_goals (walk_at "mine aws")
      refine wPut I14.pool (by simp; omega) ?_
      have I15 := I14.put (pool ++ [made])
      rw [show ivs pool ++ [V.int made] = ivs (pool ++ [made]) by simp]
      refine ⟨rfl, ?_⟩
      all_goals (walk_at "mine aws")
      exact ⟨_, by ((repeat (refine ⟨rfl, ?_⟩)); exact trivial), rfl, g', _, I15, T2 hgt⟩
    · exact ⟨_, by ((repeat (refine ⟨rfl, ?_⟩)); exact trivial), rfl, g', _, I14, T1⟩
  · rintro ls' S' ⟨rfl, g, pool, I, T⟩
    clear I9
    have hgl := T.len
    have hpl := T.plen
    have HP := hplain n k m g pool hn1 hn2 hk2 hm2 T
    all_goals (walk_at "mine aws")
    refine s_forRange ⟨rfl, rfl, rfl⟩ (.inl rfl) room.1 rfl (by rw [hK]; exact nsRange _) ?_ (by intro _; rfl) (by rfl) (by rfl)
    walk_at "mine aw"; walk_at "mine aw"; walk_at "mine aw"
    ((with_reducible refine' aDraw ?k0 ?k1 ?k6 ?k7 ?k2 ?_ ?k3 ?k4 ?k5); (case k0 => assumption); (case k1 => assumption); (case k6 => assumption); (case k7 => exact ⟨rfl, rfl, rfl⟩); (case k2 => exact rfl); (case k3 => exact rfl); (case k4 => exact rfl); (case k5 => exact rfl))
    walk_at "mine aw"
    refine I.wDraw (by decide) (by decide) fun e16 S16 e160 e161 I16 => ?_
    clear I
    obtain ⟨m2, hm2', hm21⟩ : ∃ m2 : Nat, 1 + e16 = (m2 : Int) ∧ m2 ≤ 2 := ⟨(1 + e16).toNat, by omega, by omega⟩
    walk_at "mine aw"
    rw [hm2']
    clear hm2' e160 e161
    walk_at "mine aw"
    refine ⟨0, m2, fun i ls' S' => ls' = [bn "draw" (.top (.ref fd)), bn "aig" (.ref 4), bn "pool" (.ref np), bn "k" (.int k)] ∧ ∃ outs, LI S' 4 3 nn (nn + 1) (nn + 2) (nn + 3) np cs g (ins0 n) outs pool ∧ outs.length ≤ i ∧ ∀ l ∈ outs, LitOk g.nds.length l, .inl ⟨rfl, rfl⟩, by decide, by omega, ?_, ?_, ?_⟩
    · exact ⟨_, by ((repeat (refine ⟨rfl, ?_⟩)); exact trivial), rfl, [], I16, by simp, by simp⟩
    · rintro Inv9 hI9 i ls' S' ⟨rfl, outs, I, ho1, ho2⟩ hi
      clear I16
      all_goals (walk_at "mine aws")
      refine wInst I.b.aig.inst rfl ?_
      all_goals (walk_at "mine aws")
      obtain ⟨j, hj, hjl⟩ : ∃ j : Nat, -1 - (0 + (i : Int)) + (pool.length : Int) = (j : Int) ∧ j < pool.length := ⟨(-1 - (0 + (i : Int)) + (pool.length : Int)).toNat, by omega, by omega⟩
      refine wItN (j := j) (x := .int pool[j]) (.inr ⟨np, rfl, I.pool⟩) (by omega) (by simpa using hj) (by simp [hjl]) (by simp; omega) ?_
      ((with_reducible refine' aDraw ?k0 ?k1 ?k6 ?k7 ?k2 ?_ ?k3 ?k4 ?k5); (case k0 => assumption); (case k1 => assumption); (case k6 => assumption); (case k7 => exact ⟨rfl, rfl, rfl⟩); (case k2 => exact rfl); (case k3 => exact rfl); (case k4 => exact rfl); (case k5 => exact rfl))
      walk_at "mine aw"
      refine I.wDraw (by decide) (by decide) fun d2 S17 d20 d21 I17 => ?_
      clear I
      all_goals (walk_at "mine aws")
      obtain ⟨a0, a1⟩ := T.pool pool[j] (List.getElem_mem _)
      generalize pool[j] = pa at *
      obtain ⟨c1, c2⟩ := xorB_lit pa d2 (by omega) (by omega)
      generalize Builtin.bitXor pa d2 = la at *
      refine (addOutput_walk G hK A (room.le (by decide)) I17.b.aig la (by omega)).mono ?_
      rintro v S18 ⟨rfl, rfl⟩
      refine ⟨rfl, ?_⟩
      all_goals (walk_at "mine aws")
      refine ⟨_, by ((repeat (refine ⟨rfl, ?_⟩)); exact trivial), rfl, outs ++ [la], I17.output _, by simp; omega, fun l hl => ?_⟩
      rcases List.mem_append.mp hl with hl | hl
      · exact ho2 l hl
      · rw [List.mem_singleton.mp hl]; exact ⟨c1, by omega⟩
    · rintro ls' S' ⟨rfl, outs, I, ho1, ho2⟩
      clear I16
      all_goals (walk_at "mine aws")
      refine wFld I.b.aig.inst rfl ?_
      refine wSeq (.inr ⟨nn, rfl, I.b.aig.nodes⟩) (by simp; omega) ?_
      have I1 := I.app [.list (g.nds.map nodeV)]
      have P1 : (S' ++ [O.list (g.nds.map nodeV)])[S'.length]? = some (.list (g.nds.map nodeV)) := list_at_end
      generalize S' ++ [O.list (g.nds.map nodeV)] = S20 at *
      generalize S'.length = pr at *
      clear I
      all_goals (walk_at "mine aws")
      refine wFld I1.b.aig.inst rfl ?_
      refine wSeq (.inr ⟨nn + 2, rfl, I1.b.aig.outputs⟩) (by simp; omega) ?_
      have I2 := I1.app [.list (ivs outs)]
      have P2 : (S20 ++ [O.list (ivs outs)])[pr]? = some (.list (g.nds.map nodeV)) := getElem?_app P1
      have Q2 : (S20 ++ [O.list (ivs outs)])[S20.length]? = some (.list (ivs outs)) := list_at_end
      generalize S20 ++ [O.list (ivs outs)] = S21 at *
      generalize S20.length = po at *
      clear I1 P1
      all_goals (walk_at "mine aws")
      ((with_reducible refine' aCallT ?k0 ?k6 ?k1 ?k2 ?k3 ?_ ?k4 ?k5); (case k0 => assumption); (case k6 => exact rfl); (case k1 => decide); (case k2 => exact ⟨rfl, rfl, rfl⟩); (case k3 => exact rfl); (case k4 => exact rfl); (case k5 => exact rfl))
      all_goals (walk_at "mine aws")
      obtain ⟨least, hL, hcov⟩ := HP.least
      refine (least_walk G hK g.nds k least hL (by omega) (by omega) T.ok.low A (room.le (by omega)) pr S21 P2).mono ?_
      rintro v S22 ⟨rfl, X, rfl⟩
      have I3 := (I2.app [.list (ivs least)]).app X
      have P3 := getElem?_app (X := X) (getElem?_app (X := [.list (ivs least)]) P2)
      have Q3 := getElem?_app (X := X) (getElem?_app (X := [.list (ivs least)]) Q2)
      have R3 : (S21 ++ [.list (ivs least)] ++ X)[S21.length]? = some (.list (ivs least)) := getElem?_app list_at_end
      generalize S21 ++ [.list (ivs least)] ++ X = S23 at *
      generalize S21.length = pl at *
      clear I2 P2 Q2
      all_goals (walk_at "mine aws")
      ((with_reducible refine' aCallT ?k0 ?k6 ?k1 ?k2 ?k3 ?_ ?k4 ?k5); (case k0 => assumption); (case k6 => exact rfl); (case k1 => decide); (case k2 => exact ⟨rfl, rfl, rfl⟩); (case k3 => exact rfl); (case k4 => exact rfl); (case k5 => exact rfl))
      all_goals (walk_at "mine aws")
      refine (lut_walk G hK A (room.le (by decide)) (t := 0) hp C k 200 I3.b.aig (by decide) (.inl I3.b.tab) (by omega) (by omega) T.ok.low HP.small HP.fit (by omega) (by omega) (by decide) (nodes_ok T.ok) ho2).mono ?_
      rintro v S24 ⟨gw, hT4, n1, n2, cuts, ch, dl, rfl, hch, hdl, hr, hcl, hchl, hdll, hno⟩
      obtain ⟨rfl, hcv⟩ := hcov cuts ch dl hr hcl hchl hdll hno
      have ne0 : ∀ {j : Nat} {vs : List V}, S23[j]? = some (.list vs) → j ≠ 0 := fun h => I3.b.ne0 h (by intro f i e; cases e)
      have P4 := gw.keep _ _ (ne0 P3) P3
      have Q4 := gw.keep _ _ (ne0 Q3) Q3
      have R4 := gw.keep _ _ (ne0 R3) R3
      have N4 := gw.keep _ _ (ne0 I3.b.aig.nodes) I3.b.aig.nodes
      have O4 := gw.keep _ _ (ne0 I3.b.aig.outputs) I3.b.aig.outputs
      have J4 : IsInst 217 S24 4 3 _ := ⟨gw.keep _ _ (by decide) I3.b.aig.inst.x, gw.keep _ _ (by decide) I3.b.aig.inst.d⟩
      clear I3 P3 Q3 R3 gw
      all_goals (walk_at "mine aws")
      refine tValue ?_ (by rfl)
      ((with_reducible refine' aCallT ?k0 ?k6 ?k1 ?k2 ?k3 ?_ ?k4 ?k5); (case k0 => assumption); (case k6 => exact rfl); (case k1 => decide); (case k2 => exact ⟨rfl, rfl, rfl⟩); (case k3 => exact rfl); (case k4 => exact rfl); (case k5 => exact rfl))
      all_goals (walk_at "mine aws")
      refine (isCover_walk G hK g.nds k ch dl hcv (by omega) (by omega) T.ok.low A (room.le (by decide)) pr n1 n2 S24 P4 hch hdl).mono ?_
      rintro v S25 ⟨rfl, X, rfl⟩
      have P5 := getElem?_app (X := X) P4
      have Q5 := getElem?_app (X := X) Q4
      have R5 := getElem?_app (X := X) R4
      have N5 := getElem?_app (X := X) N4
      have O5 := getElem?_app (X := X) O4
      have J5 := J4.app X
      have H5 := getElem?_app (X := X) hdl
      have T5 : LamTab (S24 ++ X) 0 lamP lamQ := by
        rcases hT4 with h | ⟨kk, oc, h⟩
        · exact .inl (getElem?_app h)
        · exact .inr ⟨kk, oc, h.app X⟩
      generalize S24 ++ X = S26 at *
      clear P4 Q4 R4 N4 O4 J4 hdl hch hT4
      refine truth_bool ?_
      refine iteF ?_
      all_goals (walk_at "mine aws")
      refine wItV (vs := [.ref n1, .ref n2]) (i := 1) (.inl rfl) (x := .ref n2) rfl (by simp) ?_
      refine wSeq (.inr ⟨n2, rfl, H5⟩) (by simp; omega) ?_
      have P6 := getElem?_app (X := [.list (ivs dl)]) P5
      have Q6 := getElem?_app (X := [.list (ivs dl)]) Q5
      have R6 := getElem?_app (X := [.list (ivs dl)]) R5
      have N6 := getElem?_app (X := [.list (ivs dl)]) N5
      have O6 := getElem?_app (X := [.list (ivs dl)]) O5
      have J6 := J5.app [.list (ivs dl)]
      have H6 : (S26 ++ [.list (ivs dl)])[S26.length]? = some (.list (ivs dl)) := list_at_end
      have T6 : LamTab (S26 ++ [.list (ivs dl)]) 0 lamP lamQ := by
        rcases T5 with h | ⟨kk, oc, h⟩
        · exact .inl (getElem?_app h)
        · exact .inr ⟨kk, oc, h.app _⟩
      generalize S26 ++ [.list (ivs dl)] = S27 at *
      generalize S26.length = nl at *
      clear P5 Q5 R5 N5 O5 J5 H5 T5
      all_goals (walk_at "mine aws")
      refine c_neSame room.u1 H6 R6 ?_
      all_goals (walk_at "mine aws")
      refine aAnd2 ?_
      all_goals (walk_at "mine aws")
      refine wFld J6 rfl ?_
      all_goals (walk_at "mine aws")
      refine c_eqL room.u1 N6 P6 ?f1 ?f2 ?_
      case f1 => exact flat_nodes _
      case f2 => exact flat_nodes _
      rw [eqL_self _ (flat_nodes _)]
      refine truth_bool ?_
      refine iteT ?_
      all_goals (walk_at "mine aws")
      refine wFld J6 rfl ?_
      all_goals (walk_at "mine aws")
      refine c_eqL room.u1 O6 Q6 ?f1 ?f2 ?_
      case f1 => exact flat_ints _
      case f2 => exact flat_ints _
      rw [eqL_self _ (flat_ints _)]
      all_goals (walk_at "mine aws")
      exact ⟨rfl, T6⟩
end
-- W22
section
theorem top_lift {loose : List Str} {mean : ExcName → Option Value} {mg mb : Str → Option Value} {h h' : Heap} (T : Top topProg loose mean mg mb h) (k : ∀ b o, h.get? b = some o → h'.get? b = some o) : Top topProg loose mean mg mb h' where
  g := T.g.keeps k
  b := T.b.keeps k
  nolimit := let ⟨mc, a, r⟩ := T.nolimit; ⟨mc, a.keeps k, r⟩
  nodigits := let ⟨mc, a, r⟩ := T.nodigits; ⟨mc, a.keeps k, r⟩
  fn := fun d hd => absurd (show d ∈ ([] : List DefRec) from hd) List.not_mem_nil
  own := fun o ho => absurd (show o ∈ ([] : List OwnSpec) from ho) List.not_mem_nil
  const := fun x d e => by cases (show (none : Option PyData) = some d from e)
  free := T.free
  builtins := T.builtins
  tab := fun d hd => absurd (show d ∈ ([] : List DefRec) from hd) List.not_mem_nil
  bmain := let ⟨bm, ob, a1, a2, a3, a4, r⟩ := T.bmain; ⟨bm, ob, a1, a2, k _ _ a3, a4, r⟩
  seer := fun e => absurd (show false = true from e) Bool.false_ne_true
theorem ints_vrs {ρ ρ' : List Addr} {h h' : Heap} : ∀ {ns : List Int} {xs : List Value}, VRs ρ h (ivs ns) xs → VRs ρ' h' (ivs ns) xs := by
  intro ns
  induction ns with
  | nil => intro xs k; cases k; exact .nil
  | cons n ns ih =>
    intro xs k
    cases k with
    | cons a b => cases a; exact .cons .int (ih b)
theorem ints_of {vs : List Value} {ns : List Int} (h : IntsAre vs ns) (ρ : List Addr) (hp : Heap) : VRs ρ hp (ivs ns) vs := by
  induction h with
  | nil => exact .nil
  | cons n t _ ih => exact .cons .int ih
theorem lawCells (L fa : Addr) (cd : Value) (st0 : Stmt) (body : List Stmt) (scope : Scope) (p : Params) (hfn : lawFn p = some (st0 :: body, scope)) : (envOfC "law" scope L fa cd).cells = [(("aig" : Str), L + 1)] ∧ (envOfC "law" scope L fa cd).kindOf "aig" = some .cell ∧ (envOfC "law" scope L fa cd).kindOf "script" = some .local ∧ (envOfC "law" scope L fa cd).kindOf "draw" = some .local := by
  change some (List.cons _ _, Scope.mk _ _ _ _ _) = _ at hfn
  injection hfn with hfn
  injection hfn with h1 h2
  subst h2
  exact ⟨rfl, rfl, rfl, rfl⟩

theorem look1 {α : Type} {x y : Str} {a b : α} (e : [(x, a)].lookup y = some b) : y = x ∧ b = a := by
  by_cases q : y = x
  · subst q; simp at e; exact ⟨rfl, e.symm⟩
  · simp [List.lookup, beq_eq_false_iff_ne.mpr q] at e

structure Ctx (w : World) (loose : List Str) (mean : ExcName → Option Value) (mg mb : Str → Option Value) (base : Heap) : Prop where
  X : (hd.heap_39 w.params).In base
  T : Top topProg loose mean mg mb base
  C1 : CodeHd base 225 223
  C2 : CodeHd base 41 37
noncomputable abbrev gx (prog : Program) {w : World} {loose mean mg mb base} (C : Ctx w loose mean mg mb base) (pin : List (Nat × Addr)) : Gx :=
  ⟨prog, w, base, hd.heap_39 w.params, topProg, loose, mean, mg, mb, C.X, C.T, pin⟩
theorem Ctx.lift {w : World} {loose mean mg mb base base'} (C : Ctx w loose mean mg mb base) (k : ∀ b o, base.get? b = some o → base'.get? b = some o) : Ctx w loose mean mg mb base' :=
  ⟨fun a o e => k a o (C.X a o e), top_lift C.T k, C.C1.keeps k, C.C2.keeps k⟩

theorem law_first (G : Gx) (hK : KK G) (C1 : CodeHd G.h₀ 225 223) (hp : (0, 223) ∈ G.pin) (A : Around) (room : Room A 3) (L fa : Addr) (cd : Value) (st0 : Stmt) (body : List Stmt) (scope : Scope) (hfn : lawFn G.w.params = some (st0 :: body, scope))
    (a : Addr) (items : Array Value) (ns : List Int) (hl : G.h₀.IsList a items) (hI : ∀ ρ h, VRs ρ h (ivs ns) items.toList) (hb : ns.length ≤ 63) :
    AExec G A (envOfC "law" scope L fa cd) st0 [bn "script" (.top (.ref a))] [.raw (fun _ => tabObj #[]) []] (fun fl ls' S' => fl = .next ∧ ls'.lookup ("draw" : Str) = some (.ref 6) ∧ ∃ tp tk Y, S' = tabB tp tk :: Y ∧ ∃ cs r, 0 ≤ r ∧ cs.length ≤ 40 ∧ DrawFn G S' 1 cs r) := by
  change some (List.cons _ _, Scope.mk _ _ _ _ _) = _ at hfn
  injection hfn with hfn
  injection hfn with h1 h2
  injection h1 with h1 h3
  subst h1 h2 h3
  walk_at "mine aw"
  ((with_reducible refine' aCallT ?k0 ?k6 ?k1 ?k2 ?k3 ?_ ?k4 ?k5); (case k0 => assumption); (case k6 => exact rfl); (case k1 => decide); (case k2 => exact ⟨rfl, rfl, rfl⟩); (case k3 => exact rfl); (case k4 => exact rfl); (case k5 => exact rfl))
  all_goals (walk_at "mine aws")
  refine (dealer_walk G hK A room a items ns hl hI hb 0 _ C1 hp rfl).mono ?_
  rintro v S' ⟨rfl, ⟨tp, tk, Y, rfl⟩, cs, r, h0, hcl, hD⟩
  exact ⟨rfl, rfl, tp, tk, Y, rfl, cs, r, h0, hcl, hD⟩
theorem three_ids {ρ : List Addr} {i j k : Nat} {as : List Addr} (e : [i, j, k].map (fun n => ρ[n]?) = as.map some) : ∃ a b c, as = [a, b, c] ∧ ρ[i]? = some a ∧ ρ[j]? = some b ∧ ρ[k]? = some c := by
  match as, e with
  | [], e => simp at e
  | [a], e => simp at e
  | [a, b], e => simp at e
  | [a, b, c], e => simp at e; exact ⟨a, b, c, rfl, e.1, e.2.1, e.2.2⟩
  | _ :: _ :: _ :: _ :: _, e => simp at e

-- the whole body of law
theorem law_run (prog : Program) {w : World} {loose mean mg mb base} (C : Ctx w loose mean mg mb base) (A : Around) (room : Room A 10) {st0 : Stmt} {body : List Stmt} {scope : Scope} (hfn : lawFn w.params = some (st0 :: body, scope))
    (hplain : ∀ n k m g pool, 3 ≤ n → n ≤ 5 → (k = 2 ∨ k = 3 ∧ 4 ≤ n) → m ≤ 3 → Turns n m g pool → Plain g.nds k)
    {a : Addr} {items : Array Value} {ns : List Int} (hl : base.IsList a items) (hI : IntsAre items.toList ns) (hb : ns.length ≤ 63) {L fa : Addr} {cd : Value} {s : Shared} {m : Str → Option Value} (F : Fr base L s.heap m) {cell : Obj} (N : News base L s.heap [(L + 1, cell), (223, tabObj #[]), (37, tabObj #[])])
    (hcell : cell.data = .cell none) (hm : m "script" = some (.ref a)) {Q : Flow → Shared → Prop} {E : Value → Shared → Prop}
    (c : ∀ h' tk, (∀ b o, base.get? b = some o → h'.get? b = some o) → GrownAt 223 h' → GrownAt 37 h' → Q (.ret (.bool true)) { s with heap := h', toks := tk }) :
    wpAny (model prog w) A (execs (st0 :: body) (envOfC "law" scope L fa cd)) Q E s := by
  obtain ⟨hce, hck, hks, hkd⟩ := lawCells L fa cd st0 body scope w.params hfn
  let G1 : Gx := gx prog C [(0, 223)]
  have n1 := N _ (.head _)
  have n2 := N _ (.tail _ (.head _))
  have n3 := N _ (.tail _ (.tail _ (.head _)))
  dsimp only at n1 n2 n3
  have nt : ∀ {h : Heap} {P : Addr} {ps : Array Value}, h.get? P = some (tabObj ps) → ∀ its, ¬ IsTup h P its := fun e its => fields_notTup e rfl its
  have H1 : HS G1 [223] [.raw (fun _ => tabObj #[]) []] s.heap := by
    refine ⟨F.keep, fun b hb => ?_, ⟨by simp, fun p hp => ?_⟩, rfl, fun n b o e1 e2 => ?_⟩
    · rw [List.mem_singleton.mp hb]; exact n2.2.2
    · rw [List.mem_singleton.mp hp]; rfl
    · cases n with
      | zero => cases e1; cases e2; exact ⟨[], rfl, n2.1, nt n2.1⟩
      | succ n => cases e1
  have hL0 : base.get? L = none := Heap.get?_none_of_le F.above
  have X1 : St G1 (envOfC "law" scope L fa cd) [bn "script" (.top (.ref a))] [.raw (fun _ => tabObj #[]) []] [223] m (fun _ => none) s.heap := by
    refine ⟨H1, ⟨F.ns, hL0, fun hh => n2.2.1 (List.mem_singleton.mp hh).symm, fun x b e => ?_, fun x y b e e' => ?_⟩, fun x v e => ?_⟩
    · rw [hce] at e
      obtain ⟨rfl, rfl⟩ := look1 e
      exact ⟨⟨cell, n1.1, hcell⟩, fun hh => absurd (List.mem_singleton.mp hh) (fun q => by have := n2.1; rw [← q, n1.1] at this; cases this; cases hcell), n1.2.1, fun _ => n1.2.2, fun q => absurd hck q⟩
    · rw [hce] at e e'
      obtain ⟨rfl, rfl⟩ := look1 e
      obtain ⟨h, _⟩ := look1 e'
      exact h.symm
    · obtain ⟨rfl, rfl⟩ := look1 e
      exact ⟨_, .top, .inl ⟨hks, hm⟩⟩
  refine wpAny_execs_cons (up (law_first G1 rfl C.C1 (.head _) A (room.le (by decide)) L fa cd st0 body scope hfn a items ns hl (ints_of hI) hb _ _ _ s _ X1 ?_))
  rintro fl ls' S' fv ρ' m' cm' h' tk' ⟨rfl, hdr, tp, tk, Y, rfl, cs, r, h0, hcl, hD⟩ rfl' X2 e2
  cases rfl'
  have nd := X2.H.nodup.1
  have apart : ∀ {i j : Nat} {x y : Addr}, ρ'[i]? = some x → ρ'[j]? = some y → i ≠ j → x ≠ y := by
    intro i j x y h1 h2 hne q
    subst q
    obtain ⟨l1, e1⟩ := List.getElem?_eq_some_iff.mp h1
    obtain ⟨l2, e2⟩ := List.getElem?_eq_some_iff.mp h2
    exact hne ((List.getElem_inj nd).mp (e1.trans e2.symm))
  have mem : ∀ {i : Nat} {x : Addr}, ρ'[i]? = some x → x ∈ ρ' := fun h => List.mem_of_getElem? h
  have live : ∀ {i : Nat} {o : O}, (tabB tp tk :: Y)[i]? = some o → ∃ x, ρ'[i]? = some x := by
    intro i o h
    have := (List.getElem?_eq_some_iff.mp h).1
    rw [← X2.H.len] at this
    exact ⟨_, List.getElem?_eq_getElem this⟩
  obtain ⟨params, bdy, scp, pos, doc, ctv, hdef, hfo⟩ := hD.fn
  obtain ⟨ac, iac⟩ := live hD.cells
  obtain ⟨ar, iar⟩ := live hD.rest
  obtain ⟨fd, ifd⟩ := live hfo
  obtain ⟨as, e3, hfd, _⟩ := X2.H.objs _ _ _ ifd hfo
  obtain ⟨ca, cc, cr, rfl, ica, icc, icr⟩ := three_ids e3
  obtain ⟨oc, vs, tq, hcode, hov, hvs⟩ := hD.code
  obtain ⟨_, _, hca, _⟩ := X2.H.objs _ _ _ ica hcode
  obtain ⟨v1, ⟨o1, hcc, hd1⟩, r1, _⟩ := X2.H.objs _ _ _ icc hD.cellsC
  obtain ⟨v2, ⟨o2, hcr, hd2⟩, r2, _⟩ := X2.H.objs _ _ _ icr hD.restC
  obtain ⟨itc, pc, vc⟩ := X2.H.objs _ _ _ iac hD.cells
  obtain ⟨itr, pr, vr⟩ := X2.H.objs _ _ _ iar hD.rest
  cases r1 with
  | @ref _ b1 hb1 =>
  cases r2 with
  | @ref _ b2 hb2 =>
  rw [iac] at hb1; cases hb1
  rw [iar] at hb2; cases hb2
  have Fc := X2.F.cells "aig" (L + 1) (by rw [hce]; rfl)
  have lL : L ∉ ρ' := X2.F.off
  have l37 : 37 ∉ ρ' := by
    obtain ⟨x, hx, hf⟩ := e2.pre
    rw [hx]
    intro hm
    rcases List.mem_append.mp hm with hm | hm
    · have := List.mem_singleton.mp hm; exact absurd this (by decide)
    · have := hf 37 hm; rw [n3.1] at this; cases this
  have k37 : h'.get? 37 = some (tabObj #[]) := by
    refine e2.pres 37 _ n3.1 (fun hm => absurd (List.mem_singleton.mp hm) (by decide)) ?_
    rintro (q | ⟨x, _, q⟩)
    · exact n3.2.1 q
    · rw [hce] at q
      obtain ⟨_, q⟩ := look1 q
      have := n3.1
      rw [q, n1.1] at this
      cases this
      cases hcell
  obtain ⟨c0, hc0⟩ : ∃ hid : List Addr, hid = [37, ar, ac, L, L + 1] := ⟨_, rfl⟩
  have off : ∀ {i : Nat} {x : Addr}, ρ'[i]? = some x → i ≠ 3 → i ≠ 4 → x ∉ c0 := by
    intro i x hx h3 h4 hm
    rw [hc0] at hm
    rcases List.mem_cons.mp hm with rfl | hm
    · exact l37 (mem hx)
    rcases List.mem_cons.mp hm with rfl | hm
    · exact apart hx iar h4 rfl
    rcases List.mem_cons.mp hm with rfl | hm
    · exact apart hx iac h3 rfl
    rcases List.mem_cons.mp hm with rfl | hm
    · exact lL (mem hx)
    · rw [List.mem_singleton.mp hm] at hx
      exact Fc.2.1 (mem hx)
  have hnone : ∀ x ∈ c0, base.get? x = none := by
    intro x hx
    rw [hc0] at hx
    rcases List.mem_cons.mp hx with rfl | hx
    · exact n3.2.2
    rcases List.mem_cons.mp hx with rfl | hx
    · exact X2.H.off _ (mem iar)
    rcases List.mem_cons.mp hx with rfl | hx
    · exact X2.H.off _ (mem iac)
    rcases List.mem_cons.mp hx with rfl | hx
    · exact hL0
    · rw [List.mem_singleton.mp hx]; exact n1.2.2
  have lift : ∀ b o, base.get? b = some o → (hideAll h' c0).get? b = some o := fun b o e => hideAll_get _ (X2.H.base b o e) fun hm => by rw [hnone b hm] at e; cases e
  have seen : ∀ {i : Nat} {x : Addr} {o : Obj}, ρ'[i]? = some x → i ≠ 3 → i ≠ 4 → h'.get? x = some o → (hideAll h' c0).get? x = some o := fun hx h3 h4 ho => hideAll_get _ ho (off hx h3 h4)
  have C2 := C.lift lift
  let G2 : Gx := gx prog C2 [(0, 37), (1, ar), (2, ac)]
  have D : DrawBase G2 fd 1 2 := ⟨params, bdy, scp, pos, doc, ctv, ca, cr, cc, o2, o1, ar, ac, oc, hdef, seen ifd (by decide) (by decide) hfd, seen ica (by decide) (by decide) hca, ⟨vs, tq, hov, hvs⟩, seen icr (by decide) (by decide) hcr, hd2, .tail _ (.head _), seen icc (by decide) (by decide) hcc, hd1, .tail _ (.tail _ (.head _)), apart icr icc (by decide)⟩
  have r37 : 37 ≠ ar := fun q => l37 (q ▸ mem iar)
  have c37 : 37 ≠ ac := fun q => l37 (q ▸ mem iac)
  have H2 : HS G2 [37, ar, ac] [.raw (fun _ => tabObj #[]) [], .list (ivs [0, 0, r]), .list (ivs cs)] h' := by
    refine ⟨fun b o e => of_hideAll _ e, fun b hb => hideAll_none _ ?_, ⟨?_, ?_⟩, rfl, ?_⟩
    · rw [hc0]
      rcases List.mem_cons.mp hb with rfl | hb
      · exact .head _
      rcases List.mem_cons.mp hb with rfl | hb
      · exact .tail _ (.head _)
      · rw [List.mem_singleton.mp hb]; exact .tail _ (.tail _ (.head _))
    · have : ar ≠ ac := apart iar iac (by decide)
      simp [r37, c37, this]
    · intro p hp
      rcases List.mem_cons.mp hp with rfl | hp
      · rfl
      rcases List.mem_cons.mp hp with rfl | hp
      · rfl
      · rw [List.mem_singleton.mp hp]; rfl
    · intro n b o e1 e2
      match n with
      | 0 => cases e1; cases e2; exact ⟨[], rfl, k37, nt k37⟩
      | 1 => cases e1; cases e2; exact ⟨itr, pr, ints_vrs vr⟩
      | 2 => cases e1; cases e2; exact ⟨itc, pc, ints_vrs vc⟩
      | n + 3 => simp at e1
  have X3 : St G2 (envOfC "law" scope L fa cd) [bn "draw" (.top (.ref fd))] [.raw (fun _ => tabObj #[]) [], .list (ivs [0, 0, r]), .list (ivs cs)] [37, ar, ac] m' cm' h' := by
    refine ⟨H2, ⟨X2.F.ns, hideAll_none _ (by rw [hc0]; exact .tail _ (.tail _ (.tail _ (.head _)))), fun hm => ?_, fun x b e => ?_, X2.F.inj⟩, fun x v e => ?_⟩
    · rcases List.mem_cons.mp hm with q | hm
      · exact n3.2.1 q.symm
      rcases List.mem_cons.mp hm with q | hm
      · exact lL (by rw [show L = ar from q]; exact mem iar)
      · exact lL (by rw [show L = ac from List.mem_singleton.mp hm]; exact mem iac)
    · rw [hce] at e
      obtain ⟨rfl, rfl⟩ := look1 e
      refine ⟨Fc.1, fun hm => ?_, Fc.2.2.1, fun _ => hideAll_none _ (by rw [hc0]; exact .tail _ (.tail _ (.tail _ (.tail _ (.head _))))), fun q => absurd hck q⟩
      rcases List.mem_cons.mp hm with q | hm
      · have := n3.1
        rw [← q, n1.1] at this; cases this; cases hcell
      rcases List.mem_cons.mp hm with q | hm
      · exact Fc.2.1 (by rw [q]; exact mem iar)
      · exact Fc.2.1 (by rw [List.mem_singleton.mp hm]; exact mem iac)
    · obtain ⟨rfl, rfl⟩ := look1 e
      obtain ⟨val, rv, k1 | ⟨_, k1, _⟩⟩ := X2.L _ _ hdr
      · cases rv with
        | @ref _ b hb =>
        rw [ifd] at hb; cases hb
        exact ⟨_, .top, .inl k1⟩
      · rcases k1 with k1 | ⟨k1, _⟩ <;> (rw [hkd] at k1; cases k1)
  refine up (law_walk G2 rfl fd D C2.C2 (.head _) A room L fa cd st0 body scope hfn hplain cs r hcl _ _ _ { s with heap := h', toks := tk' } _ X3 ?_)
  rintro fl ls3 S3 fv ρ3 m3 cm3 h3 tk3 ⟨hv, hT3⟩ hfl X4 e4
  have hb3 : ∀ b o, (hideAll h' c0).get? b = some o → h3.get? b = some o := X4.H.base
  cases hfl with
  | next => cases hv
  | brk => cases hv
  | cont => cases hv
  | @ret v x hx =>
  dsimp only at hv
  subst hv
  cases hx
  refine c h3 tk3 (fun b o e => hb3 b o (lift b o e)) ?_ ?_
  · have i0 := X2.H.nodup.2 (0, 223) (.head _)
    obtain ⟨as0, _, ho0, _⟩ := X2.H.objs 0 223 (tabB tp tk) i0 rfl
    exact ⟨_, hb3 _ _ (seen i0 (by decide) (by decide) ho0)⟩
  · have i0 := X4.H.nodup.2 (0, 37) (.head _)
    rcases hT3 with hT3 | ⟨kk, oc3, hT3⟩
    · obtain ⟨_, _, ho0, _⟩ := X4.H.objs 0 37 _ i0 hT3
      exact ⟨_, ho0⟩
    · obtain ⟨_, _, ho0, _⟩ := X4.H.objs 0 37 _ i0 hT3.tab
      exact ⟨_, ho0⟩
end
-- M2
section
-- one cut lies in another
noncomputable def Sub (o c : List Int) : Prop := ∀ x ∈ o, x ∈ c
theorem dominated_iff {kept : List (List Int)} {c : List Int} : dominated kept c = true ↔ ∃ o ∈ kept, Sub o c := by
  unfold dominated Sub
  simp [List.any_eq_true, List.all_eq_true]
theorem domFold_mono : ∀ (cs kept : List (List Int)), ∀ o ∈ kept, o ∈ domFold kept cs
  | [], kept, o, h => h
  | c :: cs, kept, o, h => by
    show o ∈ domFold (if dominated kept c then kept else kept ++ [c]) cs
    refine domFold_mono cs _ o ?_
    split
    · exact h
    · exact List.mem_append_left _ h
theorem domFold_mem : ∀ (cs kept : List (List Int)), ∀ o ∈ domFold kept cs, o ∈ kept ∨ o ∈ cs
  | [], kept, o, h => .inl h
  | c :: cs, kept, o, h => by
    have h' : o ∈ domFold (if dominated kept c then kept else kept ++ [c]) cs := h
    rcases domFold_mem cs _ o h' with h1 | h1
    · split at h1
      · exact .inl h1
      · rcases List.mem_append.mp h1 with h1 | h1
        · exact .inl h1
        · exact .inr (by rw [List.mem_singleton.mp h1]; exact .head _)
    · exact .inr (.tail _ h1)
-- every cut has a kept one in it
theorem domFold_covers : ∀ (cs kept : List (List Int)), ∀ c ∈ cs, ∃ o ∈ domFold kept cs, Sub o c
  | [], kept, c, h => by cases h
  | d :: cs, kept, c, h => by
    show ∃ o ∈ domFold (if dominated kept d then kept else kept ++ [d]) cs, Sub o c
    rcases List.mem_cons.mp h with rfl | h
    · by_cases hd : dominated kept c = true
      · rw [if_pos hd]
        obtain ⟨o, ho, hs⟩ := dominated_iff.mp hd
        exact ⟨o, domFold_mono cs kept o ho, hs⟩
      · rw [if_neg hd]
        exact ⟨c, domFold_mono cs _ c (by simp), fun x hx => hx⟩
    · exact domFold_covers cs _ c h
-- kept cuts are pairwise other than each other
theorem domFold_nodup : ∀ (cs kept : List (List Int)), kept.Nodup → (domFold kept cs).Nodup
  | [], kept, h => h
  | d :: cs, kept, h => by
    show (domFold (if dominated kept d then kept else kept ++ [d]) cs).Nodup
    refine domFold_nodup cs _ ?_
    split
    · exact h
    · rename_i hd
      refine List.nodup_append.mpr ⟨h, by simp, fun x hx y hy e => ?_⟩
      rw [List.mem_singleton.mp hy] at e
      subst e
      exact hd (dominated_iff.mpr ⟨x, hx, fun z hz => hz⟩)
theorem mergeL_mem : ∀ (xs ys : List Int) (z : Int), z ∈ mergeL xs ys ↔ z ∈ xs ∨ z ∈ ys
  | [], ys, z => by simp [mergeL]
  | x :: xs, [], z => by simp [mergeL]
  | x :: xs, y :: ys, z => by
    unfold mergeL
    split
    · rw [List.mem_cons, mergeL_mem xs (y :: ys) z, List.mem_cons, List.mem_cons, or_assoc]
    · split
      · rw [List.mem_cons, mergeL_mem (x :: xs) ys z]; simp only [List.mem_cons]
        constructor
        · rintro (h | (h | h) | h)
          · exact .inr (.inl h)
          · exact .inl (.inl h)
          · exact .inl (.inr h)
          · exact .inr (.inr h)
        · rintro ((h | h) | h | h)
          · exact .inr (.inl (.inl h))
          · exact .inr (.inl (.inr h))
          · exact .inl h
          · exact .inr (.inr h)
      · rename_i h1 h2
        have : x = y := by omega
        subst this
        rw [List.mem_cons, mergeL_mem xs ys z]; simp only [List.mem_cons]
        constructor
        · rintro (h | h | h)
          · exact .inl (.inl h)
          · exact .inl (.inr h)
          · exact .inr (.inr h)
        · rintro ((h | h) | h | h)
          · exact .inl h
          · exact .inr (.inl h)
          · exact .inl h
          · exact .inr (.inr h)
  termination_by xs ys => xs.length + ys.length
end
-- M3
section
-- ascending
noncomputable abbrev Asc (c : List Int) : Prop := c.Pairwise (· < ·)
theorem mergeL_asc : ∀ (xs ys : List Int), Asc xs → Asc ys → Asc (mergeL xs ys)
  | [], ys, _, h => by simpa [mergeL] using h
  | x :: xs, [], h, _ => by simpa [mergeL] using h
  | x :: xs, y :: ys, hx, hy => by
    have hx' := List.pairwise_cons.mp hx
    have hy' := List.pairwise_cons.mp hy
    unfold mergeL
    split
    · rename_i h
      refine List.pairwise_cons.mpr ⟨fun z hz => ?_, mergeL_asc xs (y :: ys) hx'.2 hy⟩
      rcases (mergeL_mem _ _ _).mp hz with hz | hz
      · exact hx'.1 z hz
      · rcases List.mem_cons.mp hz with rfl | hz
        · exact h
        · have := hy'.1 z hz; omega
    · split
      · rename_i h1 h
        refine List.pairwise_cons.mpr ⟨fun z hz => ?_, mergeL_asc (x :: xs) ys hx hy'.2⟩
        rcases (mergeL_mem _ _ _).mp hz with hz | hz
        · rcases List.mem_cons.mp hz with rfl | hz
          · exact h
          · have := hx'.1 z hz; omega
        · exact hy'.1 z hz
      · rename_i h1 h2
        refine List.pairwise_cons.mpr ⟨fun z hz => ?_, mergeL_asc xs ys hx'.2 hy'.2⟩
        rcases (mergeL_mem _ _ _).mp hz with hz | hz
        · exact hx'.1 z hz
        · have := hy'.1 z hz; omega
  termination_by xs ys => xs.length + ys.length
theorem nodup_sub_len : ∀ (c B : List Int), c.Nodup → Sub c B → c.length ≤ B.length
  | [], B, _, _ => Nat.zero_le _
  | x :: c, B, nd, hs => by
    obtain ⟨h1, h2⟩ := List.nodup_cons.mp nd
    have hx : x ∈ B := hs x (.head _)
    have ih := nodup_sub_len c (B.erase x) h2 fun y hy => (List.mem_erase_of_ne (fun e : y = x => h1 (by rw [← e]; exact hy))).mpr (hs y (.tail _ hy))
    rw [List.length_erase_of_mem hx] at ih
    have := List.length_pos_of_mem hx
    rw [List.length_cons]; omega
-- an ascending list that lies in B is no longer than B
theorem asc_le_of_sub {c B : List Int} (h : Asc c) (hs : Sub c B) : c.length ≤ B.length := by
  have nd : c.Nodup := h.imp fun q e => by omega
  exact nodup_sub_len c B nd hs
-- node v is open when B is barred
noncomputable def Open (nds : List Nd) (B : List Int) : Nat → Bool := fun v => (openL nds B v).getD v false
theorem openL_get (nds : List Nd) (B : List Int) : ∀ n v, v ≤ n → (openL nds B n).getD v false = Open nds B v
  | 0, v, h => by have : v = 0 := by omega
                  subst this; rfl
  | n + 1, v, h => by
    rcases Nat.lt_or_eq_of_le h with h | rfl
    · unfold openL
      rw [List.getD_eq_getElem?_getD, List.getElem?_append_left (by rw [openL_len]; omega), ← List.getD_eq_getElem?_getD]
      exact openL_get nds B n v (by omega)
    · rfl
theorem Open_zero (nds : List Nd) (B : List Int) : Open nds B 0 = false := rfl
theorem Open_succ (nds : List Nd) (B : List Int) (v : Nat) (hl : Low nds) : Open nds B (v + 1) = (!B.contains ((v + 1 : Nat) : Int) && match nds.getD (v + 1) none with
    | none => true
    | some (a, b) => Open nds B (a / 2).toNat || Open nds B (b / 2).toNat) := by
  show (openL nds B (v + 1)).getD (v + 1) false = _
  unfold openL
  rw [List.getD_eq_getElem?_getD, List.getElem?_append_right (by rw [openL_len]; omega), openL_len]
  simp only [Nat.sub_self, List.getElem?_cons_zero, Option.getD_some]
  unfold openAt
  cases q : nds.getD (v + 1) none with
  | none => rfl
  | some p =>
    obtain ⟨a, b⟩ := p
    have hn : nds[v + 1]? = some (some (a, b)) := by
      rw [List.getD_eq_getElem?_getD] at q
      cases z : nds[v + 1]? with
      | none => rw [z] at q; cases q
      | some w => rw [z] at q; rw [show w = some (a, b) from q]
    obtain ⟨_, h1, _, h2⟩ := hl.2 _ a b hn
    dsimp only
    rw [openL_get nds B v _ (by omega), openL_get nds B v _ (by omega)]
end
-- M4
section
theorem RowsOk.at {nds : List Nd} {k : Int} {most : Nat} {cuts : List Cuts} (h : RowsOk nds k most cuts) {v : Nat} (hv : v < cuts.length) : RowOk nds k most cuts v (cuts.getD v []) := by
  refine h v _ ?_
  rw [List.getD_eq_getElem?_getD, List.getElem?_eq_getElem hv]; rfl
theorem mem_mergeAll {k : Int} {L R : Cuts} {c : List Int} : c ∈ mergeAll k L R ↔ ∃ a ∈ L, ∃ b ∈ R, ¬ ((mergeL a b).length : Int) > k ∧ c = mergeL a b := by
  unfold mergeAll mergeRow
  rw [List.mem_flatMap]
  constructor
  · rintro ⟨a, ha, h⟩
    obtain ⟨b, hb, e⟩ := List.mem_filterMap.mp h
    unfold merge1 at e
    split at e
    · cases e
    · rename_i q; cases e; exact ⟨a, ha, b, hb, q, rfl⟩
  · rintro ⟨a, ha, b, hb, q, rfl⟩
    exact ⟨a, ha, List.mem_filterMap.mpr ⟨b, hb, by unfold merge1; rw [if_neg q]⟩⟩
theorem mem_nodeCuts {k : Int} {most : Nat} {node : Int} {rows' M : Cuts} {c : List Int} (hp : rows'.Perm M) (h : c ∈ nodeCuts k most node rows') : c = [node] ∨ c ∈ M := by
  unfold nodeCuts at h
  rcases List.mem_append.mp h with h | h
  · rcases domFold_mem rows' [] c (List.mem_of_mem_take h) with h | h
    · cases h
    · exact .inr (hp.mem_iff.mp h)
  · exact .inl (List.mem_singleton.mp h)
theorem rows_asc {nds : List Nd} {k : Int} {most : Nat} {cuts : List Cuts} (h : RowsOk nds k most cuts) (hl : Low nds) : ∀ v, v < cuts.length → ∀ c ∈ cuts.getD v [], Asc c := by
  intro v
  induction v using Nat.strongRecOn with
  | ind v ih =>
    intro hv c hc
    have hr := h.at hv
    unfold RowOk at hr
    cases q : nds.getD v none with
    | none =>
      rw [q] at hr
      dsimp only at hr
      rw [hr] at hc
      split at hc <;> (rw [List.mem_singleton.mp hc]; simp)
    | some p =>
      obtain ⟨a, b⟩ := p
      rw [q] at hr
      obtain ⟨rows', hp, e⟩ := hr
      rw [e] at hc
      have hn : nds[v]? = some (some (a, b)) := by
        rw [List.getD_eq_getElem?_getD] at q
        cases z : nds[v]? with
        | none => rw [z] at q; cases q
        | some w => rw [z] at q; rw [show w = some (a, b) from q]
      obtain ⟨_, h1, _, h2⟩ := hl.2 v a b hn
      rcases mem_nodeCuts hp hc with rfl | hc
      · simp
      · obtain ⟨x, hx, y, hy, _, rfl⟩ := mem_mergeAll.mp hc
        exact mergeL_asc x y (ih _ h1 (by omega) x hx) (ih _ h2 (by omega) y hy)
end
-- M5
section
theorem domFold_le : ∀ (cs kept : Cuts), (domFold kept cs).length ≤ kept.length + cs.length
  | [], kept => by simp [domFold]
  | c :: cs, kept => by
    show (domFold (if dominated kept c then kept else kept ++ [c]) cs).length ≤ _
    rw [List.length_cons]
    have h1 := domFold_le cs kept
    have h2 := domFold_le cs (kept ++ [c])
    rw [List.length_append, List.length_singleton] at h2
    cases dominated kept c with
    | true => rw [if_pos rfl]; omega
    | false => rw [if_neg Bool.false_ne_true]; omega
-- a set of at most k nodes that meets all ways to v has a cut of v's row in it
theorem complete {nds : List Nd} {k : Int} {most : Nat} {cuts : List Cuts} (h : RowsOk nds k most cuts) (hl : Low nds) (hs : Small nds k most) (hm : 64 ≤ most) (B : List Int) (hB : (B.length : Int) ≤ k) :
    ∀ v, 1 ≤ v → v < cuts.length → (∀ a b, nds.getD v none = some (a, b) → 1 ≤ (a / 2).toNat ∧ 1 ≤ (b / 2).toNat) → (∀ u a b, nds.getD u none = some (a, b) → 1 ≤ (a / 2).toNat ∧ 1 ≤ (b / 2).toNat) → Open nds B v = false → ∃ c ∈ cuts.getD v [], Sub c B := by
  intro v
  induction v using Nat.strongRecOn with
  | ind v ih =>
    intro h1 hv _ hpos ho
    have hr := h.at hv
    obtain ⟨w, rfl⟩ : ∃ w, v = w + 1 := ⟨v - 1, by omega⟩
    rw [Open_succ nds B w hl] at ho
    unfold RowOk at hr
    by_cases hb : B.contains ((w + 1 : Nat) : Int) = true
    · have hmem : ((w + 1 : Nat) : Int) ∈ B := by simpa using hb
      refine ⟨[((w + 1 : Nat) : Int)], ?_, fun x hx => by rw [List.mem_singleton.mp hx]; exact hmem⟩
      cases q : nds.getD (w + 1) none with
      | none =>
        rw [q] at hr
        dsimp only at hr
        rw [hr, if_neg (by omega)]
        simp
      | some p =>
        obtain ⟨a, b⟩ := p
        rw [q] at hr
        obtain ⟨rows', hp, e⟩ := hr
        rw [e]
        unfold nodeCuts
        simp
    · have hb' : B.contains ((w + 1 : Nat) : Int) = false := by simpa using hb
      rw [hb'] at ho
      cases q : nds.getD (w + 1) none with
      | none => rw [q] at ho; simp at ho
      | some p =>
        obtain ⟨a, b⟩ := p
        rw [q] at ho hr
        have hn : nds[w + 1]? = some (some (a, b)) := by
          rw [List.getD_eq_getElem?_getD] at q
          cases z : nds[w + 1]? with
          | none => rw [z] at q; cases q
          | some u => rw [z] at q; rw [show u = some (a, b) from q]
        obtain ⟨_, g1, _, g2⟩ := hl.2 _ a b hn
        obtain ⟨p1, p2⟩ := hpos _ a b q
        simp only [Bool.not_false, Bool.true_and, Bool.or_eq_false_iff] at ho
        obtain ⟨x, hx, sx⟩ := ih _ g1 p1 (by omega) (fun a' b' e => hpos _ a' b' e) hpos ho.1
        obtain ⟨y, hy, sy⟩ := ih _ g2 p2 (by omega) (fun a' b' e => hpos _ a' b' e) hpos ho.2
        have hsub : Sub (mergeL x y) B := fun z hz => by
          rcases (mergeL_mem _ _ _).mp hz with hz | hz
          · exact sx z hz
          · exact sy z hz
        have hasc := mergeL_asc x y (rows_asc h hl _ (by omega) x hx) (rows_asc h hl _ (by omega) y hy)
        have hlen := asc_le_of_sub hasc hsub
        obtain ⟨rows', hp, e⟩ := hr
        have hmem : mergeL x y ∈ rows' := hp.mem_iff.mpr (mem_mergeAll.mpr ⟨x, hx, y, hy, by omega, rfl⟩)
        obtain ⟨o, ho', so⟩ := domFold_covers rows' [] _ hmem
        refine ⟨o, ?_, fun z hz => hsub z (so z hz)⟩
        rw [e]
        unfold nodeCuts
        have hz := (hs cuts h _ a b hn (by omega) (by omega)).2.2.2.2
        have hdl := domFold_le rows' []
        have hpl := hp.length_eq
        rw [List.take_of_length_le (by simp at hdl; omega)]
        exact List.mem_append_left _ ho'
end
-- M6
section
-- a set that holds a closing set closes
theorem Open_mono {nds : List Nd} (hl : Low nds) {B B' : List Int} (hs : Sub B B') : ∀ v, Open nds B v = false → Open nds B' v = false := by
  intro v
  induction v using Nat.strongRecOn with
  | ind v ih =>
    intro h
    cases v with
    | zero => rfl
    | succ w =>
      rw [Open_succ nds _ w hl] at h ⊢
      cases hb : B'.contains ((w + 1 : Nat) : Int) with
      | true => rfl
      | false =>
        have hb0 : B.contains ((w + 1 : Nat) : Int) = false := by
          cases q : B.contains ((w + 1 : Nat) : Int) with
          | false => rfl
          | true =>
            have := hs _ (by simpa using q)
            rw [show B'.contains ((w + 1 : Nat) : Int) = true by simpa using this] at hb; cases hb
        rw [hb0] at h
        cases q : nds.getD (w + 1) none with
        | none => rw [q] at h; simp at h
        | some p =>
          obtain ⟨a, b⟩ := p
          rw [q] at h
          have hn : nds[w + 1]? = some (some (a, b)) := by
            rw [List.getD_eq_getElem?_getD] at q
            cases z : nds[w + 1]? with
            | none => rw [z] at q; cases q
            | some u => rw [z] at q; rw [show u = some (a, b) from q]
          obtain ⟨_, g1, _, g2⟩ := hl.2 _ a b hn
          simp only [Bool.not_false, Bool.true_and, Bool.or_eq_false_iff] at h ⊢
          exact ⟨ih _ g1 h.1, ih _ g2 h.2⟩
-- each cut of a row meets all ways
theorem rows_close {nds : List Nd} {k : Int} {most : Nat} {cuts : List Cuts} (h : RowsOk nds k most cuts) (hl : Low nds) : ∀ v, v < cuts.length → ∀ c ∈ cuts.getD v [], Open nds c v = false := by
  intro v
  induction v using Nat.strongRecOn with
  | ind v ih =>
    intro hv c hc
    cases v with
    | zero => rfl
    | succ w =>
      have hr := h.at hv
      unfold RowOk at hr
      have self : Open nds [((w + 1 : Nat) : Int)] (w + 1) = false := by rw [Open_succ nds _ w hl]; simp
      cases q : nds.getD (w + 1) none with
      | none =>
        rw [q] at hr
        dsimp only at hr
        rw [hr, if_neg (by omega)] at hc
        rw [List.mem_singleton.mp hc]; exact self
      | some p =>
        obtain ⟨a, b⟩ := p
        rw [q] at hr
        obtain ⟨rows', hp, e⟩ := hr
        rw [e] at hc
        have hn : nds[w + 1]? = some (some (a, b)) := by
          rw [List.getD_eq_getElem?_getD] at q
          cases z : nds[w + 1]? with
          | none => rw [z] at q; cases q
          | some u => rw [z] at q; rw [show u = some (a, b) from q]
        obtain ⟨_, g1, _, g2⟩ := hl.2 _ a b hn
        rcases mem_nodeCuts hp hc with rfl | hc
        · exact self
        · obtain ⟨x, hx, y, hy, _, rfl⟩ := mem_mergeAll.mp hc
          rw [Open_succ nds _ w hl, q]
          have o1 := Open_mono hl (B' := mergeL x y) (fun z hz => (mergeL_mem _ _ _).mpr (.inl hz)) _ (ih _ g1 (by omega) x hx)
          have o2 := Open_mono hl (B' := mergeL x y) (fun z hz => (mergeL_mem _ _ _).mpr (.inr hz)) _ (ih _ g2 (by omega) y hy)
          simp [o1, o2]
end
-- M7
section
-- the shape of a row's cuts
theorem rows_shape {nds : List Nd} {k : Int} {most : Nat} {cuts : List Cuts} (h : RowsOk nds k most cuts) (hl : Low nds) (hk : 1 ≤ k) (hpos : ∀ u a b, nds.getD u none = some (a, b) → 1 ≤ (a / 2).toNat ∧ 1 ≤ (b / 2).toNat) :
    ∀ v, 1 ≤ v → v < cuts.length → ∀ c ∈ cuts.getD v [], 1 ≤ c.length ∧ (c.length : Int) ≤ k ∧ (∀ x ∈ c, 1 ≤ x ∧ x ≤ v) ∧ (c ≠ [(v : Int)] → ∀ x ∈ c, x < v) := by
  intro v
  induction v using Nat.strongRecOn with
  | ind v ih =>
    intro h1 hv c hc
    have hr := h.at hv
    unfold RowOk at hr
    have self : c = [(v : Int)] → 1 ≤ c.length ∧ (c.length : Int) ≤ k ∧ (∀ x ∈ c, 1 ≤ x ∧ x ≤ v) ∧ (c ≠ [(v : Int)] → ∀ x ∈ c, x < v) := by
      rintro rfl
      refine ⟨by simp, by simpa using hk, fun x hx => ?_, fun q => absurd rfl q⟩
      rw [List.mem_singleton.mp hx]; omega
    cases q : nds.getD v none with
    | none =>
      rw [q] at hr
      dsimp only at hr
      rw [hr, if_neg (by omega)] at hc
      exact self (List.mem_singleton.mp hc)
    | some p =>
      obtain ⟨a, b⟩ := p
      rw [q] at hr
      obtain ⟨rows', hp, e⟩ := hr
      rw [e] at hc
      have hn : nds[v]? = some (some (a, b)) := by
        rw [List.getD_eq_getElem?_getD] at q
        cases z : nds[v]? with
        | none => rw [z] at q; cases q
        | some u => rw [z] at q; rw [show u = some (a, b) from q]
      obtain ⟨_, g1, _, g2⟩ := hl.2 _ a b hn
      obtain ⟨p1, p2⟩ := hpos _ a b q
      rcases mem_nodeCuts hp hc with hc | hc
      · exact self hc
      · obtain ⟨x, hx, y, hy, hlen, rfl⟩ := mem_mergeAll.mp hc
        obtain ⟨x1, x2, x3, _⟩ := ih _ g1 p1 (by omega) x hx
        obtain ⟨y1, y2, y3, _⟩ := ih _ g2 p2 (by omega) y hy
        have hlow : ∀ z ∈ mergeL x y, 1 ≤ z ∧ z < v := fun z hz => by
          rcases (mergeL_mem _ _ _).mp hz with hz | hz
          · have := x3 z hz; omega
          · have := y3 z hz; omega
        refine ⟨?_, by omega, fun z hz => ⟨(hlow z hz).1, Int.le_of_lt (hlow z hz).2⟩, fun _ z hz => (hlow z hz).2⟩
        have hne : mergeL x y ≠ [] := by
          obtain ⟨z, hz⟩ := List.exists_mem_of_length_pos (show 0 < x.length by omega)
          intro q
          have := (mergeL_mem x y z).mpr (.inl hz)
          rw [q] at this; cases this
        exact List.length_pos_iff.mpr hne
end
-- M8
section
theorem pathF_lt {nds : List Nd} (hl : Low nds) (free : List Bool) : ∀ f s, ∀ t ∈ pathF nds free f s, t < s
  | 0, s, t, h => by cases h
  | f + 1, s, t, h => by
    unfold pathF at h
    cases q : nds.getD s none with
    | none => rw [q] at h; cases h
    | some p =>
      obtain ⟨a, b⟩ := p
      rw [q] at h
      dsimp only at h
      obtain ⟨_, g1, _, g2⟩ := hl.2 s a b (low_getD hl q)
      have hlt : (if free.getD (a / 2).toNat false then (a / 2).toNat else (b / 2).toNat) < s := by split <;> omega
      rcases List.mem_cons.mp h with rfl | h
      · exact hlt
      · exact Nat.lt_trans (pathF_lt hl free f _ t h) hlt
-- the law's search finds only closing sets
theorem close_sound {nds : List Nd} (hl : Low nds) (dl : List Int) (level : Int) (node : Nat) : ∀ (left : Nat) (barred : List Int), closeP nds dl level node left barred = true →
    ∃ B : List Nat, B.length ≤ left ∧ (∀ s ∈ B, s < node ∧ dl.getD s 0 < level) ∧ Open nds (barred ++ B.map (fun (s : Nat) => (s : Int))) node = false
  | 0, barred, h => by
    unfold closeP at h
    cases q : (openL nds barred node).getD node false with
    | false => exact ⟨[], Nat.le_refl _, (fun s h => by cases h), by simpa [Open] using q⟩
    | true => rw [q] at h; simp at h
  | left + 1, barred, h => by
    unfold closeP at h
    cases q : (openL nds barred node).getD node false with
    | false => exact ⟨[], Nat.zero_le _, (fun s h => by cases h), by simpa [Open] using q⟩
    | true =>
      rw [q] at h
      simp only [Bool.not_true, Bool.false_eq_true, if_false, List.any_eq_true, Bool.and_eq_true, decide_eq_true_eq] at h
      obtain ⟨s, hs, hlv, hc⟩ := h
      obtain ⟨B, h1, h2, h3⟩ := close_sound hl dl level node left _ hc
      refine ⟨s :: B, by simp; omega, fun u hu => ?_, by simpa using h3⟩
      rcases List.mem_cons.mp hu with rfl | hu
      · exact ⟨pathF_lt hl _ _ _ _ hs, hlv⟩
      · exact h2 u hu
end
-- M9
section
theorem len_flatMap_le {α β : Type} [DecidableEq α] (g : α → List β) : ∀ (L L' : List α), L.Nodup → (∀ x ∈ L, x ∈ L') → (L.flatMap g).length ≤ (L'.flatMap g).length
  | [], _, _, _ => by simp
  | x :: r, L', nd, hs => by
    obtain ⟨h1, h2⟩ := List.nodup_cons.mp nd
    have hx := hs x (.head _)
    have ih := len_flatMap_le g r (L'.erase x) h2 fun y hy => (List.mem_erase_of_ne (fun e : y = x => h1 (e ▸ hy))).mpr (hs y (.tail _ hy))
    have hp := ((List.perm_cons_erase hx).flatMap_right g).length_eq
    rw [hp]
    simp only [List.flatMap_cons, List.length_append]
    omega
theorem len_filterMap_le {α β : Type} [DecidableEq α] (f : α → Option β) : ∀ (L L' : List α), L.Nodup → (∀ x ∈ L, x ∈ L') → (L.filterMap f).length ≤ (L'.filterMap f).length
  | [], _, _, _ => by simp
  | x :: r, L', nd, hs => by
    obtain ⟨h1, h2⟩ := List.nodup_cons.mp nd
    have hx := hs x (.head _)
    have ih := len_filterMap_le f r (L'.erase x) h2 fun y hy => (List.mem_erase_of_ne (fun e : y = x => h1 (e ▸ hy))).mpr (hs y (.tail _ hy))
    have hp := ((List.perm_cons_erase hx).filterMap f).length_eq
    rw [hp]
    simp only [List.filterMap_cons]
    cases f x with
    | none => exact ih
    | some y => simp only [List.length_cons]; omega
theorem len_sub {α : Type} [DecidableEq α] (L L' : List α) (nd : L.Nodup) (hs : ∀ x ∈ L, x ∈ L') : L.length ≤ L'.length := by
  have := len_filterMap_le (fun x => some x) L L' nd hs
  simpa using this
theorem flatMap_pt {α β : Type} (g g' : α → List β) (h : ∀ a, (g a).length ≤ (g' a).length) : ∀ L : List α, (L.flatMap g).length ≤ (L.flatMap g').length
  | [] => by simp
  | x :: r => by
    have ih := flatMap_pt g g' h r
    have := h x
    simp only [List.flatMap_cons, List.length_append]
    omega
theorem mergeAll_mono {k : Int} {L L' R R' : Cuts} (hL : L.Nodup) (sL : ∀ x ∈ L, x ∈ L') (hR : R.Nodup) (sR : ∀ x ∈ R, x ∈ R') : (mergeAll k L R).length ≤ (mergeAll k L' R').length :=
  Nat.le_trans (flatMap_pt _ _ (fun a => len_filterMap_le (merge1 k a) R R' hR sR) L) (len_flatMap_le _ L L' hL sL)
theorem mergeAll_le (k : Int) (R : Cuts) : ∀ L : Cuts, (mergeAll k L R).length ≤ L.length * R.length
  | [] => by simp [mergeAll]
  | x :: r => by
    have ih := mergeAll_le k R r
    have h := mergeRow_le k x R
    unfold mergeAll at ih ⊢
    rw [List.flatMap_cons, List.length_append, List.length_cons, Nat.succ_mul]
    omega
noncomputable def dd : Cuts → Cuts
  | [] => []
  | c :: r => if (dd r).contains c then dd r else c :: dd r
theorem mem_dd : ∀ (l : Cuts) (c : List Int), c ∈ dd l ↔ c ∈ l
  | [], c => by simp [dd]
  | x :: r, c => by
    unfold dd
    split
    · rename_i h
      have hx : x ∈ dd r := by simpa using h
      rw [mem_dd r, List.mem_cons]
      constructor
      · exact .inr
      · rintro (rfl | h)
        · exact (mem_dd r c).mp hx
        · exact h
    · rw [List.mem_cons, List.mem_cons, mem_dd r]
noncomputable def URow (k : Int) (L R : Cuts) (v : Nat) : Cuts := dd (mergeAll k L R) ++ [[(v : Int)]]
-- a row lies in a list of cuts, each once
noncomputable def RI (cuts : List Cuts) (v : Nat) (U : Cuts) : Prop := (cuts.getD v []).Nodup ∧ ∀ c ∈ cuts.getD v [], c ∈ U
theorem getD_of {nds : List Nd} {v : Nat} {p : Int × Int} (q : nds.getD v none = some p) : nds[v]? = some (some p) := by
  rw [List.getD_eq_getElem?_getD] at q
  cases z : nds[v]? with
  | none => rw [z] at q; cases q
  | some w => rw [z] at q; rw [show w = some p from q]
theorem row_ri {nds : List Nd} {k : Int} {most : Nat} {cuts : List Cuts} (h : RowsOk nds k most cuts) (hl : Low nds) (hk : 1 ≤ k) (hpos : ∀ u a b, nds.getD u none = some (a, b) → 1 ≤ (a / 2).toNat ∧ 1 ≤ (b / 2).toNat)
    {v : Nat} (hv : v < cuts.length) {a b : Int} (q : nds.getD v none = some (a, b)) {Ua Ub : Cuts} (ra : RI cuts (a / 2).toNat Ua) (rb : RI cuts (b / 2).toNat Ub) : RI cuts v (URow k Ua Ub v) := by
  have hr := h.at hv
  unfold RowOk at hr
  rw [q] at hr
  obtain ⟨rows', hp, e⟩ := hr
  obtain ⟨_, g1, _, g2⟩ := hl.2 v a b (getD_of q)
  obtain ⟨p1, p2⟩ := hpos _ a b q
  have shape := rows_shape h hl hk hpos
  constructor
  · rw [e]
    unfold nodeCuts
    refine List.nodup_append.mpr ⟨(domFold_nodup rows' [] List.nodup_nil).sublist (List.take_sublist _ _), by simp, fun x hx y hy exy => ?_⟩
    rw [List.mem_singleton.mp hy] at exy
    subst exy
    rcases domFold_mem rows' [] _ (List.mem_of_mem_take hx) with hx | hx
    · cases hx
    · obtain ⟨x, hx, y, hy, _, exy⟩ := mem_mergeAll.mp (hp.mem_iff.mp hx)
      have : (v : Int) ∈ mergeL x y := by rw [← exy]; simp
      rcases (mergeL_mem _ _ _).mp this with hz | hz
      · have := ((shape _ p1 (by omega) x hx).2.2.1 _ hz).2; omega
      · have := ((shape _ p2 (by omega) y hy).2.2.1 _ hz).2; omega
  · intro c hc
    rw [e] at hc
    unfold URow
    rcases mem_nodeCuts hp hc with rfl | hc
    · simp
    · obtain ⟨x, hx, y, hy, hlen, rfl⟩ := mem_mergeAll.mp hc
      exact List.mem_append_left _ ((mem_dd _ _).mpr (mem_mergeAll.mpr ⟨x, ra.2 x hx, y, rb.2 y hy, hlen, rfl⟩))
theorem input_ri {nds : List Nd} {k : Int} {most : Nat} {cuts : List Cuts} (h : RowsOk nds k most cuts) {v : Nat} (h1 : 1 ≤ v) (hv : v < cuts.length) (q : nds.getD v none = none) : RI cuts v [[(v : Int)]] := by
  have hr := h.at hv
  unfold RowOk at hr
  rw [q] at hr
  dsimp only at hr
  unfold RI
  rw [hr, if_neg (by omega)]
  exact ⟨by simp, fun c hc => hc⟩

-- the counts
noncomputable def mergeF : Nat → List Int → List Int → List Int
  | 0, xs, ys => xs ++ ys
  | _ + 1, [], ys => ys
  | _ + 1, x :: xs, [] => x :: xs
  | f + 1, x :: xs, y :: ys => if x < y then x :: mergeF f xs (y :: ys) else if y < x then y :: mergeF f (x :: xs) ys else x :: mergeF f xs ys
theorem mergeF_eq : ∀ (f : Nat) (xs ys : List Int), xs.length + ys.length ≤ f → mergeF f xs ys = mergeL xs ys
  | 0, xs, ys, h => by
    have h1 : xs = [] := List.length_eq_zero_iff.mp (by omega)
    have h2 : ys = [] := List.length_eq_zero_iff.mp (by omega)
    subst h1 h2
    simp [mergeF, mergeL]
  | f + 1, [], ys, h => by simp [mergeF, mergeL]
  | f + 1, x :: xs, [], h => by simp [mergeF, mergeL]
  | f + 1, x :: xs, y :: ys, h => by
    simp only [List.length_cons] at h
    unfold mergeF mergeL
    rw [mergeF_eq f xs (y :: ys) (by simp; omega), mergeF_eq f (x :: xs) ys (by simp; omega), mergeF_eq f xs ys (by omega)]
noncomputable def merge1F (k : Int) (a b : List Int) : Option (List Int) := if ((mergeF (a.length + b.length) a b).length : Int) > k then none else some (mergeF (a.length + b.length) a b)
noncomputable def mergeAllF (k : Int) (L R : Cuts) : Cuts := L.flatMap fun a => R.filterMap (merge1F k a)
theorem mergeAllF_eq (k : Int) (L R : Cuts) : mergeAllF k L R = mergeAll k L R := by
  unfold mergeAllF mergeAll mergeRow
  congr 1
  funext a
  congr 1
  funext b
  unfold merge1F merge1
  rw [mergeF_eq _ a b (Nat.le_refl _)]
noncomputable def URowF (k : Int) (L R : Cuts) (v : Nat) : Cuts := dd (mergeAllF k L R) ++ [[(v : Int)]]
theorem URowF_eq (k : Int) (L R : Cuts) (v : Nat) : URowF k L R v = URow k L R v := by unfold URowF URow; rw [mergeAllF_eq]
noncomputable def us0 (n : Nat) (k : Int) : List Cuts :=
  let b := (List.range (n + 1)).map fun (i : Nat) => [[(i : Int)]]
  let b := b ++ [URowF k (b.getD 1 []) (b.getD 2 []) (n + 1)]
  b ++ [URowF k (b.getD 3 []) (b.getD (n + 1) []) (n + 2)]
noncomputable def prs (N : Nat) : List (Nat × Nat) := (List.range N).flatMap fun y => (List.range y).filterMap fun x => if 1 ≤ x then some (x, y) else none
theorem mem_prs {N x y : Nat} (h1 : 1 ≤ x) (h2 : x < y) (h3 : y < N) : (x, y) ∈ prs N := by
  unfold prs
  rw [List.mem_flatMap]
  exact ⟨y, List.mem_range.mpr h3, List.mem_filterMap.mpr ⟨x, List.mem_range.mpr h2, by rw [if_pos h1]⟩⟩
noncomputable def lenOk (k : Int) (us : List Cuts) (p : Nat × Nat) (m : Nat) : Bool := decide ((mergeAllF k (us.getD p.1 []) (us.getD p.2 [])).length < 64) && decide ((URowF k (us.getD p.1 []) (us.getD p.2 []) us.length).length ≤ m)
noncomputable def bnd (n : Nat) (k : Int) : Bool := (us0 n k).all (fun u => decide (u.length ≤ 5)) && (prs (n + 3)).all fun p => lenOk k (us0 n k) p 5 &&
  (prs (n + 4)).all fun q => lenOk k (us0 n k ++ [URowF k ((us0 n k).getD p.1 []) ((us0 n k).getD p.2 []) (n + 3)]) q 8
theorem bnd32 : bnd 3 2 = true := by decide +kernel
theorem bnd42 : bnd 4 2 = true := by decide +kernel
theorem bnd43 : bnd 4 3 = true := by decide +kernel
theorem bnd52 : bnd 5 2 = true := by decide +kernel
theorem bnd53 : bnd 5 3 = true := by decide +kernel
end
-- M10
section
noncomputable def RIs (cuts : List Cuts) (us : List Cuts) : Prop := ∀ v, 1 ≤ v → v < us.length → v < cuts.length → RI cuts v (us.getD v [])
theorem RIs.snoc {cuts us : List Cuts} {U : Cuts} (h : RIs cuts us) (hU : us.length < cuts.length → RI cuts us.length U) : RIs cuts (us ++ [U]) := by
  intro v h1 hv hc
  rcases Nat.lt_or_ge v us.length with q | q
  · rw [List.getD_eq_getElem?_getD, List.getElem?_append_left q, ← List.getD_eq_getElem?_getD]; exact h v h1 q hc
  · have : v = us.length := by simp at hv; omega
    subst this
    rw [List.getD_eq_getElem?_getD, List.getElem?_append_right (Nat.le_refl _)]
    simpa using hU hc
theorem us0_len (n : Nat) (k : Int) : (us0 n k).length = n + 3 := by simp [us0]
theorem base_none (n : Nat) : (gr0 n).nds = List.replicate (n + 1) none := by simp [gr0, List.replicate_succ]
theorem base_lt {n i : Nat} (h : i < n + 3) {ext : List Nd} : ((gr2 n).nds ++ ext).getD i none = (gr2 n).nds.getD i none := by
  rw [List.getD_eq_getElem?_getD, List.getElem?_append_left (by rw [gr2_len]; omega), ← List.getD_eq_getElem?_getD]
theorem base_ge {n i : Nat} {ext : List Nd} : ((gr2 n).nds ++ ext).getD (n + 3 + i) none = ext.getD i none := by
  rw [List.getD_eq_getElem?_getD, List.getElem?_append_right (by rw [gr2_len]; omega), gr2_len, Nat.add_sub_cancel_left, ← List.getD_eq_getElem?_getD]
theorem base_A {n : Nat} : (gr2 n).nds.getD (n + 1) none = some (2, 4) := by
  unfold gr2 gr1
  rw [List.getD_eq_getElem?_getD, List.append_assoc, List.getElem?_append_right (by rw [gr0_len]; omega), gr0_len]
  simp
theorem base_B {n : Nat} : (gr2 n).nds.getD (n + 2) none = some (6, 2 * ((n : Int) + 1)) := by
  unfold gr2
  rw [List.getD_eq_getElem?_getD, List.getElem?_append_right (by rw [gr1_len]; omega), gr1_len]
  simp
theorem base_in {n i : Nat} (h : i ≤ n) : (gr2 n).nds.getD i none = none := by
  unfold gr2 gr1
  rw [List.getD_eq_getElem?_getD, List.append_assoc, List.getElem?_append_left (by rw [gr0_len]; omega), base_none, List.getElem?_replicate]
  split <;> rfl
theorem turns_pos {n m g pool} (T : Turns n m g pool) : ∀ u a b, g.nds.getD u none = some (a, b) → 1 ≤ (a / 2).toNat ∧ 1 ≤ (b / 2).toNat := by
  intro u a b q
  obtain ⟨h1, h2, h3⟩ := T.ok.apart u a b (getD_of q)
  omega
theorem us0_ris {nds : List Nd} {n : Nat} {k : Int} {most : Nat} {cuts : List Cuts} {ext : List Nd} (hn : 3 ≤ n) (he : nds = (gr2 n).nds ++ ext) (h : RowsOk nds k most cuts) (hl : Low nds) (hk : 1 ≤ k)
    (hpos : ∀ u a b, nds.getD u none = some (a, b) → 1 ≤ (a / 2).toNat ∧ 1 ≤ (b / 2).toNat) : RIs cuts (us0 n k) := by
  have hb : RIs cuts ((List.range (n + 1)).map fun (i : Nat) => [[(i : Int)]]) := by
    intro v h1 hv hc
    have hv' : v < n + 1 := by simpa using hv
    rw [List.getD_eq_getElem?_getD]
    simp only [List.getElem?_map, List.getElem?_range hv', Option.map_some, Option.getD_some]
    exact input_ri h h1 hc (by rw [he, base_lt (by omega), base_in (by omega)])
  have hA : RIs cuts ((List.range (n + 1)).map (fun (i : Nat) => [[(i : Int)]]) ++ [URowF k (((List.range (n + 1)).map fun (i : Nat) => [[(i : Int)]]).getD 1 []) (((List.range (n + 1)).map fun (i : Nat) => [[(i : Int)]]).getD 2 []) (n + 1)]) := by
    refine hb.snoc fun hc => ?_
    have hlen : ((List.range (n + 1)).map fun (i : Nat) => [[(i : Int)]]).length = n + 1 := by simp
    rw [hlen] at hc ⊢
    rw [URowF_eq]
    exact row_ri h hl hk hpos hc (a := 2) (b := 4) (by rw [he, base_lt (by omega), base_A]) (hb 1 (by decide) (by rw [hlen]; omega) (by omega)) (hb 2 (by decide) (by rw [hlen]; omega) (by omega))
  unfold us0
  dsimp only
  refine hA.snoc fun hc => ?_
  have hlen : ((List.range (n + 1)).map (fun (i : Nat) => [[(i : Int)]]) ++ [URowF k (((List.range (n + 1)).map fun (i : Nat) => [[(i : Int)]]).getD 1 []) (((List.range (n + 1)).map fun (i : Nat) => [[(i : Int)]]).getD 2 []) (n + 1)]).length = n + 2 := by simp
  rw [hlen] at hc ⊢
  rw [URowF_eq]
  have e2 : (2 * ((n : Int) + 1) / 2).toNat = n + 1 := by omega
  refine row_ri h hl hk hpos hc (a := 6) (b := 2 * ((n : Int) + 1)) (by rw [he, base_lt (by omega), base_B]) (hA 3 (by decide) (by rw [hlen]; omega) (by omega)) ?_
  rw [e2]
  exact hA (n + 1) (by omega) (by rw [hlen]; omega) (by omega)

theorem smallAt_of {nds : List Nd} {k : Int} {most : Nat} {cuts us : List Cuts} (h : RowsOk nds k most cuts) (hl : Low nds) (hk : 1 ≤ k) (hk3 : k ≤ 3) (hpos : ∀ u a b, nds.getD u none = some (a, b) → 1 ≤ (a / 2).toNat ∧ 1 ≤ (b / 2).toNat)
    (R : RIs cuts us) (hu : ∀ u ∈ us, u.length ≤ 8) {x y : Nat} (hx : 1 ≤ x) (hy : 1 ≤ y) (hxu : x < us.length) (hyu : y < us.length) (hxc : x < cuts.length) (hyc : y < cuts.length) (hm : (mergeAll k (us.getD x []) (us.getD y [])).length < 64) : SmallAt k (cuts.getD x []) (cuts.getD y []) := by
  have rx := R x hx hxu hxc
  have ry := R y hy hyu hyc
  have lx := len_sub _ _ rx.1 rx.2
  have ly := len_sub _ _ ry.1 ry.2
  have ux : (us.getD x []).length ≤ 8 := hu _ (by rw [List.getD_eq_getElem?_getD, List.getElem?_eq_getElem hxu]; exact List.getElem_mem _)
  have uy : (us.getD y []).length ≤ 8 := hu _ (by rw [List.getD_eq_getElem?_getD, List.getElem?_eq_getElem hyu]; exact List.getElem_mem _)
  have sx := rows_shape h hl hk hpos x hx hxc
  have sy := rows_shape h hl hk hpos y hy hyc
  refine ⟨by omega, by omega, fun r hr => ?_, fun r hr => ?_, ?_⟩
  · have := (sx r hr).2.1; omega
  · have := (sy r hr).2.1; omega
  · have := mergeAll_mono (k := k) rx.1 rx.2 ry.1 ry.2; omega
end
-- M11
section
theorem bnd_of {n k : Nat} (hn : 3 ≤ n) (hn5 : n ≤ 5) (hk : k = 2 ∨ k = 3 ∧ 4 ≤ n) : bnd n (k : Int) = true := by
  have : n = 3 ∨ n = 4 ∨ n = 5 := by omega
  rcases this with rfl | rfl | rfl <;> rcases hk with rfl | ⟨rfl, h⟩
  · exact bnd32
  · omega
  · exact bnd42
  · exact bnd43
  · exact bnd52
  · exact bnd53
structure Bnd (n : Nat) (k : Int) : Prop where
  u0 : ∀ u ∈ us0 n k, u.length ≤ 5
  c : ∀ x y, 1 ≤ x → x < y → y < n + 3 → (mergeAll k ((us0 n k).getD x []) ((us0 n k).getD y [])).length < 64 ∧ (URow k ((us0 n k).getD x []) ((us0 n k).getD y []) (n + 3)).length ≤ 5 ∧
    ∀ z w, 1 ≤ z → z < w → w < n + 4 → (mergeAll k ((us0 n k ++ [URow k ((us0 n k).getD x []) ((us0 n k).getD y []) (n + 3)]).getD z []) ((us0 n k ++ [URow k ((us0 n k).getD x []) ((us0 n k).getD y []) (n + 3)]).getD w [])).length < 64 ∧
      (URow k ((us0 n k ++ [URow k ((us0 n k).getD x []) ((us0 n k).getD y []) (n + 3)]).getD z []) ((us0 n k ++ [URow k ((us0 n k).getD x []) ((us0 n k).getD y []) (n + 3)]).getD w []) (n + 4)).length ≤ 8
theorem bnd_spec {n : Nat} {k : Int} (h : bnd n k = true) : Bnd n k := by
  unfold bnd at h
  rw [Bool.and_eq_true, List.all_eq_true, List.all_eq_true] at h
  obtain ⟨h1, h2⟩ := h
  refine ⟨fun u hu => by simpa using h1 u hu, fun x y hx hxy hy => ?_⟩
  have h3 := h2 (x, y) (mem_prs hx hxy hy)
  rw [Bool.and_eq_true, List.all_eq_true] at h3
  obtain ⟨h4, h5⟩ := h3
  unfold lenOk at h4
  rw [Bool.and_eq_true, decide_eq_true_eq, decide_eq_true_eq, mergeAllF_eq, URowF_eq, us0_len] at h4
  refine ⟨h4.1, h4.2, fun z w hz hzw hw => ?_⟩
  have h6 := h5 (z, w) (mem_prs hz hzw hw)
  unfold lenOk at h6
  rw [Bool.and_eq_true, decide_eq_true_eq, decide_eq_true_eq, mergeAllF_eq, URowF_eq, URowF_eq, List.length_append, us0_len] at h6
  exact h6
theorem getD_snoc_lt {us : List Cuts} {U : Cuts} {i : Nat} (h : i < us.length) : (us ++ [U]).getD i [] = us.getD i [] := by
  rw [List.getD_eq_getElem?_getD, List.getElem?_append_left h, ← List.getD_eq_getElem?_getD]
theorem getD_mem {us : List Cuts} {i : Nat} (h : i < us.length) : us.getD i [] ∈ us := by
  rw [List.getD_eq_getElem?_getD, List.getElem?_eq_getElem h]; exact List.getElem_mem _
theorem small_turns {n k m : Nat} {g : Gr} {pool : List Int} (hn : 3 ≤ n) (hn5 : n ≤ 5) (hk : k = 2 ∨ k = 3 ∧ 4 ≤ n) (hm : m ≤ 3) (T : Turns n m g pool) : Small g.nds k 200 := by
  have B := bnd_spec (bnd_of hn hn5 hk)
  have hk1 : (1 : Int) ≤ k := by omega
  have hk3 : (k : Int) ≤ 3 := by omega
  have hpos := turns_pos T
  have hl := T.ok.low
  obtain ⟨ext, he, hel, hex⟩ := T.ext
  intro cuts h i a b hi hac hbc
  have kids : ∀ (i : Nat) (a b : Int), g.nds[i]? = some (some (a, b)) → 1 ≤ (a / 2).toNat ∧ (a / 2).toNat < (b / 2).toNat ∧ (b / 2).toNat < i := by
    intro i a b hi
    obtain ⟨h1, h2, h3⟩ := T.ok.apart i a b hi
    obtain ⟨_, _, _, h4⟩ := hl.2 i a b hi
    omega
  have R0 : RIs cuts (us0 n k) := us0_ris hn he h hl hk1 hpos
  have l0 := us0_len n (k : Int)
  obtain ⟨x1, xy, yi⟩ := kids i a b hi
  have hil := (List.getElem?_eq_some_iff.mp hi).1
  have hlen : g.nds.length = n + 3 + ext.length := by rw [he, List.length_append, gr2_len]
  by_cases c0 : (b / 2).toNat < n + 3
  · exact smallAt_of h hl hk1 hk3 hpos R0 (fun u hu => by have := B.u0 u hu; omega) x1 (by omega) (by omega) (by omega) hac hbc (B.c _ _ x1 xy c0).1
  · -- the first drawn node lies below
    have e0 : 0 < ext.length := by omega
    obtain ⟨⟨p, q⟩, hpq⟩ : ∃ pq, ext.getD 0 none = some pq := by
      rw [List.getD_eq_getElem?_getD, List.getElem?_eq_getElem e0]
      have := hex _ (List.getElem_mem e0)
      cases z : ext[0] with
      | none => exact absurd z this
      | some w => exact ⟨w, by simp [z]⟩
    have hC : g.nds.getD (n + 3) none = some (p, q) := by rw [he]; exact (base_ge (n := n) (i := 0)).trans hpq
    obtain ⟨p1, pq', qi⟩ := kids _ p q (getD_of hC)
    have BC := B.c _ _ p1 pq' qi
    have R1 : RIs cuts (us0 n k ++ [URow k ((us0 n k).getD (p / 2).toNat []) ((us0 n k).getD (q / 2).toNat []) (n + 3)]) := by
      refine R0.snoc fun hc => ?_
      rw [l0] at hc ⊢
      exact row_ri h hl hk1 hpos hc hC (R0 _ p1 (by omega) (by omega)) (R0 _ (by omega) (by omega) (by omega))
    have hu1 : ∀ u ∈ us0 n k ++ [URow k ((us0 n k).getD (p / 2).toNat []) ((us0 n k).getD (q / 2).toNat []) (n + 3)], u.length ≤ 5 := by
      intro u hu
      rcases List.mem_append.mp hu with hu | hu
      · exact B.u0 u hu
      · rw [List.mem_singleton.mp hu]; exact BC.2.1
    have l1 : (us0 n k ++ [URow k ((us0 n k).getD (p / 2).toNat []) ((us0 n k).getD (q / 2).toNat []) (n + 3)]).length = n + 4 := by rw [List.length_append, l0]; rfl
    have B2 := BC.2.2
    generalize us0 n k ++ [URow k ((us0 n k).getD (p / 2).toNat []) ((us0 n k).getD (q / 2).toNat []) (n + 3)] = us1 at *
    by_cases c1 : (b / 2).toNat < n + 4
    · exact smallAt_of h hl hk1 hk3 hpos R1 (fun u hu => by have := hu1 u hu; omega) x1 (by omega) (by omega) (by omega) hac hbc (B2 _ _ x1 xy c1).1
    · have e1 : 1 < ext.length := by omega
      obtain ⟨⟨r, s⟩, hrs⟩ : ∃ rs, ext.getD 1 none = some rs := by
        rw [List.getD_eq_getElem?_getD, List.getElem?_eq_getElem e1]
        have := hex _ (List.getElem_mem e1)
        cases z : ext[1] with
        | none => exact absurd z this
        | some w => exact ⟨w, by simp [z]⟩
      have hD : g.nds.getD (n + 4) none = some (r, s) := by rw [he]; exact (base_ge (n := n) (i := 1)).trans hrs
      obtain ⟨r1, rs', si⟩ := kids _ r s (getD_of hD)
      have BD := B2 _ _ r1 rs' si
      have R2 : RIs cuts (us1 ++ [URow k (us1.getD (r / 2).toNat []) (us1.getD (s / 2).toNat []) (n + 4)]) := by
        refine R1.snoc fun hc => ?_
        rw [l1] at hc ⊢
        exact row_ri h hl hk1 hpos hc hD (R1 _ r1 (by omega) (by omega)) (R1 _ (by omega) (by omega) (by omega))
      have hu2 : ∀ u ∈ us1 ++ [URow k (us1.getD (r / 2).toNat []) (us1.getD (s / 2).toNat []) (n + 4)], u.length ≤ 8 := by
        intro u hu
        rcases List.mem_append.mp hu with hu | hu
        · have := hu1 u hu; omega
        · rw [List.mem_singleton.mp hu]; exact BD.2
      have l2 : (us1 ++ [URow k (us1.getD (r / 2).toNat []) (us1.getD (s / 2).toNat []) (n + 4)]).length = n + 5 := by rw [List.length_append, l1]; rfl
      refine smallAt_of h hl hk1 hk3 hpos R2 hu2 x1 (by omega) (by omega) (by omega) hac hbc ?_
      have m1 := mergeAll_le k ((us1 ++ [URow k (us1.getD (r / 2).toNat []) (us1.getD (s / 2).toNat []) (n + 4)]).getD (b / 2).toNat []) ((us1 ++ [URow k (us1.getD (r / 2).toNat []) (us1.getD (s / 2).toNat []) (n + 4)]).getD (a / 2).toNat [])
      have m2 : ((us1 ++ [URow k (us1.getD (r / 2).toNat []) (us1.getD (s / 2).toNat []) (n + 4)]).getD (a / 2).toNat []).length ≤ 5 := by
        rw [getD_snoc_lt (by omega)]
        exact hu1 _ (getD_mem (by omega))
      have m3 : ((us1 ++ [URow k (us1.getD (r / 2).toNat []) (us1.getD (s / 2).toNat []) (n + 4)]).getD (b / 2).toNat []).length ≤ 8 := hu2 _ (getD_mem (by omega))
      have m4 := Nat.mul_le_mul m2 m3
      omega
end
-- M12
section
theorem Open_self {nds : List Nd} (hl : Low nds) {B : List Int} {v : Nat} (h1 : 1 ≤ v) (h : (v : Int) ∈ B) : Open nds B v = false := by
  obtain ⟨w, rfl⟩ : ∃ w, v = w + 1 := ⟨v - 1, by omega⟩
  rw [Open_succ nds B w hl]
  have : B.contains ((w + 1 : Nat) : Int) = true := by simpa using h
  rw [this]; rfl
theorem Open_kids {nds : List Nd} (hl : Low nds) {B : List Int} {v : Nat} {a b : Int} (q : nds.getD v none = some (a, b)) (ha : Open nds B (a / 2).toNat = false) (hb : Open nds B (b / 2).toNat = false) : Open nds B v = false := by
  obtain ⟨_, g1, _, g2⟩ := hl.2 v a b (getD_of q)
  obtain ⟨w, rfl⟩ : ∃ w, v = w + 1 := ⟨v - 1, by omega⟩
  rw [Open_succ nds B w hl, q]
  simp [ha, hb]
-- a row has a cut that is no single node itself
theorem cut_exists {nds : List Nd} {k : Int} {most : Nat} {cuts : List Cuts} (h : RowsOk nds k most cuts) (hl : Low nds) (hs : Small nds k most) (hm : 64 ≤ most) (hk : 2 ≤ k) (hpos : ∀ u a b, nds.getD u none = some (a, b) → 1 ≤ (a / 2).toNat ∧ 1 ≤ (b / 2).toNat)
    {v : Nat} (hv : v < cuts.length) {a b : Int} (q : nds.getD v none = some (a, b)) : ∃ c ∈ cuts.getD v [], c ≠ [(v : Int)] ∧ Sub c [((a / 2).toNat : Int), ((b / 2).toNat : Int)] := by
  obtain ⟨_, g1, _, g2⟩ := hl.2 v a b (getD_of q)
  obtain ⟨p1, p2⟩ := hpos v a b q
  obtain ⟨c, hc, hsub⟩ := complete h hl hs hm [((a / 2).toNat : Int), ((b / 2).toNat : Int)] (by simpa using hk) v (by omega) hv (hpos v) hpos (Open_kids hl q (Open_self hl p1 (by simp)) (Open_self hl p2 (by simp)))
  refine ⟨c, hc, fun e => ?_, hsub⟩
  have := hsub (v : Int) (by rw [e]; simp)
  simp at this
  omega
theorem fit_of {nds : List Nd} {k : Int} {cuts : List Cuts} (h : RowsOk nds k 200 cuts) (hl : Low nds) (hs : Small nds k 200) (hk : 2 ≤ k) (hk3 : k ≤ 3) (hpos : ∀ u a b, nds.getD u none = some (a, b) → 1 ≤ (a / 2).toNat ∧ 1 ≤ (b / 2).toNat) (hlen : cuts.length = nds.length) : RowsFit nds cuts := by
  refine ⟨hlen, fun j p hj => ?_⟩
  obtain ⟨a, b⟩ := p
  have hjl := (List.getElem?_eq_some_iff.mp hj).1
  have q : nds.getD j none = some (a, b) := by rw [List.getD_eq_getElem?_getD, hj]; rfl
  obtain ⟨_, g1, _, g2⟩ := hl.2 j a b hj
  obtain ⟨p1, p2⟩ := hpos j a b q
  have hr := h.at (show j < cuts.length by omega)
  unfold RowOk at hr
  rw [q] at hr
  obtain ⟨rows', hp, e⟩ := hr
  refine ⟨?_, ?_, fun c hc => ?_⟩
  · rw [e]
    unfold nodeCuts
    have := List.length_take_le 200 (domFold [] rows')
    rw [List.length_append, List.length_singleton]; omega
  · obtain ⟨c, hc, hne, _⟩ := cut_exists h hl hs (by decide) hk hpos (show j < cuts.length by omega) q
    exact ⟨c, hc, hne⟩
  · obtain ⟨s1, s2, s3, s4⟩ := rows_shape h hl (by omega) hpos j (by omega) (by omega) c hc
    refine ⟨by omega, fun hne x hx => ?_⟩
    have := s3 x hx
    have := s4 hne x hx
    omega

-- a way that is open under fewer bars stays open where none of its nodes is barred
theorem way_open {nds : List Nd} (hl : Low nds) (barred : List Int) (B : List Nat) (node : Nat) : ∀ f s, s ≤ f → s ≤ node → Open nds barred s = true → s ∉ B → (∀ t ∈ pathF nds (openL nds barred node) f s, t ∉ B) → Open nds (barred ++ B.map fun (u : Nat) => (u : Int)) s = true
  | 0, s, hf, hn, ho, _, _ => by
    have : s = 0 := by omega
    subst this
    rw [Open_zero] at ho; cases ho
  | f + 1, s, hf, hn, ho, hs, ht => by
    cases s with
    | zero => rw [Open_zero] at ho; cases ho
    | succ w =>
      rw [Open_succ nds _ w hl] at ho ⊢
      rw [Bool.and_eq_true] at ho
      obtain ⟨ho1, ho2⟩ := ho
      have hnb : (barred ++ B.map fun (u : Nat) => (u : Int)).contains ((w + 1 : Nat) : Int) = false := by
        have h1 : ((w + 1 : Nat) : Int) ∉ barred := by simpa using ho1
        have h2 : ((w + 1 : Nat) : Int) ∉ B.map fun (u : Nat) => (u : Int) := fun hm => by
          obtain ⟨u, hu, e⟩ := List.mem_map.mp hm
          have : u = w + 1 := by omega
          subst this; exact hs hu
        have : ((w + 1 : Nat) : Int) ∉ barred ++ B.map fun (u : Nat) => (u : Int) := fun hm => (List.mem_append.mp hm).elim h1 h2
        simpa using this
      rw [hnb, Bool.not_false, Bool.true_and]
      cases q : nds.getD (w + 1) none with
      | none => rfl
      | some p =>
        obtain ⟨a, b⟩ := p
        obtain ⟨_, g1, _, g2⟩ := hl.2 _ a b (getD_of q)
        rw [q] at ho2
        dsimp only at ho2 ⊢
        have hpath : pathF nds (openL nds barred node) (f + 1) (w + 1) = (if (openL nds barred node).getD (a / 2).toNat false then (a / 2).toNat else (b / 2).toNat) :: pathF nds (openL nds barred node) f (if (openL nds barred node).getD (a / 2).toNat false then (a / 2).toNat else (b / 2).toNat) := by
          rw [pathF, q]
        rw [hpath] at ht
        rw [openL_get nds barred node _ (by omega)] at ht
        cases hA : Open nds barred (a / 2).toNat with
        | true =>
          rw [hA, if_pos rfl] at ht
          have := way_open hl barred B node f (a / 2).toNat (by omega) (by omega) hA (ht _ (.head _)) fun t h => ht t (.tail _ h)
          rw [this]; rfl
        | false =>
          rw [hA, if_neg Bool.false_ne_true] at ht
          rw [hA, Bool.false_or] at ho2
          have := way_open hl barred B node f (b / 2).toNat (by omega) (by omega) ho2 (ht _ (.head _)) fun t h => ht t (.tail _ h)
          rw [this, Bool.or_true]
-- the law's search finds a closing set where one is
theorem close_complete {nds : List Nd} (hl : Low nds) (dl : List Int) (level : Int) (node : Nat) : ∀ (left : Nat) (barred : List Int) (B : List Nat), B.length ≤ left → (∀ s ∈ B, s < node ∧ dl.getD s 0 < level) → Open nds (barred ++ B.map fun (s : Nat) => (s : Int)) node = false → closeP nds dl level node left barred = true
  | left, barred, B, hlen, hB, hcl => by
    unfold closeP
    cases q : (openL nds barred node).getD node false with
    | false => rfl
    | true =>
      have ho : Open nds barred node = true := q
      have hex : ∃ s ∈ pathF nds (openL nds barred node) node node, s ∈ B := by
        refine Classical.byContradiction fun hno => ?_
        have := way_open hl barred B node node node (Nat.le_refl _) (Nat.le_refl _) ho (fun hm => by have := (hB node hm).1; omega) fun t ht hm => hno ⟨t, ht, hm⟩
        rw [this] at hcl; cases hcl
      obtain ⟨s, hs, hsB⟩ := hex
      cases left with
      | zero =>
        have : B = [] := List.length_eq_zero_iff.mp (by omega)
        subst this; cases hsB
      | succ left =>
        simp only [Bool.not_true, Bool.false_eq_true, if_false, List.any_eq_true, Bool.and_eq_true, decide_eq_true_eq]
        refine ⟨s, hs, (hB s hsB).2, close_complete hl dl level node left (barred ++ [(s : Int)]) (B.erase s) ?_ (fun u hu => hB u (List.mem_of_mem_erase hu)) ?_⟩
        · rw [List.length_erase_of_mem hsB]; omega
        · refine Open_mono hl (fun x hx => ?_) _ hcl
          rcases List.mem_append.mp hx with hx | hx
          · exact List.mem_append_left _ (List.mem_append_left _ hx)
          · obtain ⟨u, hu, rfl⟩ := List.mem_map.mp hx
            by_cases e : u = s
            · subst e; exact List.mem_append_left _ (List.mem_append_right _ (by simp))
            · exact List.mem_append_right _ (List.mem_map_of_mem ((List.mem_erase_of_ne e).mpr hu))
end
-- M13
section
theorem least_nat {P : Nat → Prop} (h : ∃ n, P n) : ∃ n, P n ∧ ∀ j, j < n → ¬ P j := by
  obtain ⟨n, hn⟩ := h
  induction n using Nat.strongRecOn with
  | ind n ih =>
    by_cases q : ∃ j, j < n ∧ P j
    · obtain ⟨j, hj, hp⟩ := q; exact ih j hj hp
    · exact ⟨n, hn, fun j hj hp => q ⟨j, hj, hp⟩⟩
theorem bound_of : ∀ l : List Int, ∃ M : Nat, ∀ s, l.getD s 0 < (M : Int) + 1
  | [] => ⟨0, fun s => by simp⟩
  | x :: r => by
    obtain ⟨M, hM⟩ := bound_of r
    refine ⟨M + x.toNat, fun s => ?_⟩
    cases s with
    | zero => simp; omega
    | succ s => have := hM s; simp at this ⊢; omega
theorem take_getD {l : List Int} {i s : Nat} (h : s < i) : (l.take i).getD s 0 = l.getD s 0 := by
  rw [List.getD_eq_getElem?_getD, List.getD_eq_getElem?_getD, List.getElem?_take_of_lt h]
structure PreLeast (nds : List Nd) (k : Nat) (l : List Int) (i : Nat) : Prop where
  zero : nds.getD i none = none → l.getD i 0 = 0
  some_ : ∀ p, nds.getD i none = some p → 1 ≤ l.getD i 0 ∧ closeP nds (l.take i) (l.getD i 0) i k [] = true ∧ ∀ lv : Int, 1 ≤ lv → lv < l.getD i 0 → closeP nds (l.take i) lv i k [] = false
theorem pre_least {nds : List Nd} (hl : Low nds) {k : Nat} (hk : 2 ≤ k) (hpos : ∀ u a b, nds.getD u none = some (a, b) → 1 ≤ (a / 2).toNat ∧ 1 ≤ (b / 2).toNat) : ∀ m : Nat, ∃ l : List Int, l.length = m ∧ ∀ i < m, PreLeast nds k l i
  | 0 => ⟨[], rfl, fun i h => by omega⟩
  | m + 1 => by
    obtain ⟨l, hlen, hp⟩ := pre_least hl hk hpos m
    have old : ∀ v : Int, ∀ i < m, PreLeast nds k (l ++ [v]) i := by
      intro v i hi
      have e1 : (l ++ [v]).getD i 0 = l.getD i 0 := by rw [List.getD_eq_getElem?_getD, List.getElem?_append_left (by omega), ← List.getD_eq_getElem?_getD]
      have e2 : (l ++ [v]).take i = l.take i := by rw [List.take_append_of_le_length (by omega)]
      exact ⟨fun h => by rw [e1]; exact (hp i hi).zero h, fun p h => by rw [e1, e2]; exact (hp i hi).some_ p h⟩
    have ev : ∀ v : Int, (l ++ [v]).getD m 0 = v := fun v => by rw [List.getD_eq_getElem?_getD, ← hlen]; simp
    have et : ∀ v : Int, (l ++ [v]).take m = l := fun v => by rw [← hlen, List.take_left]
    have fin : ∀ v : Int, PreLeast nds k (l ++ [v]) m → ∃ l : List Int, l.length = m + 1 ∧ ∀ i < m + 1, PreLeast nds k l i := fun v h => ⟨l ++ [v], by simp [hlen], fun i hi => by
      rcases Nat.lt_or_ge i m with q | q
      · exact old v i q
      · have : i = m := by omega
        subst this; exact h⟩
    cases q : nds.getD m none with
    | none => exact fin 0 ⟨fun _ => ev 0, fun p h => by rw [q] at h; cases h⟩
    | some p =>
      obtain ⟨a, b⟩ := p
      obtain ⟨_, g1, _, g2⟩ := hl.2 m a b (getD_of q)
      obtain ⟨p1, p2⟩ := hpos m a b q
      obtain ⟨M, hM⟩ := bound_of l
      obtain ⟨n, hn, hmin⟩ := least_nat (P := fun n => closeP nds l ((n : Int) + 1) m k [] = true) ⟨M, by
        refine close_complete hl l _ m k [] [(a / 2).toNat, (b / 2).toNat] hk (fun s hs => ⟨?_, hM s⟩) (Open_kids hl q (Open_self hl p1 (by simp)) (Open_self hl p2 (by simp)))
        rcases List.mem_cons.mp hs with rfl | hs
        · exact g1
        · rw [List.mem_singleton.mp hs]; exact g2⟩
      refine fin ((n : Int) + 1) ⟨fun h => (by rw [q] at h; cases h), fun p _ => ?_⟩
      rw [ev, et]
      refine ⟨by omega, hn, fun lv h1 h2 => ?_⟩
      have := hmin (lv - 1).toNat (by omega)
      rw [show (((lv - 1).toNat : Nat) : Int) + 1 = lv by omega] at this
      simpa using this
theorem least_exists {nds : List Nd} (hl : Low nds) {k : Nat} (hk : 2 ≤ k) (hpos : ∀ u a b, nds.getD u none = some (a, b) → 1 ≤ (a / 2).toNat ∧ 1 ≤ (b / 2).toNat) : ∃ least, IsLeast nds k least := by
  obtain ⟨l, hlen, hp⟩ := pre_least hl hk hpos nds.length
  have ins : ∀ i p, nds.getD i none = some p → i < nds.length := fun i p q => (List.getElem?_eq_some_iff.mp (getD_of q)).1
  exact ⟨l, hlen, fun i q hi => (hp i hi).zero q, fun i p q => ((hp i (ins i p q)).some_ p q).1, fun i p q => ((hp i (ins i p q)).some_ p q).2.1, fun i p q => ((hp i (ins i p q)).some_ p q).2.2⟩
theorem depth_exists (dl : List Int) : ∀ c : List Int, c ≠ [] → ∃ x ∈ c, ∀ y ∈ c, dl.getD y.toNat 0 ≤ dl.getD x.toNat 0
  | [], h => absurd rfl h
  | [x], _ => ⟨x, .head _, fun y hy => by rw [List.mem_singleton.mp hy]; exact Int.le_refl _⟩
  | x :: z :: r, _ => by
    obtain ⟨w, hw, hm⟩ := depth_exists dl (z :: r) (by simp)
    by_cases q : dl.getD w.toNat 0 ≤ dl.getD x.toNat 0
    · refine ⟨x, .head _, fun y hy => ?_⟩
      rcases List.mem_cons.mp hy with rfl | hy
      · exact Int.le_refl _
      · have := hm y hy; omega
    · refine ⟨w, .tail _ hw, fun y hy => ?_⟩
      rcases List.mem_cons.mp hy with rfl | hy
      · omega
      · exact hm y hy
theorem IsLeast.nonneg {nds : List Nd} {k : Nat} {least : List Int} (h : IsLeast nds k least) (i : Nat) (hi : i < nds.length) : 0 ≤ least.getD i 0 := by
  cases q : nds.getD i none with
  | none => rw [h.zero i q hi]; exact Int.le_refl _
  | some p => have := h.one i p q; omega
theorem cast_back : ∀ c : List Int, (∀ x ∈ c, 1 ≤ x) → (c.map Int.toNat).map (fun (s : Nat) => (s : Int)) = c
  | [], _ => rfl
  | x :: r, h => by
    have h1 := h x (.head _)
    rw [List.map_cons, List.map_cons, cast_back r fun y hy => h y (.tail _ hy), Int.toNat_of_nonneg (by omega)]

section
variable {nds : List Nd} {k : Nat} {least dl : List Int} {cuts : List Cuts} {ch : List (Option (List Int))}
theorem depth_least (hl : Low nds) (hs : Small nds k 200) (hk : 2 ≤ k) (hpos : ∀ u a b, nds.getD u none = some (a, b) → 1 ≤ (a / 2).toNat ∧ 1 ≤ (b / 2).toNat) (hL : IsLeast nds k least) (h : RowsOk nds k 200 cuts) (hc : cuts.length = nds.length)
    (hn : ∀ j < nds.length, NodeOk nds cuts dl ch j) : ∀ i, i < nds.length → dl.getD i 0 = least.getD i 0 := by
  intro i
  induction i using Nat.strongRecOn with
  | ind i ih =>
    intro hi
    have hnode := hn i hi
    unfold NodeOk at hnode
    cases q : nds.getD i none with
    | none =>
      rw [q] at hnode
      rw [hnode.2, hL.zero i q hi]
    | some p =>
      obtain ⟨a, b⟩ := p
      rw [q] at hnode
      obtain ⟨c, hcm, hne, _, hdep, hmin⟩ := hnode
      obtain ⟨_, g1, _, g2⟩ := hl.2 i a b (getD_of q)
      obtain ⟨p1, p2⟩ := hpos i a b q
      have shape := rows_shape h hl (show (1 : Int) ≤ k by omega) hpos i (by omega) (by omega)
      obtain ⟨s1, s2, s3, s4⟩ := shape c hcm
      have hcl := rows_close h hl i (by omega) c hcm
      have hcne : c ≠ [] := fun e => by rw [e] at s1; simp at s1
      obtain ⟨x, hx, hD, hmx⟩ := hdep.2 hcne
      have eqx : ∀ y ∈ c, dl.getD y.toNat 0 = least.getD y.toNat 0 := fun y hy => ih y.toNat (by have := s4 hne y hy; have := s3 y hy; omega) (by have := s4 hne y hy; have := s3 y hy; omega)
      have hle : least.getD i 0 ≤ dl.getD i 0 := by
        refine Int.not_lt.mp fun hlt => ?_
        have h0 := hL.nonneg x.toNat (by have := s4 hne x hx; have := s3 x hx; omega)
        have hfalse := hL.below i _ q (dl.getD i 0) (by rw [hD, eqx x hx]; omega) hlt
        have htrue : closeP nds (least.take i) (dl.getD i 0) i k [] = true := by
          refine close_complete hl _ _ i k [] (c.map Int.toNat) (by rw [List.length_map]; omega) (fun s hs => ?_) ?_
          · obtain ⟨y, hy, rfl⟩ := List.mem_map.mp hs
            have hyi := s4 hne y hy
            have hy1 := s3 y hy
            refine ⟨by omega, ?_⟩
            rw [take_getD (by omega), ← eqx y hy]
            have := hmx y hy
            omega
          · rw [List.nil_append, cast_back c fun y hy => (s3 y hy).1]; exact hcl
        rw [htrue] at hfalse; cases hfalse
      have hge : dl.getD i 0 ≤ least.getD i 0 := by
        obtain ⟨B, hB1, hB2, hB3⟩ := close_sound hl _ _ i k [] (hL.found i _ q)
        rw [List.nil_append] at hB3
        obtain ⟨c', hc', hsub⟩ := complete h hl hs (by decide) (B.map fun (s : Nat) => (s : Int)) (by rw [List.length_map]; omega) i (by omega) (by omega) (hpos i) hpos hB3
        have hne' : c' ≠ [(i : Int)] := fun e => by
          obtain ⟨s, hsB, e2⟩ := List.mem_map.mp (hsub (i : Int) (by rw [e]; simp))
          have := (hB2 s hsB).1
          omega
        have t1 := (shape c' hc').1
        obtain ⟨y, hy, hmy⟩ := depth_exists dl c' (fun e => by rw [e] at t1; simp at t1)
        have hmn := hmin c' hc' hne' (1 + dl.getD y.toNat 0) ⟨fun e => by rw [e] at t1; simp at t1, fun _ => ⟨y, hy, rfl, hmy⟩⟩
        obtain ⟨s, hsB, e2⟩ := List.mem_map.mp (hsub y hy)
        obtain ⟨hsi, hsl⟩ := hB2 s hsB
        have : y.toNat = s := by omega
        rw [this, ih s hsi (by omega)] at hmn
        rw [take_getD hsi] at hsl
        omega
      omega
theorem cover_ok (hl : Low nds) (hk : 2 ≤ k) (hpos : ∀ u a b, nds.getD u none = some (a, b) → 1 ≤ (a / 2).toNat ∧ 1 ≤ (b / 2).toNat) (h : RowsOk nds k 200 cuts) (hc : cuts.length = nds.length) (h1 : ch.length = nds.length) (h2 : dl.length = nds.length)
    (hn : ∀ j < nds.length, NodeOk nds cuts dl ch j) : CoverOk nds k ch dl := by
  refine ⟨h1, h2, fun i hi q => ?_, fun i p q => ?_⟩
  · have := hn i hi
    unfold NodeOk at this
    rw [q] at this
    exact this
  · have hi := (List.getElem?_eq_some_iff.mp (getD_of q)).1
    have := hn i hi
    unfold NodeOk at this
    rw [q] at this
    obtain ⟨c, hcm, hne, hch, hdep, _⟩ := this
    obtain ⟨a, b⟩ := p
    obtain ⟨_, g1, _, g2⟩ := hl.2 i a b (getD_of q)
    obtain ⟨p1, p2⟩ := hpos i a b q
    obtain ⟨s1, s2, s3, s4⟩ := rows_shape h hl (show (1 : Int) ≤ k by omega) hpos i (by omega) (by omega) c hcm
    exact ⟨c, hch, s1, by omega, rows_asc h hl i (by omega) c hcm, fun x hx => (s3 x hx).1, s4 hne, rows_close h hl i (by omega) c hcm, hdep⟩
end
theorem plain_turns : ∀ n k m g pool, 3 ≤ n → n ≤ 5 → (k = 2 ∨ k = 3 ∧ 4 ≤ n) → m ≤ 3 → Turns n m g pool → Plain g.nds k := by
  intro n k m g pool hn hn5 hk hm T
  have hl := T.ok.low
  have hpos := turns_pos T
  have hs := small_turns hn hn5 hk hm T
  have hk2 : 2 ≤ k := by omega
  obtain ⟨least, hL⟩ := least_exists hl hk2 hpos
  refine ⟨hs, fun cuts h hc => fit_of h hl hs (by omega) (by omega) hpos hc, least, hL, fun cuts ch dl h hc h1 h2 hn' => ⟨?_, cover_ok hl hk2 hpos h hc h1 h2 hn'⟩⟩
  refine List.ext_getElem (by rw [h2, hL.len]) fun i hi1 hi2 => ?_
  have := depth_least hl hs hk2 hpos hL h hc hn' i (by omega)
  simpa [List.getD_eq_getElem?_getD, hi1, hi2] using this
end
section
theorem roomA (env : Env) : Room (callerA.deeper env) 10 := Room.deeper (n := 10) (A := callerA) ⟨rfl, by decide, by decide⟩ env
set_option maxHeartbeats 8000000 in
theorem final : PySem.Challenge.rw_sj0036_01.Holds := by
  w_on
  refine holds_law ws fun said => ?_
  refine holds_open (r := OpenLaw.row PySem.Challenge.rw_sj0036_01) (q := hd.view_39) (loose := [Str.ofString "GateloomError"]) (XP := XL hd.view_39 []) (YP := Hook.says (kmHook hd.heap_39 hdAs hdAs_eq [223, 37])) left (Hook.of (kmHook hd.heap_39 hdAs hdAs_eq [223, 37])) (Hook.keeps (kmHook hd.heap_39 hdAs hdAs_eq [223, 37])) (fun s e => xl_of s (Bool.and_eq_true_iff.mp e).1) XL.keeps (by rfl) (by rfl) (by rfl) (fun s e => recFacts_of (Bool.and_eq_true_iff.mp e).2) (by rfl) (by first | assumption | decide +kernel) (by decide +kernel) ⟨rfl, rfl, rfl, rfl, rfl, by decide +kernel⟩ ?hw ?hc
  case hw => w_witness2
  k_fill
  intro w s₀ s₁ mg mb G Y fa o pm cd doc dV kV ho hd hcd hD hmg hg args vals as hpre hlay hrd hwl hlo
  have KX := km_in_of Y
  have hT8 := km_tabs_of Y
  have X := (Ground.X G).1
  have V := (Ground.X G).2
  refine Ground.open G ?_
  intro T B D TE TW
  try (refine guard_noD D (by decide +kernel) ?_; clear D)
  have hT9 : TabsAt [(225, 223), (41, 37)] s₁.heap := List.forall_mem_cons.mpr ⟨⟨codeHd_of_K (c := 225) (P := 223) KX (by kernel_rfl), hT8 223 (.head _)⟩, List.forall_mem_cons.mpr ⟨⟨codeHd_of_K (c := 41) (P := 37) KX (by kernel_rfl), hT8 37 (.tail _ (.head _))⟩, fun _ h => nomatch h⟩⟩
  clear hmg
  wrow_args hpre hlay hrd hwl hlo
  first | refine callC_kw (enter_call ?_) | refine enter_call ?_
  w_top on
  kn_posts
  w_call any ho hd hcd hD T F
  clear hd
  kn_ghosts F T
  k_drop
  refine law_run _ ⟨by assumption, by assumption, by assumption, by assumption⟩ _ ?room ?hfn plain_turns (by assumption) (by assumption) ?hb (by assumption) (by assumption) ?hcell ?hm ?c
  case room => exact roomA _
  case hfn => exact rfl
  case hb => omega
  case hcell =>
    refine' Eq.trans (b := ?bbb) ?hh1 ?hh2
    case hh1 => assumption
    case hh2 => exact rfl
  case hm => exact rfl
  case c =>
    intro h' tk keep g1 g2
    exact ⟨⟨.inl ⟨.bool true, .bool true, [], rfl, fun _ => rfl, .bool true, (by refine' postW_of ?ps9 ?pv9 ?pe9; (case ps9 => o_shape); (case pv9 => wtm_val); (case pe9 => w_fin)), fun _ => ⟨List.nodup_nil, fun _ h => nomatch h⟩⟩, keep, rfl, by assumption⟩, g1, g2, trivial⟩
end
end Mine
theorem PySem.Challenge.cw_sj0036_01_holds : PySem.Challenge.rw_sj0036_01.Holds := by
  exact Mine.final
